import PyProof.Rows.All
import Wide.All
import OpenK.AllK
import Wide.FinOn
import HandS.ForMost
import HandS.ForExc
import HandS.IsInst
import HandS.Lambda
import HandS.Flow
import HandS.Star
import KE.DataEq
import HandS.Wide
import HandS.TupAny
import HandS.TupMul
import HandS.Style
import HandS.TupLe
import HandS.Defaults
import KE.GoesMore
import KE.GoesEnum
import HandS.Zip
import HandS.Iter
import HandS.Words
import HandS.EndBits
import HandS.Ends
import HandS.RaiseMore
import PyProof.StrLawsRepr
import HandS.ExcInit
import HandS.ExcIs
import HandS.ExcField
import HandS.TryMany
import KE.KExcInit
import KE.SortData
import HandS.SortInts
import HandS.More
import HandS.Deep
import HandS.Conv
import HandS.Property
import PyProof.InstEq
import HandS.Nested
import KE.KSuper
import HandS.EndTab
import HandS.TupSets
import HandS.SetBool
import HandS.DictComp
import HandS.TupLen
import KE.KDictCopyH
import HandS.ClsMeth
import KE.RegKSuper
import HandS.GenList
import HandS.OwnIter
import KE.KDictPairs
import KE.KTupSum
import HandS.HeadNt
import PyProof.Rows.IntBool
import PyProof.CallStr
import KE.OsRunLaw
import PySem.Challenge.RW_jumpsets_k62_networks_link_by_link
set_option Elab.async false
set_option linter.all false
set_option maxRecDepth 100000
set_option maxHeartbeats 4000000
set_option exponentiation.threshold 100
namespace HeadFirst
open PySem PySem.W PyProof.Rows
/-- the same Hook; a hypothesis stays named in it -/
def keepH {C : Prop} (_ : C) (H : Hook) : Hook := H
/-- the run read off the tree, for a head that also tells of tables of lambdas -/
theorem left_oneM {p q : Program} {loose : List PySem.Str} {Xt : Shared → Bool} {K : Params → Frag} {as ts : List Addr} {ek : ∀ P, as = (K P).map (·.1)} {N M : Nat} (e : opening p = plainProg p.main.scope.names) (hN : Nat.ble 600 N = true) (f : ∀ s, fenceModules? p s = some s) (le : Nat.ble M N = true)
    (run : ∀ (w : World) (os : OsState), (HeadRun.endF (HeadRun.stepQ (HeadRun.denQ HeadRun.tabQ) p w) M p w os).map (fun s => (HeadRun.looksF p (boot_heap w.params) s.abs, HeadRun.seenQ q loose (importedModules p.main.body) Xt s.abs, (as.map (HeadRun.getT s), ts.map (HeadRun.getT s)))) = some (true, openGood q loose, ((K w.params).map (fun x => some x.2), ts.map fun _ => some (tabObj #[])))) :
    LeftO p q loose Xt (Hook.obs (kmHook K as ek ts)) (Hook.val (kmHook K as ek ts)) N true := by
  refine HeadRun.left_one (M := M) e hN f le fun w os => ?_
  have g : ∀ (l : List Addr) s, l.map (HeadRun.getT s) = l.map s.abs.heap.get? := fun l s => List.map_congr_left fun a _ => HeadRun.getT_eq s a
  have z := run w os
  simp only [g] at z
  simp only [HeadRun.endQ_eq, HeadRun.seenQ_eq]
  exact z
theorem keepD {A : Prop} (h : A) (_ : ∀ _ os : Unit, os = os) : A := h
theorem split3 {α A B C : Type} {o : Option α} {f : α → A} {g : α → B} {h : α → C} {a : A} {b : B} {c : C} (h1 : o.map f = some a) (h2 : o.map g = some b) (h3 : o.map h = some c) : o.map (fun x => (f x, g x, h x)) = some (a, b, c) := by
  cases o with
  | none => cases h1
  | some x => simp only [Option.map_some, Option.some.injEq] at *; rw [h1, h2, h3]
section
local macro_rules | `(tactic| refine $f:ident $args*) => do
  if f.getId.eraseMacroScopes == `HeadRun.left_oneK then
    let a := args.pop
    let i := Lean.mkIdent `hr
    let f := Lean.mkIdent `HeadFirst.left_oneM
    `(tactic| (refine HeadFirst.keepD ?_ ?_; apply $f $a*; exact $i))
  else Lean.Macro.throwUnsupported
local macro_rules | `(tactic| o_head $h:term) => let i := Lean.mkIdent `hc; `(tactic| o_headL (keepH $i $h))
local macro_rules | `(tactic| o_headL (kHook $a $b $c)) => let i := Lean.mkIdent `hc; `(tactic| o_headL (keepH $i (kHook $a $b $c)))
set_option maxHeartbeats 0 in
noncomputable def head : (R : Prop) ×' (C : Prop) ×' (R → C → PySem.Challenge.rw_jumpsets_k62_networks_link_by_link.Holds) := ⟨_, _, fun hr hc => by
  w_on; o_law; k_head; (case hw => w_witness2)
  delta keepH
  exact hc⟩
end
noncomputable def runs : (A B C : Prop) ×' (A → B → C → head.1) := ⟨_, _, _, fun a b c => by
  delta head
  dsimp only
  intro w os
  refine split3 ?_ ?_ ?_
  · revert w os; exact a
  · revert w os; exact b
  · revert w os; exact c⟩
theorem run1 : runs.1 := by
  delta runs
  dsimp only
  intro w os
  kernel_rfl
theorem pairS {α A B : Type} {o : Option α} {f : α → A × B} {c : A × B} (h1 : o.map (fun x => (f x).1) = some c.1) (h2 : o.map (fun x => (f x).2) = some c.2) : o.map f = some c := by
  cases o with
  | none => cases h1
  | some x => simp only [Option.map_some, Option.some.injEq] at *; exact Prod.ext h1 h2
noncomputable def looks : (A1 A2 A3 A4 A5 A6 A7 A8 A9 : Prop) ×' (A1 → A2 → A3 → A4 → A5 → A6 → A7 → A8 → A9 → runs.2.1) := ⟨_, _, _, _, _, _, _, _, _,  fun a1 a2 a3 a4 a5 a6 a7 a8 a9 => by
  delta runs
  dsimp only
  intro w os
  refine pairS ?_ (pairS ?_ (pairS ?_ (pairS ?_ (pairS ?_ (pairS ?_ (pairS ?_ (pairS ?_ ?_)))))))
  all_goals (unfold HeadRun.seenQ PySem.W.Fast.tw4187177175401517315 PySem.W.openGood; dsimp only)
  · revert w os; exact a1
  · revert w os; exact a2
  · revert w os; exact a3
  · revert w os; exact a4
  · revert w os; exact a5
  · revert w os; exact a6
  · revert w os; exact a7
  · revert w os; exact a8
  · revert w os; exact a9⟩
theorem look1 : looks.1 := by
  delta looks
  dsimp only
  intro w os
  kernel_rfl
theorem look2 : looks.2.1 := by
  delta looks
  dsimp only
  intro w os
  kernel_rfl
theorem look3 : looks.2.2.1 := by
  delta looks
  dsimp only
  intro w os
  kernel_rfl
theorem look4 : looks.2.2.2.1 := by
  delta looks
  dsimp only
  intro w os
  kernel_rfl
theorem look5 : looks.2.2.2.2.1 := by
  delta looks
  dsimp only
  intro w os
  kernel_rfl
theorem look6 : looks.2.2.2.2.2.1 := by
  delta looks
  dsimp only
  intro w os
  kernel_rfl
theorem look7 : looks.2.2.2.2.2.2.1 := by
  delta looks
  dsimp only
  intro w os
  kernel_rfl
theorem look8 : looks.2.2.2.2.2.2.2.1 := by
  delta looks
  dsimp only
  intro w os
  kernel_rfl
theorem look9 : looks.2.2.2.2.2.2.2.2.1 := by
  delta looks
  dsimp only
  intro w os
  kernel_rfl
theorem run2 : runs.2.1 := looks.2.2.2.2.2.2.2.2.2 look1 look2 look3 look4 look5 look6 look7 look8 look9
theorem run3 : runs.2.2.1 := by
  delta runs
  dsimp only
  intro w os
  kernel_rfl
theorem run : head.1 := runs.2.2.2 run1 run2 run3
end HeadFirst
namespace Q
open PySem PySem.Spec PyProof.Rows L2

/-! ### the mirror's values, objects, results -/
inductive D where
  | non | bl (b : Bool) | int (i : Int) | str (x : Str) | tup (xs : List D) | ref (n : Nat) | ty (n : String) | adr (a : Addr) | kl (xs : List D) | exc (a d : Addr) (n : Nat)
inductive O where
  | lst (xs : List D) | dct (kvs : List (Key × D)) | ins (C : Addr) (fs : List (Str × D)) | xd (fs : List (Str × D)) | tab (P : Addr) (q : Str) | dcT (kvs : List (List Int × D)) | lkT (kvs : List (List Int × D))
abbrev Store := List O
abbrev En := List (Option D)
inductive Res (α : Type) where
  | ok (a : α) (S : Store) | err (C : Addr) (n : Option Nat) (S : Store) | bad
inductive SRes where
  | nx (e : En) (S : Store) | rt (d : D) (S : Store) | bk (e : En) (S : Store) | ct (e : En) (S : Store) | err (C : Addr) (n : Option Nat) (e : En) (S : Store) | bad
def Res.bind {α β : Type} (m : Res α) (f : α → Store → Res β) : Res β := match m with
  | .ok a S => f a S
  | .err C n S => .err C n S
  | .bad => .bad
def ofOpt {α : Type} : Option (α × Store) → Res α
  | some (a, S) => .ok a S
  | none => .bad
/-- an expression's result within a statement -/
def Res.stm {α : Type} (m : Res α) (e : En) (f : α → Store → SRes) : SRes := match m with
  | .ok a S => f a S
  | .err C n S => .err C n e S
  | .bad => .bad

/-! ### the relation with the abstract heap -/
/-- a list that is only read: the script, or an object of the module -/
def SqF (K : PySem.W.Frag) (H : Hp) (a : Addr) (xs : List V) : Prop := (∃ o, H a = some (.frz o (.lst xs))) ∨
  ∃ (o : Obj) (its : Array Value) (n : Nat), K.lookup a = some o ∧ o.cls = .type "list" ∧ o.dict = none ∧ o.data = .seq its n ∧ its.size ≤ sizeLine ∧ Vals xs its.toList
theorem SqF.l {K : PySem.W.Frag} {H : Hp} {a : Addr} {xs : List V} (h : SqF K H a xs) : SqL K H a xs := h.elim (fun q => .inl (.inr q)) .inr
mutual
def VR (K : PySem.W.Frag) (r : List Addr) (H : Hp) : D → V → Prop
  | .non, v => v = .non
  | .bl b, v => v = .bl b
  | .int i, v => v = .int i
  | .str x, v => v = .str x
  | .ty n, v => v = .ty n
  | .adr a, v => v = .ref a
  | .ref n, v => ∃ a, r[n]? = some a ∧ v = .ref a
  | .tup xs, v => ∃ a vs, v = .ref a ∧ H a = some (.tup vs) ∧ VRs K r H xs vs
  | .kl xs, v => ∃ a vs, v = .ref a ∧ SqF K H a vs ∧ VRs K r H xs vs
  | .exc a d n, v => v = .ref a ∧ r[n]? = some d
def VRs (K : PySem.W.Frag) (r : List Addr) (H : Hp) : List D → List V → Prop
  | [], vs => vs = []
  | d :: ds, vs => ∃ v ws, vs = v :: ws ∧ VR K r H d v ∧ VRs K r H ds ws
end
def keyD : D → Option Key
  | .int i => some (.inl i)
  | .str x => some (.inr x)
  | _ => none
def KR (K : PySem.W.Frag) (r : List Addr) (H : Hp) : List (Key × D) → List (Key × V) → Prop
  | [], vs => vs = []
  | p :: ds, vs => ∃ v ws, vs = (p.1, v) :: ws ∧ VR K r H p.2 v ∧ KR K r H ds ws
/-- a dict whose keys are tuples of ints -/
def KTR (K : PySem.W.Frag) (r : List Addr) (H : Hp) : List (List Int × D) → List (List Key × V) → Prop
  | [], vs => vs = []
  | p :: ds, vs => ∃ v ws, vs = (p.1.map Sum.inl, v) :: ws ∧ VR K r H p.2 v ∧ KTR K r H ds ws
def FR (K : PySem.W.Frag) (r : List Addr) (H : Hp) : List (Str × D) → List (Str × V) → Prop
  | [], vs => vs = []
  | p :: ds, vs => ∃ v ws, vs = (p.1, v) :: ws ∧ VR K r H p.2 v ∧ FR K r H ds ws
/-- what is asked of an own class whose instances the store holds -/
structure OwnOk (K : PySem.W.Frag) (C : Addr) : Prop where
  cl : Cls K C
  ha : PySem.W.findIn K (.ref C) "__class__" = some (some (.builtin "object.__class__"))
  hn : PySem.W.specialIn K (.builtin "object.__class__") "__get__" = some (some (.builtin "getset_descriptor.__get__"))
  htk : PySem.W.takesIn K (.builtin "object.__class__") = some true
  hm : PySem.W.mroIn K C (.type "object") = some true
  nT : ∀ T : String, T = "int" ∨ T = "bool" ∨ T = "tuple" ∨ T = "list" ∨ T = "str" ∨ T = "dict" → PySem.W.kitOne K (.ref C) (.type T) = some false
def OR (K : PySem.W.Frag) (r : List Addr) (H : Hp) : O → Addr → Prop
  | .lst xs, a => ∃ vs, H a = some (.lst vs) ∧ VRs K r H xs vs
  | .dct kvs, a => ∃ vs, H a = some (.dK vs) ∧ KR K r H kvs vs
  | .ins C fs, a => ∃ dx vs, H a = some (.ins C dx vs) ∧ FR K r H fs vs ∧ OwnOk K C
  | .xd fs, a => ∃ vs, H a = some (.xd vs) ∧ FR K r H fs vs
  | .tab P q, a => a = P ∧ LamX.TabS H P q
  | .dcT kvs, a => ∃ vs, H a = some (.dT vs) ∧ KTR K r H kvs vs
  | .lkT kvs, a => ∃ o vs, H a = some (.frz o (.dT vs)) ∧ KTR K r H kvs vs
/-- the dict of modules is none of the things that are told -/
def SysOk (K : PySem.W.Frag) (H : Hp) : Prop := (∃ o es ep, K.lookup sysModules = some o ∧ o.data = .dict es ep) ∨ ∃ o u es ep, H sysModules = some (.frz o (.own u)) ∧ o.data = .dict es ep
structure Stp (r : List Addr) (H : Hp) (r' : List Addr) (H' : Hp) : Prop where
  pre : ∀ (n : Nat) (a : Addr), r[n]? = some a → r'[n]? = some a
  tup : ∀ (a : Addr) (xs : List V), H a = some (.tup xs) → H' a = some (.tup xs)
  frz : ∀ (a : Addr) (o : Obj) (u : HO), H a = some (.frz o u) → H' a = some (.frz o u)
  ext : ∀ (a : Addr) (q : Heap → Prop), H a = some (.ext q) → H' a = some (.ext q)
theorem Stp.cod {r r' : List Addr} {H H' : Hp} (s : Stp r H r' H') (a : Addr) (q : Str) (h : H a = some (LamX.CodeO a q)) : H' a = some (LamX.CodeO a q) := s.ext a _ h
/-- what else is known all along (of a lambda that is under way) -/
class Ghost where
  P : List Addr → Hp → Prop
  mono : ∀ {r r' : List Addr} {H H' : Hp}, Stp r H r' H' → P r H → P r' H'
/-- nothing else -/
instance (priority := low) Ghost.no : Ghost := ⟨fun _ _ => True, fun _ _ => trivial⟩
/-- what is known of the guards around (nothing, within a generator) -/
class Grd where
  ok : Option (List PySem.Code) → Prop
instance (priority := low) Grd.std : Grd := ⟨fun g => g = some []⟩
class GrdS (G : Grd) : Prop where
  std : ∀ {g : Option (List PySem.Code)}, G.ok g → g = some []
instance : GrdS Grd.std := ⟨id⟩
def Grd.any : Grd := ⟨fun _ => True⟩
theorem Grd.tr {G : Grd} {a b : Option (List PySem.Code)} (e : a = b) (h : G.ok b) : G.ok a := e ▸ h
variable [Gh : Ghost]
structure ROk (K : PySem.W.Frag) (r : List Addr) (H : Hp) (S : Store) : Prop where
  sys : SysOk K H
  len : r.length = S.length
  nd : r.Nodup
  ob : ∀ (n : Nat) (o : O) (a : Addr), S[n]? = some o → r[n]? = some a → OR K r H o a
  gh : Gh.P r H
theorem Stp.refl (r : List Addr) (H : Hp) : Stp r H r H := ⟨fun _ _ h => h, fun _ _ h => h, fun _ _ _ h => h, fun _ _ h => h⟩
theorem Stp.trans {r r1 r2 : List Addr} {H H1 H2 : Hp} (a : Stp r H r1 H1) (b : Stp r1 H1 r2 H2) : Stp r H r2 H2 :=
  ⟨fun n x h => b.pre n x (a.pre n x h), fun p xs h => b.tup p xs (a.tup p xs h), fun p o u h => b.frz p o u (a.frz p o u h), fun p q h => b.ext p q (a.ext p q h)⟩
section
variable {K : PySem.W.Frag} {r r' : List Addr} {H H' : Hp}
theorem SysOk.mono (s : Stp r H r' H') (h : SysOk K H) : SysOk K H' := h.elim .inl fun ⟨o, u, es, ep, e, q⟩ => .inr ⟨o, u, es, ep, s.frz _ _ _ e, q⟩
theorem Stp.sqT (s : Stp r H r' H') {a : Addr} {vs : List V} (h : SqT K H a vs) : SqT K H' a vs := by
  rcases h with (h | ⟨o, h⟩) | h
  · exact .inl (.inl (s.tup _ _ h))
  · exact .inl (.inr ⟨o, s.frz _ _ _ h⟩)
  · exact .inr h
theorem Stp.sqF (s : Stp r H r' H') {a : Addr} {vs : List V} (h : SqF K H a vs) : SqF K H' a vs := h.elim (fun ⟨o, q⟩ => .inl ⟨o, s.frz _ _ _ q⟩) .inr
theorem sqT_of {a : Addr} {vs : List V} (h : H a = some (.tup vs)) : SqT K H a vs := .inl (.inl h)
mutual
theorem VR.mono (s : Stp r H r' H') : ∀ {d : D} {v : V}, VR K r H d v → VR K r' H' d v
  | .non, _, h => h
  | .bl _, _, h => h
  | .int _, _, h => h
  | .str _, _, h => h
  | .ty _, _, h => h
  | .adr _, _, h => h
  | .ref _, _, ⟨a, h1, h2⟩ => ⟨a, s.pre _ _ h1, h2⟩
  | .tup _, _, ⟨a, vs, h1, h2, h3⟩ => ⟨a, vs, h1, s.tup _ _ h2, VRs.mono s h3⟩
  | .kl _, _, ⟨a, vs, h1, h2, h3⟩ => ⟨a, vs, h1, s.sqF h2, VRs.mono s h3⟩
  | .exc _ _ _, _, ⟨h1, h2⟩ => ⟨h1, s.pre _ _ h2⟩
theorem VRs.mono (s : Stp r H r' H') : ∀ {ds : List D} {vs : List V}, VRs K r H ds vs → VRs K r' H' ds vs
  | [], _, h => h
  | _ :: _, _, ⟨v, ws, h1, h2, h3⟩ => ⟨v, ws, h1, VR.mono s h2, VRs.mono s h3⟩
end
theorem KR.mono (s : Stp r H r' H') : ∀ {ds : List (Key × D)} {vs : List (Key × V)}, KR K r H ds vs → KR K r' H' ds vs
  | [], _, h => h
  | _ :: _, _, ⟨v, ws, h1, h3, h4⟩ => ⟨v, ws, h1, h3.mono s, KR.mono s h4⟩
theorem KTR.mono (s : Stp r H r' H') : ∀ {ds : List (List Int × D)} {vs : List (List Key × V)}, KTR K r H ds vs → KTR K r' H' ds vs
  | [], _, h => h
  | _ :: _, _, ⟨v, ws, h1, h3, h4⟩ => ⟨v, ws, h1, h3.mono s, KTR.mono s h4⟩
theorem FR.mono (s : Stp r H r' H') : ∀ {ds : List (Str × D)} {vs : List (Str × V)}, FR K r H ds vs → FR K r' H' ds vs
  | [], _, h => h
  | _ :: _, _, ⟨v, ws, h1, h3, h4⟩ => ⟨v, ws, h1, h3.mono s, FR.mono s h4⟩
/-- a tracked object's description where its own object is kept -/
theorem OR.mono (s : Stp r H r' H') {o : O} {a : Addr} (k : H' a = H a) (h : OR K r H o a) : OR K r' H' o a := by
  cases o with
  | lst xs => obtain ⟨vs, h1, h2⟩ := h; exact ⟨vs, k.trans h1, h2.mono s⟩
  | dct kvs => obtain ⟨vs, h1, h2⟩ := h; exact ⟨vs, k.trans h1, h2.mono s⟩
  | ins C fs => obtain ⟨dx, vs, h1, h2, h3⟩ := h; exact ⟨dx, vs, k.trans h1, h2.mono s, h3⟩
  | xd fs => obtain ⟨vs, h1, h2⟩ := h; exact ⟨vs, k.trans h1, h2.mono s⟩
  | dcT kvs => obtain ⟨vs, h1, h2⟩ := h; exact ⟨vs, k.trans h1, h2.mono s⟩
  | lkT kvs => obtain ⟨x, vs, h1, h2⟩ := h; exact ⟨x, vs, k.trans h1, h2.mono s⟩
  | tab P q =>
    obtain ⟨e, ps, h1, h2, h3⟩ := h
    subst e
    refine ⟨rfl, ps, k.trans h1, h2, fun pos cv hc => ?_⟩
    obtain ⟨c, e1, e2⟩ := h3 pos cv hc
    exact ⟨c, e1, s.cod _ _ e2⟩
theorem OR.some {o : O} {a : Addr} (h : OR K r H o a) : H a ≠ none := by
  cases o with
  | lst xs => obtain ⟨vs, h1, h2⟩ := h; rw [h1]; exact fun z => nomatch z
  | dct kvs => obtain ⟨vs, h1, h2⟩ := h; rw [h1]; exact fun z => nomatch z
  | ins C fs => obtain ⟨dx, vs, h1, h2⟩ := h; rw [h1]; exact fun z => nomatch z
  | xd fs => obtain ⟨vs, h1, h2⟩ := h; rw [h1]; exact fun z => nomatch z
  | dcT kvs => obtain ⟨vs, h1, h2⟩ := h; rw [h1]; exact fun z => nomatch z
  | lkT kvs => obtain ⟨x, u, h1, _⟩ := h; rw [h1]; exact fun z => nomatch z
  | tab P q => obtain ⟨e, ps, h1, _⟩ := h; subst e; rw [h1]; exact fun z => nomatch z
theorem ROk.at {S : Store} (h : ROk K r H S) {n : Nat} {o : O} (e : S[n]? = some o) : ∃ a, r[n]? = some a ∧ OR K r H o a := by
  have hn : n < r.length := by rw [h.len]; exact (List.getElem?_eq_some_iff.mp e).1
  exact ⟨r[n], List.getElem?_eq_getElem hn, h.ob n o _ e (List.getElem?_eq_getElem hn)⟩
/-- a new object -/
theorem Stp.new {p : Addr} {u : HO} (hp : H p = none) : Stp r H (r ++ [p]) (upd H p u) :=
  ⟨fun n a h => by rw [List.getElem?_append_left (List.getElem?_eq_some_iff.mp h).1]; exact h,
   fun a xs h => by rw [upd_ne (ne_of_none h hp)]; exact h, fun a o u h => by rw [upd_ne (ne_of_none h hp)]; exact h, fun a q h => by rw [upd_ne (ne_of_none h hp)]; exact h⟩
theorem ROk.mem_ne {S : Store} (h : ROk K r H S) {p : Addr} (hp : H p = none) : p ∉ r := fun hm => by
  obtain ⟨n, hn, e⟩ := List.getElem_of_mem hm
  have hS : n < S.length := by rw [← h.len]; exact hn
  have := (h.ob n S[n] p (List.getElem?_eq_getElem hS) (by rw [List.getElem?_eq_getElem hn, e])).some
  exact this hp
theorem ROk.new {S : Store} (h : ROk K r H S) {p : Addr} {u : HO} {o : O} (hp : H p = none) (ho : OR K (r ++ [p]) (upd H p u) o p) : ROk K (r ++ [p]) (upd H p u) (S ++ [o]) where
  sys := h.sys.mono (Stp.new (r := r) hp)
  gh := Ghost.mono (Stp.new hp) h.gh
  len := by rw [List.length_append, List.length_append, h.len]; rfl
  nd := List.nodup_append.mpr ⟨h.nd, by simp, fun a ha b hb => by
    rw [List.mem_singleton.mp hb]
    intro e
    exact h.mem_ne hp (e ▸ ha)⟩
  ob := fun n o' a e1 e2 => by
    by_cases hn : n < S.length
    · rw [List.getElem?_append_left hn] at e1
      rw [List.getElem?_append_left (by rw [h.len]; exact hn)] at e2
      have hne : a ≠ p := fun e => h.mem_ne hp (e ▸ List.mem_of_getElem? e2)
      exact (h.ob n o' a e1 e2).mono (Stp.new hp) (upd_ne hne)
    · have hl : n < (S ++ [o]).length := (List.getElem?_eq_some_iff.mp e1).1
      rw [List.length_append] at hl
      have en : n = S.length := by simp at hl; omega
      subst en
      rw [List.getElem?_append_right (Nat.le_refl _), Nat.sub_self] at e1
      rw [List.getElem?_append_right (by rw [h.len]; exact Nat.le_refl _), h.len, Nat.sub_self] at e2
      cases e1; cases e2
      exact ho
/-- a fresh object that the store doesn't hold -/
theorem Stp.loose {p : Addr} {u : HO} (hp : H p = none) : Stp r H r (upd H p u) :=
  ⟨fun n a h => h, fun a xs h => by rw [upd_ne (ne_of_none h hp)]; exact h, fun a o u h => by rw [upd_ne (ne_of_none h hp)]; exact h, fun a q h => by rw [upd_ne (ne_of_none h hp)]; exact h⟩
theorem ROk.loose {S : Store} (h : ROk K r H S) {p : Addr} {u : HO} (hp : H p = none) : ROk K r (upd H p u) S where
  sys := h.sys.mono (Stp.loose (r := r) hp)
  gh := Ghost.mono (Stp.loose hp) h.gh
  len := h.len
  nd := h.nd
  ob := fun n o' a e1 e2 => (h.ob n o' a e1 e2).mono (Stp.loose hp) (upd_ne fun e => h.mem_ne hp (e ▸ List.mem_of_getElem? e2))
/-- an object changed -/
theorem Stp.mut {p : Addr} {u v : HO} (hp : H p = some v) (hv : Mut (some v)) (hx : ∀ F, v ≠ .ext F := by intro _ z; cases z) : Stp r H r (upd H p u) :=
  ⟨fun n a h => h, fun a xs h => by
    rw [upd_ne]; · exact h
    intro e; subst e; rw [hp] at h; cases h; exact hv, fun a o u h => by
    rw [upd_ne]; · exact h
    intro e; subst e; rw [hp] at h; cases h; exact hv, fun a q h => by
    rw [upd_ne]; · exact h
    intro e; subst e; rw [hp] at h; exact hx _ (Option.some.inj h)⟩
theorem ROk.mut {S : Store} (h : ROk K r H S) {n : Nat} {p : Addr} {u v : HO} {o : O} (hn : r[n]? = some p) (hp : H p = some v) (hv : Mut (some v)) (ho : OR K r (upd H p u) o p) (hx : ∀ F, v ≠ .ext F := by intro _ z; cases z) : ROk K r (upd H p u) (S.set n o) where
  sys := h.sys.mono (Stp.mut (r := r) hp hv hx)
  gh := Ghost.mono (Stp.mut hp hv hx) h.gh
  len := by rw [List.length_set]; exact h.len
  nd := h.nd
  ob := fun m o' a e1 e2 => by
    by_cases e : m = n
    · subst e
      rw [hn] at e2; cases e2
      have hl : m < S.length := by rw [← h.len]; exact (List.getElem?_eq_some_iff.mp hn).1
      rw [List.getElem?_set_self hl] at e1
      cases e1
      exact ho
    · rw [List.getElem?_set_ne (Ne.symm e)] at e1
      have hne : a ≠ p := fun z => by
        subst z
        obtain ⟨h1, q1⟩ := List.getElem?_eq_some_iff.mp e2
        obtain ⟨h2, q2⟩ := List.getElem?_eq_some_iff.mp hn
        exact e ((List.getElem_inj h.nd).mp (q1.trans q2.symm))
      exact (h.ob m o' a e1 e2).mono (Stp.mut hp hv hx) (upd_ne hne)
theorem VRs.length : ∀ {ds : List D} {vs : List V}, VRs K r H ds vs → ds.length = vs.length
  | [], _, h => by subst h; rfl
  | _ :: _, _, ⟨v, ws, h1, _, h3⟩ => by subst h1; simp [VRs.length h3]
theorem VRs.get : ∀ {ds : List D} {vs : List V} {i : Nat} {d : D}, VRs K r H ds vs → ds[i]? = some d → ∃ v, vs[i]? = some v ∧ VR K r H d v
  | [], _, _, _, _, e => by simp at e
  | _ :: _, _, 0, _, ⟨v, ws, h1, h2, _⟩, e => by subst h1; simp at e; subst e; exact ⟨v, rfl, h2⟩
  | _ :: _, _, i + 1, _, ⟨v, ws, h1, _, h3⟩, e => by subst h1; simp at e; simpa using VRs.get h3 e
theorem VRs.append : ∀ {ds es : List D} {vs ws : List V}, VRs K r H ds vs → VRs K r H es ws → VRs K r H (ds ++ es) (vs ++ ws)
  | [], _, _, _, h, k => by subst h; exact k
  | _ :: _, _, _, _, ⟨v, us, h1, h2, h3⟩, k => by subst h1; exact ⟨v, us ++ _, rfl, h2, VRs.append h3 k⟩
theorem VRs.take : ∀ {ds : List D} {vs : List V} (n : Nat), VRs K r H ds vs → VRs K r H (ds.take n) (vs.take n)
  | [], _, n, h => by subst h; simp [VRs]
  | _ :: _, _, 0, ⟨v, us, h1, h2, h3⟩ => by simp [VRs]
  | _ :: _, _, n + 1, ⟨v, us, h1, h2, h3⟩ => by subst h1; exact ⟨v, us.take n, by simp, h2, VRs.take n h3⟩
theorem VRs.drop : ∀ {ds : List D} {vs : List V} (n : Nat), VRs K r H ds vs → VRs K r H (ds.drop n) (vs.drop n)
  | [], _, n, h => by subst h; simp [VRs]
  | _ :: _, _, 0, h => by simpa using h
  | _ :: _, _, n + 1, ⟨v, us, h1, h2, h3⟩ => by subst h1; simpa using VRs.drop n h3
theorem VRs.set : ∀ {ds : List D} {vs : List V} {d : D} {v : V} (i : Nat), VR K r H d v → VRs K r H ds vs → VRs K r H (ds.set i d) (vs.set i v)
  | [], _, _, _, _, _, h => by subst h; simp [VRs]
  | _ :: _, _, _, _, 0, k, ⟨v, us, h1, h2, h3⟩ => by subst h1; exact ⟨_, _, rfl, k, h3⟩
  | _ :: _, _, _, _, i + 1, k, ⟨v, us, h1, h2, h3⟩ => by subst h1; exact ⟨_, _, rfl, h2, VRs.set i k h3⟩
theorem VRs.one {d : D} {v : V} (h : VR K r H d v) : VRs K r H [d] [v] := ⟨v, [], rfl, h, rfl⟩
end
end Q

namespace Q
open PySem PySem.Spec PyProof.Rows L2
variable [Gh : Ghost]

/-! ### weakest readings -/
def wE (X : Cx) (e : Expr) : TE := fun σ H Q => ∀ (pins : List (Addr × Obj)) (s : Shared), Inv X pins σ H s → wpAny (model X.prog X.w) X.A (eval e X.env) (EP X pins σ Q) X.xe s
def wT (X : Cx) (e : Expr) : TT := fun σ H Q => ∀ (pins : List (Addr × Obj)) (s : Shared), Inv X pins σ H s → wpAny (model X.prog X.w) X.A (isTrue e X.env (eval e X.env)) (TP X pins σ Q) X.xe s
def wA (X : Cx) (es : List Expr) : TA := fun σ H Q => ∀ (pos : Pos) (pins : List (Addr × Obj)) (s : Shared), Inv X pins σ H s → wpAny (model X.prog X.w) X.A (spliced (backTo pos (starEach es X.env))) (AP X pins σ Q) X.xe s
def wS (X : Cx) (st : Stmt) : TS := fun D σ H => ∀ (pins : List (Addr × Obj)) (s : Shared), Inv X pins σ H s → wpAny (model X.prog X.w) X.A (exec st X.env) (SP X pins D) X.xe s
def wSs (X : Cx) (st : List Stmt) : TS := fun D σ H => ∀ (pins : List (Addr × Obj)) (s : Shared), Inv X pins σ H s → wpAny (model X.prog X.w) X.A (execs st X.env) (SP X pins D) X.xe s
theorem pe_wE (X : Cx) (e : Expr) : PE X e (wE X e) := ⟨fun pins s _ _ _ I h => h pins s I⟩
theorem pt_wT (X : Cx) (e : Expr) : PT X e (wT X e) := ⟨fun pins s _ _ _ I h => h pins s I⟩
theorem pa_wA (X : Cx) (es : List Expr) : PA X es (wA X es) := ⟨fun pos pins s _ _ _ I h => h pos pins s I⟩
theorem ps_wS (X : Cx) (st : Stmt) : PS X st (wS X st) := ⟨fun pins s _ _ _ I h => h pins s I⟩
theorem pss_wSs (X : Cx) (st : List Stmt) : PSs X st (wSs X st) := ⟨fun pins s _ _ _ I h => h pins s I⟩
/-- operators by values -/
def wO (X : Cx) (f : Value → Value → Sem Value) : R2 := fun x y H Q => ∀ (pins : List (Addr × Obj)) (s : Shared) (σ : L2.St) (v u : Value), Inv X pins σ H s → RelV x v → RelV y u → wpAny (model X.prog X.w) X.A (f v u) (EP X pins σ Q) X.xe s
theorem opr_wO (X : Cx) (f : Value → Value → Sem Value) : OpR X f (wO X f) := fun pins s σ _ _ _ v u _ I rx ry h => h pins s σ v u I rx ry
def wU (X : Cx) (f : Value → Sem Value) : V → Hp → VK → Prop := fun x H Q => ∀ (pins : List (Addr × Obj)) (s : Shared) (σ : L2.St) (v : Value), Inv X pins σ H s → RelV x v → wpAny (model X.prog X.w) X.A (f v) (EP X pins σ Q) X.xe s
theorem unr_wU (X : Cx) (f : Value → Sem Value) : UnR X f (wU X f) := fun pins s σ _ _ v _ I rx h => h pins s σ v I rx
def wC (X : Cx) (f : Value) : List V → Hp → VK → Prop := fun xs H Q => ∀ (pins : List (Addr × Obj)) (s : Shared) (σ : L2.St) (us : List Value), Inv X pins σ H s → Vals xs us → wpAny (model X.prog X.w) X.A (call f us) (EP X pins σ Q) X.xe s
theorem callr_wC (X : Cx) (f : Value) : CallR X f (wC X f) := fun pins s σ _ _ us _ I r h => h pins s σ us I r

/-! ### what a result promises -/
def NR (r : List Addr) (n : Option Nat) (x : Option Addr) : Prop := match n with
  | none => x = none
  | some n => ∃ a, r[n]? = some a ∧ x = some a
/-- β: the values; R: how the mirror's thing is told by the value -/
def Dn (K : PySem.W.Frag) (r : List Addr) (H : Hp) {α β : Type} (R : List Addr → Hp → α → β → Prop) (m : Res α) (Q : β → Hp → Prop) (W : XK) : Prop := match m with
  | .ok a S' => ∀ (r' : List Addr) (H' : Hp) (v : β), Stp r H r' H' → ROk K r' H' S' → R r' H' a v → Q v H'
  | .err C n S' => ∀ (r' : List Addr) (H' : Hp) (x : Option Addr), Stp r H r' H' → ROk K r' H' S' → NR r' n x → W (.ref C) x H'
  | .bad => False
def RT : List Addr → Hp → Bool → Bool → Prop := fun _ _ a b => b = a
section
variable {K : PySem.W.Frag} {r r1 : List Addr} {H H1 : Hp} {α β γ δ : Type} {R : List Addr → Hp → α → β → Prop} {R2 : List Addr → Hp → γ → δ → Prop} {m : Res α} {f : α → Store → Res γ} {Q : β → Hp → Prop} {Q2 : δ → Hp → Prop} {W : XK}
theorem Dn.mono (s : Stp r H r1 H1) (h : Dn K r H R m Q W) : Dn K r1 H1 R m Q W := by
  cases m with
  | ok a S => exact fun r' H' v s' o k => h r' H' v (s.trans s') o k
  | err C n S => exact fun r' H' x s' o k => h r' H' x (s.trans s') o k
  | bad => exact h
theorem Dn.imp {Q' : β → Hp → Prop} (h : Dn K r H R m Q W) (q : ∀ v H', Q v H' → Q' v H') : Dn K r H R m Q' W := by
  cases m with
  | ok a S => exact fun r' H' v s' o k => q _ _ (h r' H' v s' o k)
  | err C n S => exact fun r' H' x s' o k => h r' H' x s' o k
  | bad => exact h
theorem Dn.bind (h : Dn K r H R2 (m.bind f) Q2 W) : Dn K r H R m (fun v H1 => ∃ a S1 r1, m = .ok a S1 ∧ Stp r H r1 H1 ∧ ROk K r1 H1 S1 ∧ R r1 H1 a v ∧ Dn K r1 H1 R2 (f a S1) Q2 W) W := by
  cases m with
  | ok a S => exact fun r' H' v s o k => ⟨a, S, r', rfl, s, o, k, Dn.mono s h⟩
  | err C n S => exact fun r' H' x s' o k => h r' H' x s' o k
  | bad => exact h
theorem Dn.ok_here {S : Store} {a : α} {v : β} (h : Dn K r H R (.ok a S) Q W) (o : ROk K r H S) (k : R r H a v) : Q v H := h r H v (Stp.refl _ _) o k
end

/-! ### slots -/
structure ER (K : PySem.W.Frag) (r : List Addr) (H : Hp) (e : En) (σ : L2.St) : Prop where
  len : e.length = σ.length
  at_ : ∀ (i : Nat) (d : D), e[i]? = some (some d) → ∃ v, σ[i]? = some (some v) ∧ VR K r H d v
theorem ER.mono {K : PySem.W.Frag} {r r' : List Addr} {H H' : Hp} {e : En} {σ : L2.St} (s : Stp r H r' H') (h : ER K r H e σ) : ER K r' H' e σ :=
  ⟨h.len, fun i d q => let ⟨v, h1, h2⟩ := h.at_ i d q; ⟨v, h1, h2.mono s⟩⟩
theorem ER.set {K : PySem.W.Frag} {r : List Addr} {H : Hp} {e : En} {σ : L2.St} {i : Nat} {d : D} {v : V} (h : ER K r H e σ) (k : VR K r H d v) : ER K r H (e.set i (some d)) (σ.set i (some v)) :=
  ⟨by rw [List.length_set, List.length_set]; exact h.len, fun j d' q => by
    by_cases e' : j = i
    · subst e'
      by_cases hl : j < e.length
      · rw [List.getElem?_set_self hl] at q
        cases q
        exact ⟨v, by rw [List.getElem?_set_self (by rw [← h.len]; exact hl)], k⟩
      · rw [List.getElem?_eq_none (by rw [List.length_set]; omega)] at q
        cases q
    · rw [List.getElem?_set_ne (Ne.symm e')] at q
      obtain ⟨v', h1, h2⟩ := h.at_ j d' q
      exact ⟨v', by rw [List.getElem?_set_ne (Ne.symm e')]; exact h1, h2⟩⟩
/-! ### the judgements -/
abbrev ME := En → Store → Res D
abbrev MT := En → Store → Res Bool
abbrev MA := En → Store → Res (List D)
def WE (W : WX) (σ : L2.St) : XK := fun c x H => W c x σ H
structure SndE (X : Cx) (e : Expr) (m : ME) : Prop where
  run : ∀ (W : WX), Takes X W → ∀ (en : En) (σ : L2.St) (r : List Addr) (H : Hp) (S : Store) (Q : VK), ER X.K r H en σ → ROk X.K r H S → Dn X.K r H (VR X.K) (m en S) Q (WE W σ) → wE X e σ H Q
structure SndT (X : Cx) (e : Expr) (m : MT) : Prop where
  run : ∀ (W : WX), Takes X W → ∀ (en : En) (σ : L2.St) (r : List Addr) (H : Hp) (S : Store) (Q : Bool → Hp → Prop), ER X.K r H en σ → ROk X.K r H S → Dn X.K r H RT (m en S) Q (WE W σ) → wT X e σ H Q
structure SndA (X : Cx) (es : List Expr) (m : MA) : Prop where
  run : ∀ (W : WX), Takes X W → ∀ (en : En) (σ : L2.St) (r : List Addr) (H : Hp) (S : Store) (Q : List V → Hp → Prop), ER X.K r H en σ → ROk X.K r H S → Dn X.K r H (VRs X.K) (m en S) Q (WE W σ) → wA X es σ H Q
theorem wE_of {X : Cx} {e : Expr} {t : TE} (h : PE X e t) {σ : L2.St} {H : Hp} {Q : VK} (q : t σ H Q) : wE X e σ H Q := fun pins s I => h.run pins s σ H Q I q
theorem wT_of {X : Cx} {e : Expr} {t : TT} (h : PT X e t) {σ : L2.St} {H : Hp} {Q : Bool → Hp → Prop} (q : t σ H Q) : wT X e σ H Q := fun pins s I => h.run pins s σ H Q I q
theorem wA_of {X : Cx} {e : List Expr} {t : TA} (h : PA X e t) {σ : L2.St} {H : Hp} {Q : List V → Hp → Prop} (q : t σ H Q) : wA X e σ H Q := fun pos pins s I => h.run pos pins s σ H Q I q

/-! ### names, constants -/
def mVar (i : Nat) : ME := fun en S => match en[i]? with
  | some (some d) => .ok d S
  | _ => .bad
def mC (d : D) : ME := fun _ S => .ok d S
section
variable {X : Cx} {a b c : Expr} {ma mb mc : ME} {pos : Pos}
theorem e_var {i : Nat} {x : Str} {pos : Pos} (hN : X.N[i]? = some x) (hv : Vis X.env.scope x) (hd : (x == ("__debug__" : Str)) = false := by decide) (hcd : (x == ("__classdict__" : Str)) = false := by decide) : SndE X (.Name x pos) (mVar i) := by
  refine ⟨?_⟩
  intro W tk en σ r H S Q er ro dn
  refine wE_of (pe_var hN hv hd hcd) ?_
  unfold mVar at dn
  cases h : en[i]? with
  | none => rw [h] at dn; exact dn.elim
  | some o =>
    cases o with
    | none => rw [h] at dn; exact dn.elim
    | some d =>
      rw [h] at dn
      obtain ⟨v, h1, h2⟩ := er.at_ i d h
      exact ⟨v, h1, dn.ok_here ro h2⟩
theorem e_const {e : Expr} {d : D} {v : V} (h : PE X e (tC v)) (k : ∀ r H, VR X.K r H d v) : SndE X e (mC d) := by
  refine ⟨?_⟩
  intro W tk en σ r H S Q er ro dn
  exact wE_of h (Dn.ok_here (R := VR X.K) dn ro (k r H))
theorem e_int {i : Int} {j pos} : SndE X (.Constant (.int i) j pos) (mC (.int i)) := e_const pe_int fun _ _ => rfl
theorem e_bl {b j pos} : SndE X (.Constant (.bool b) j pos) (mC (.bl b)) := e_const pe_bl fun _ _ => rfl
theorem e_non {j pos} : SndE X (.Constant .none j pos) (mC .non) := e_const pe_non fun _ _ => rfl
theorem e_str {x j pos} : SndE X (.Constant (.str x) j pos) (mC (.str x)) := e_const pe_str fun _ _ => rfl
/-- a module's constant -/
theorem e_glob {x : Str} {d : D} {v : V} {u : Value} {pos : Pos} (hg : Gl X x) (hm : X.mg x = some u) (r : RelV v u) (k : ∀ r H, VR X.K r H d v) (hd : (x == ("__debug__" : Str)) = false := by decide) : SndE X (.Name x pos) (mC d) := e_const (pe_glob hg hm r hd) k
/-! ### operators -/
abbrev G2 := D → D → Store → Option (D × Store)
abbrev G1 := D → Store → Option (D × Store)
abbrev GN := List D → Store → Option (D × Store)
/-- the end of an operation by values -/
abbrev Ed (K : PySem.W.Frag) (r : List Addr) (H : Hp) (z : D) (S' : Store) (Q : VK) : Prop := ∀ (r' : List Addr) (H' : Hp) (v : V), Stp r H r' H' → ROk K r' H' S' → VR K r' H' z v → Q v H'
structure OpD (X : Cx) (f : Value → Value → Sem Value) (g : G2) : Prop where
  run : ∀ (d e z : D) (x y : V) (r : List Addr) (H : Hp) (S S' : Store) (Q : VK), g d e S = some (z, S') → VR X.K r H d x → VR X.K r H e y → ROk X.K r H S → Ed X.K r H z S' Q → wO X f x y H Q
structure UnD (X : Cx) (f : Value → Sem Value) (g : G1) : Prop where
  run : ∀ (d z : D) (x : V) (r : List Addr) (H : Hp) (S S' : Store) (Q : VK), g d S = some (z, S') → VR X.K r H d x → ROk X.K r H S → Ed X.K r H z S' Q → wU X f x H Q
structure CallD (X : Cx) (f : Value) (g : GN) : Prop where
  run : ∀ (ds : List D) (z : D) (xs : List V) (r : List Addr) (H : Hp) (S S' : Store) (Q : VK), g ds S = some (z, S') → VRs X.K r H ds xs → ROk X.K r H S → Ed X.K r H z S' Q → wC X f xs H Q
theorem dn_ofOpt {K : PySem.W.Frag} {r : List Addr} {H : Hp} {o : Option (D × Store)} {Q : VK} {W : XK} (h : Dn K r H (VR K) (ofOpt o) Q W) : ∃ z S', o = some (z, S') ∧ Ed K r H z S' Q := by
  cases o with
  | none => exact h.elim
  | some p => exact ⟨p.1, p.2, rfl, h⟩
def m2 (g : G2) (ma mb : ME) : ME := fun en S => (ma en S).bind fun d S1 => (mb en S1).bind fun e S2 => ofOpt (g d e S2)
def m1 (g : G1) (ma : ME) : ME := fun en S => (ma en S).bind fun d S1 => ofOpt (g d S1)
/-- two operands, then an operation by values -/
theorem two {W : WX} {en : En} {σ : L2.St} {r : List Addr} {H : Hp} {S : Store} {Q : VK} {rd : V → V → Hp → VK → Prop} {g : G2} (ha : SndE X a ma) (hb : SndE X b mb)
    (hr : ∀ (d e z : D) (x y : V) (r : List Addr) (H : Hp) (S S' : Store), g d e S = some (z, S') → VR X.K r H d x → VR X.K r H e y → ROk X.K r H S → Ed X.K r H z S' Q → rd x y H Q)
    (tk : Takes X W) (er : ER X.K r H en σ) (ro : ROk X.K r H S) (dn : Dn X.K r H (VR X.K) (m2 g ma mb en S) Q (WE W σ)) : tOp rd (wE X a) (wE X b) σ H Q := by
  refine ha.run W tk en σ r H S _ er ro (Dn.imp (Dn.bind dn) fun x H1 ⟨d, S1, r1, e1, s1, o1, k1, d1⟩ => ?_)
  refine hb.run W tk en σ r1 H1 S1 _ (er.mono s1) o1 (Dn.imp (Dn.bind d1) fun y H2 ⟨e, S2, r2, e2, s2, o2, k2, d2⟩ => ?_)
  obtain ⟨z, S', g1, ed⟩ := dn_ofOpt d2
  exact hr d e z x y r2 H2 S2 S' g1 (k1.mono s2) k2 o2 ed
theorem e_op {op : Operator} {g : G2} (ho : OpD X (binaryOp op) g) (ha : SndE X a ma) (hb : SndE X b mb) : SndE X (.BinOp a op b pos) (m2 g ma mb) := by
  refine ⟨?_⟩
  intro W tk en σ r H S Q er ro dn
  exact wE_of (pe_op (opr_wO X _) (pe_wE X a) (pe_wE X b)) (two ha hb (fun d e z x y r H S S' g1 k1 k2 o ed => ho.run d e z x y r H S S' Q g1 k1 k2 o ed) tk er ro dn)
theorem e_un {op : UnaryOp} {g : G1} (ho : UnD X (unaryOp op) g) (ha : SndE X a ma) : SndE X (.UnaryOp op a pos) (m1 g ma) := by
  refine ⟨?_⟩
  intro W tk en σ r H S Q er ro dn
  refine wE_of (pe_un (unr_wU X _) (pe_wE X a)) ?_
  refine ha.run W tk en σ r H S _ er ro (Dn.imp (Dn.bind dn) fun x H1 ⟨d, S1, r1, e1, s1, o1, k1, d1⟩ => ?_)
  obtain ⟨z, S', g1, ed⟩ := dn_ofOpt d1
  exact ho.run d z x r1 H1 S1 S' Q g1 k1 o1 ed
/-- a comparison -/
theorem e_cmp {op : CmpOp} {g : G2} (ho : OpD X (compareOp op) g) (ha : SndE X a ma) (hb : SndE X b mb) (hm : behindInMarks op b = false) : SndE X (.Compare a [op] [b] pos) (m2 g ma mb) := by
  refine ⟨?_⟩
  intro W tk en σ r H S Q er ro dn
  exact wE_of (pe_cmpR (opr_wO X _) (pe_wE X a) (pe_wE X b) hm) (two ha hb (fun d e z x y r H S S' g1 k1 k2 o ed => ho.run d e z x y r H S S' Q g1 k1 k2 o ed) tk er ro dn)
end
end Q

namespace Q
open PySem PySem.Spec PyProof.Rows L2
variable [Gh : Ghost]
section
variable {X : Cx} {a b c : Expr} {ma mb mc : ME} {mt mu : MT} {rest : List Expr} {pos : Pos}
/-! ### tests -/
def boolD : D → Option Bool
  | .bl b => some b
  | _ => none
def asB (o : Option Bool) (S : Store) : Res Bool := match o with
  | some b => .ok b S
  | none => .bad
def mB (m : ME) : MT := fun en S => (m en S).bind fun d S1 => asB (boolD d) S1
/-- truth -/
def truD (d : D) (S : Store) : Option Bool := match d with
  | .non => some false
  | .bl b => some b
  | .int i => some (i != 0)
  | .str y => if y.length ≤ sizeLine then some ((y.length : Int) != 0) else none
  | .tup xs => some (!xs.isEmpty)
  | .kl xs => some (!xs.isEmpty)
  | .ref n => match S[n]? with
    | some (.lst xs) => some (!xs.isEmpty)
    | some (.dct kvs) => some (!kvs.isEmpty)
    | _ => none
  | _ => none
def mTr (m : ME) : MT := fun en S => (m en S).bind fun d S1 => asB (truD d S1) S1
theorem VRs.isEmpty {K : PySem.W.Frag} {r : List Addr} {H : Hp} {ds : List D} {vs : List V} (h : VRs K r H ds vs) : ds.isEmpty = vs.isEmpty := by
  cases ds with
  | nil => have : vs = [] := h; rw [this]; rfl
  | cons d l => obtain ⟨v, w, e, _⟩ := h; rw [e]; rfl
theorem KR.isEmpty {K : PySem.W.Frag} {r : List Addr} {H : Hp} {ds : List (Key × D)} {vs : List (Key × V)} (h : KR K r H ds vs) : ds.isEmpty = vs.isEmpty := by
  cases ds with
  | nil => have : vs = [] := h; rw [this]; rfl
  | cons d l => obtain ⟨v, w, e, _⟩ := h; rw [e]; rfl
theorem truD_ok {K : PySem.W.Frag} {r : List Addr} {H : Hp} {S : Store} {d : D} {x : V} {k : Bool} (ro : ROk K r H S) (h : VR K r H d x) (e : truD d S = some k) : TruV K x H k := by
  cases d with
  | non => have h : x = .non := h; subst h; exact (Option.some.inj e).symm
  | bl b => have h : x = .bl b := h; subst h; exact (Option.some.inj e).symm
  | int i => have h : x = .int i := h; subst h; exact (Option.some.inj e).symm
  | str y =>
    have h : x = .str y := h; subst h
    unfold truD at e
    dsimp only at e
    by_cases hl : y.length ≤ sizeLine
    · rw [if_pos hl] at e; exact ⟨hl, (Option.some.inj e).symm⟩
    · rw [if_neg hl] at e; cases e
  | tup xs =>
    obtain ⟨p, vs, rfl, hs, hv⟩ := h
    refine .inr (.inl ⟨vs, sqT_of hs, ?_⟩)
    rw [← hv.isEmpty]; exact (Option.some.inj e).symm
  | ref n =>
    obtain ⟨p, hp, rfl⟩ := h
    unfold truD at e
    dsimp only at e
    cases q : S[n]? with
    | none => rw [q] at e; cases e
    | some o =>
      rw [q] at e
      have ho := ro.ob n o p q hp
      cases o with
      | lst xs => obtain ⟨vs, h1, h2⟩ := ho; exact .inl ⟨vs, .of h1, by rw [← h2.isEmpty]; exact (Option.some.inj e).symm⟩
      | dct kvs => obtain ⟨vs, h1, h2⟩ := ho; exact .inr (.inr ⟨vs, h1, by rw [← h2.isEmpty]; exact (Option.some.inj e).symm⟩)
      | ins C fs => cases e
      | xd fs => cases e
      | tab P q => cases e
      | dcT kvs => cases e
      | lkT kvs => cases e
  | ty n => cases e
  | adr a => cases e
  | exc a d n => cases e
  | kl xs =>
    obtain ⟨p, vs, rfl, hs, hv⟩ := h
    refine .inl ⟨vs, hs.l, ?_⟩
    rw [← hv.isEmpty]; exact (Option.some.inj e).symm
/-- an expression whose test is its value's truth -/
theorem t_tru (ha : SndE X a ma) (he : ∀ whole, isTrue a X.env whole = (do let v ← whole; standAt a.pos; holding [v] (truthy v)) := by intro _; rfl) : SndT X a (mTr ma) := by
  refine ⟨?_⟩
  intro W tk en σ r H S Q er ro dn
  refine wT_of (pt_truth (pe_wE X a) he) ?_
  refine ha.run W tk en σ r H S _ er ro (Dn.imp (Dn.bind dn) fun x H1 ⟨d, S1, r1, e1, s1, o1, k1, d1⟩ => ?_)
  cases q : truD d S1 with
  | none => rw [q] at d1; exact d1.elim
  | some k => rw [q] at d1; exact ⟨k, truD_ok o1 k1 q, d1.ok_here o1 rfl⟩
theorem bool_of {K : PySem.W.Frag} {r : List Addr} {H : Hp} {x : V} {d : D} {S : Store} {Q : Bool → Hp → Prop} {W : XK} (k : VR K r H d x) (o : ROk K r H S)
    (dn : Dn K r H RT (asB (boolD d) S) Q W) : ∃ b, x = .bl b ∧ Q b H := by
  cases d with
  | bl b => exact ⟨b, k, dn.ok_here o rfl⟩
  | _ => exact dn.elim
/-- a comparison as a test: its answer a bool -/
theorem t_cmp {op : CmpOp} {g : G2} (ho : OpD X (compareOp op) g) (ha : SndE X a ma) (hb : SndE X b mb) (hm : behindInMarks op b = false) : SndT X (.Compare a [op] [b] pos) (mB (m2 g ma mb)) := by
  refine ⟨?_⟩
  intro W tk en σ r H S Q er ro dn
  refine wT_of (pt_cmpR (opr_wO X _) (pe_wE X a) (pe_wE X b) hm) ?_
  have dn2 : Dn X.K r H (VR X.K) (m2 g ma mb en S) (fun x H' => ∃ b, x = .bl b ∧ Q b H') (WE W σ) := Dn.imp (Dn.bind dn) fun x H1 ⟨d, S1, r1, e1, s1, o1, k1, d1⟩ => bool_of k1 o1 d1
  exact two (Q := fun x H' => ∃ b, x = .bl b ∧ Q b H') (rd := wO X (compareOp op)) ha hb (fun d e z x y r H S S' g1 k1 k2 o ed => ho.run d e z x y r H S S' _ g1 k1 k2 o ed) tk er ro dn2
/-- a op1 b op2 c -/
def mChain (g g' : G2) (ma mb mc : ME) : ME := fun en S => (ma en S).bind fun d S1 => (mb en S1).bind fun e S2 => (ofOpt (g d e S2)).bind fun z S3 => match z with
  | .bl true => (mc en S3).bind fun f S4 => ofOpt (g' e f S4)
  | .bl false => .ok (.bl false) S3
  | _ => .bad
theorem chain_rd {op op' : CmpOp} {g g' : G2} (ho : OpD X (compareOp op) g) (ho' : OpD X (compareOp op') g') (ha : SndE X a ma) (hb : SndE X b mb) (hc : SndE X c mc)
    {W : WX} {en : En} {σ : L2.St} {r : List Addr} {H : Hp} {S : Store} {Q : VK} (tk : Takes X W) (er : ER X.K r H en σ) (ro : ROk X.K r H S) (dn : Dn X.K r H (VR X.K) (mChain g g' ma mb mc en S) Q (WE W σ)) :
    tChain (wO X (compareOp op)) (wO X (compareOp op')) (wE X a) (wE X b) (wE X c) σ H Q := by
  refine ha.run W tk en σ r H S _ er ro (Dn.imp (Dn.bind dn) fun x H1 ⟨d, S1, r1, e1, s1, o1, k1, d1⟩ => ?_)
  refine hb.run W tk en σ r1 H1 S1 _ (er.mono s1) o1 (Dn.imp (Dn.bind d1) fun y H2 ⟨e, S2, r2, e2, s2, o2, k2, d2⟩ => ?_)
  cases q : g d e S2 with
  | none => rw [q] at d2; exact d2.elim
  | some p =>
    obtain ⟨z, S3⟩ := p
    rw [q] at d2
    refine ho.run d e z x y r2 H2 S2 S3 _ q (k1.mono s2) k2 o2 fun r3 H3 v3 s3 o3 k3 => ?_
    have d2 : Dn X.K r2 H2 (VR X.K) _ Q (WE W σ) := d2
    have d3 := Dn.mono s3 d2
    cases z with
    | bl k =>
      refine ⟨k, k3, ?_⟩
      cases k with
      | true =>
        show wE X c σ H3 _
        refine hc.run W tk en σ r3 H3 S3 _ ((er.mono s1).mono (s2.trans s3)) o3 (Dn.imp (Dn.bind d3) fun w H4 ⟨f, S4, r4, e4, s4, o4, k4, d4⟩ => ?_)
        cases q' : g' e f S4 with
        | none => rw [q'] at d4; exact d4.elim
        | some p' =>
          obtain ⟨y', S5⟩ := p'
          rw [q'] at d4
          exact ho'.run e f y' y w r4 H4 S4 S5 _ q' (k2.mono (s3.trans s4)) k4 o4 d4
      | false =>
        exact Dn.ok_here (R := VR X.K) (a := .bl false) (v := .bl false) d3 o3 rfl
    | _ => exact d3.elim
theorem e_chain {op op' : CmpOp} {g g' : G2} (ho : OpD X (compareOp op) g) (ho' : OpD X (compareOp op') g') (ha : SndE X a ma) (hb : SndE X b mb) (hc : SndE X c mc)
    (hm : lastMarks [op, op'] [b, c] = false := by with_unfolding_all rfl) : SndE X (.Compare a [op, op'] [b, c] pos) (mChain g g' ma mb mc) := by
  refine ⟨?_⟩
  intro W tk en σ r H S Q er ro dn
  exact wE_of (pe_chain (opr_wO X _) (opr_wO X _) (pe_wE X a) (pe_wE X b) (pe_wE X c) hm) (chain_rd ho ho' ha hb hc tk er ro dn)
theorem t_chain {op op' : CmpOp} {g g' : G2} (ho : OpD X (compareOp op) g) (ho' : OpD X (compareOp op') g') (ha : SndE X a ma) (hb : SndE X b mb) (hc : SndE X c mc)
    (hm : lastMarks [op, op'] [b, c] = false := by with_unfolding_all rfl) : SndT X (.Compare a [op, op'] [b, c] pos) (mB (mChain g g' ma mb mc)) := by
  refine ⟨?_⟩
  intro W tk en σ r H S Q er ro dn
  refine wT_of (pt_chain (opr_wO X _) (opr_wO X _) (pe_wE X a) (pe_wE X b) (pe_wE X c) hm) ?_
  exact chain_rd (Q := fun x H' => ∃ b, x = .bl b ∧ Q b H') ho ho' ha hb hc tk er ro (Dn.imp (Dn.bind dn) fun x H1 ⟨d, S1, r1, e1, s1, o1, k1, d1⟩ => bool_of k1 o1 d1)
/-- not -/
def mNot (m : MT) : MT := fun en S => (m en S).bind fun b S1 => .ok (!b) S1
theorem t_not (ha : SndT X a mt) : SndT X (.UnaryOp .Not a pos) (mNot mt) := by
  refine ⟨?_⟩
  intro W tk en σ r H S Q er ro dn
  refine wT_of (pt_not (pt_wT X a)) ?_
  exact ha.run W tk en σ r H S _ er ro (Dn.imp (Dn.bind dn) fun x H1 ⟨d, S1, r1, e1, s1, o1, k1, d1⟩ => Dn.ok_here (R := RT) d1 o1 (by show (!x) = !d; rw [show x = d from k1]))
/-- and, or as tests -/
def mAnd (m n : MT) : MT := fun en S => (m en S).bind fun b S1 => match b with
  | true => n en S1
  | false => .ok false S1
def mOr (m n : MT) : MT := fun en S => (m en S).bind fun b S1 => match b with
  | true => .ok true S1
  | false => n en S1
structure SndW (X : Cx) (e : Expr) (m : MT) : Prop where
  run : ∀ (W : WX), Takes X W → ∀ (en : En) (σ : L2.St) (r : List Addr) (H : Hp) (S : Store) (Q : Bool → Hp → Prop), ER X.K r H en σ → ROk X.K r H S → Dn X.K r H RT (m en S) Q (WE W σ) →
  ∀ (whole : Sem Value) (pins : List (Addr × Obj)) (s : Shared), Inv X pins σ H s → wpAny (model X.prog X.w) X.A (isTrue e X.env whole) (TP X pins σ Q) X.xe s
def wW (X : Cx) (e : Expr) : TT := fun σ H Q => ∀ (whole : Sem Value) (pins : List (Addr × Obj)) (s : Shared), Inv X pins σ H s → wpAny (model X.prog X.w) X.A (isTrue e X.env whole) (TP X pins σ Q) X.xe s
theorem pw_wW (X : Cx) (e : Expr) : PW X e (wW X e) := ⟨fun wh pins s _ _ _ I h => h wh pins s I⟩
theorem t_w {e : Expr} (h : SndW X e mt) : SndT X e mt := .mk fun W tk en σ r H S Q er ro dn pins s I => h.run W tk en σ r H S Q er ro dn _ pins s I
theorem w_and1 (ha : SndT X a mt) : SndW X (.BoolOp .And [a] pos) mt := .mk fun W tk en σ r H S Q er ro dn wh pins s I => (pw_and1 (pt_wT X a)).run wh pins s σ H Q I (ha.run W tk en σ r H S Q er ro dn)
theorem w_or1 (ha : SndT X a mt) : SndW X (.BoolOp .Or [a] pos) mt := .mk fun W tk en σ r H S Q er ro dn wh pins s I => (pw_or1 (pt_wT X a)).run wh pins s σ H Q I (ha.run W tk en σ r H S Q er ro dn)
theorem w_and (ha : SndT X a mt) (hb : SndW X (.BoolOp .And (b :: rest) pos) mu) : SndW X (.BoolOp .And (a :: b :: rest) pos) (mAnd mt mu) := .mk fun W tk en σ r H S Q er ro dn wh pins s I => by
  refine (pw_and (pt_wT X a) (pw_wW X _)).run wh pins s σ H Q I ?_
  refine ha.run W tk en σ r H S _ er ro (Dn.imp (Dn.bind dn) fun x H1 ⟨d, S1, r1, e1, s1, o1, k1, d1⟩ => ?_)
  have k1 : x = d := k1
  subst k1
  cases x with
  | true => exact hb.run W tk en σ r1 H1 S1 Q (er.mono s1) o1 d1
  | false => exact Dn.ok_here (R := RT) (a := false) (v := false) d1 o1 rfl
theorem w_or (ha : SndT X a mt) (hb : SndW X (.BoolOp .Or (b :: rest) pos) mu) : SndW X (.BoolOp .Or (a :: b :: rest) pos) (mOr mt mu) := .mk fun W tk en σ r H S Q er ro dn wh pins s I => by
  refine (pw_or (pt_wT X a) (pw_wW X _)).run wh pins s σ H Q I ?_
  refine ha.run W tk en σ r H S _ er ro (Dn.imp (Dn.bind dn) fun x H1 ⟨d, S1, r1, e1, s1, o1, k1, d1⟩ => ?_)
  have k1 : x = d := k1
  subst k1
  cases x with
  | false => exact hb.run W tk en σ r1 H1 S1 Q (er.mono s1) o1 d1
  | true => exact Dn.ok_here (R := RT) (a := true) (v := true) d1 o1 rfl
/-! ### and, or, not as values, by truth -/
def mAndV (m n : ME) : ME := fun en S => (m en S).bind fun d S1 => match truD d S1 with
  | some true => n en S1
  | some false => .ok d S1
  | none => .bad
def mOrV (m n : ME) : ME := fun en S => (m en S).bind fun d S1 => match truD d S1 with
  | some false => n en S1
  | some true => .ok d S1
  | none => .bad
def mNotV (m : ME) : ME := fun en S => (m en S).bind fun d S1 => match truD d S1 with
  | some b => .ok (.bl (!b)) S1
  | none => .bad
theorem e_one {op} (h : SndE X a ma) : SndE X (.BoolOp op [a] pos) ma := .mk fun W tk en σ r H S Q er ro dn => wE_of (pe_one (pe_wE X a)) (h.run W tk en σ r H S Q er ro dn)
theorem e_and (ha : SndE X a ma) (hb : SndE X (.BoolOp .And (b :: rest) pos) mb) : SndE X (.BoolOp .And (a :: b :: rest) pos) (mAndV ma mb) := by
  refine ⟨?_⟩
  intro W tk en σ r H S Q er ro dn
  refine wE_of (pe_andT (pe_wE X a) (pe_wE X _)) ?_
  refine ha.run W tk en σ r H S _ er ro (Dn.imp (Dn.bind dn) fun x H1 ⟨d, S1, r1, e1, s1, o1, k1, d1⟩ => ?_)
  cases q : truD d S1 with
  | none => rw [q] at d1; exact d1.elim
  | some k =>
    rw [q] at d1
    refine ⟨k, truD_ok o1 k1 q, ?_⟩
    cases k with
    | true => exact hb.run W tk en σ r1 H1 S1 Q (er.mono s1) o1 d1
    | false => exact Dn.ok_here (R := VR X.K) d1 o1 k1
theorem e_or (ha : SndE X a ma) (hb : SndE X (.BoolOp .Or (b :: rest) pos) mb) : SndE X (.BoolOp .Or (a :: b :: rest) pos) (mOrV ma mb) := by
  refine ⟨?_⟩
  intro W tk en σ r H S Q er ro dn
  refine wE_of (pe_orT (pe_wE X a) (pe_wE X _)) ?_
  refine ha.run W tk en σ r H S _ er ro (Dn.imp (Dn.bind dn) fun x H1 ⟨d, S1, r1, e1, s1, o1, k1, d1⟩ => ?_)
  cases q : truD d S1 with
  | none => rw [q] at d1; exact d1.elim
  | some k =>
    rw [q] at d1
    refine ⟨k, truD_ok o1 k1 q, ?_⟩
    cases k with
    | false => exact hb.run W tk en σ r1 H1 S1 Q (er.mono s1) o1 d1
    | true => exact Dn.ok_here (R := VR X.K) d1 o1 k1
theorem e_not (ha : SndE X a ma) : SndE X (.UnaryOp .Not a pos) (mNotV ma) := by
  refine ⟨?_⟩
  intro W tk en σ r H S Q er ro dn
  refine wE_of (pe_notT (pe_wE X a)) ?_
  refine ha.run W tk en σ r H S _ er ro (Dn.imp (Dn.bind dn) fun x H1 ⟨d, S1, r1, e1, s1, o1, k1, d1⟩ => ?_)
  cases q : truD d S1 with
  | none => rw [q] at d1; exact d1.elim
  | some k =>
    rw [q] at d1
    exact ⟨k, truD_ok o1 k1 q, Dn.ok_here (R := VR X.K) d1 o1 rfl⟩
/-- a if t else b -/
def mIf (mt : MT) (ma mb : ME) : ME := fun en S => (mt en S).bind fun k S1 => match k with
  | true => ma en S1
  | false => mb en S1
theorem e_if (hc : SndT X c mt) (ha : SndE X a ma) (hb : SndE X b mb) : SndE X (.IfExp c a b pos) (mIf mt ma mb) := by
  refine ⟨?_⟩
  intro W tk en σ r H S Q er ro dn
  refine wE_of (pe_ifExp (pt_wT X c) (pe_wE X a) (pe_wE X b)) ?_
  refine hc.run W tk en σ r H S _ er ro (Dn.imp (Dn.bind dn) fun x H1 ⟨d, S1, r1, e1, s1, o1, k1, d1⟩ => ?_)
  have k1 : x = d := k1
  subst k1
  cases x with
  | true => exact ha.run W tk en σ r1 H1 S1 Q (er.mono s1) o1 d1
  | false => exact hb.run W tk en σ r1 H1 S1 Q (er.mono s1) o1 d1

/-! ### argument lists, displays -/
def mNil : MA := fun _ S => .ok [] S
def mCons (ma : ME) (mr : MA) : MA := fun en S => (ma en S).bind fun d S1 => (mr en S1).bind fun ds S2 => .ok (d :: ds) S2
def mTup (m : MA) : ME := fun en S => (m en S).bind fun ds S1 => if ds.length ≤ sizeLine then .ok (.tup ds) S1 else .bad
def mLst (m : MA) : ME := fun en S => (m en S).bind fun ds S1 => if ds.length ≤ sizeLine then .ok (.ref S1.length) (S1 ++ [.lst ds]) else .bad
/-- the items of a list or tuple -/
def itemsD (d : D) (S : Store) : Option (List D) := match d with
  | .tup xs => some xs
  | .kl xs => some xs
  | .ref n => match S[n]? with
    | some (.lst xs) => some xs
    | _ => none
  | _ => none
def mStar (ma : ME) (mr : MA) : MA := fun en S => (ma en S).bind fun d S1 => match itemsD d S1 with
  | some xs => (mr en S1).bind fun ds S2 => .ok (xs ++ ds) S2
  | none => .bad
theorem itemsD_ok2 {K : PySem.W.Frag} {r : List Addr} {H : Hp} {S : Store} {d : D} {x : V} {ds : List D} (ro : ROk K r H S) (h : VR K r H d x) (e : itemsD d S = some ds) : ∃ p vs, x = .ref p ∧ (SqL K H p vs ∨ H p = some (.tup vs)) ∧ VRs K r H ds vs := by
  cases d with
  | tup xs =>
    obtain ⟨p, vs, rfl, hs, hv⟩ := h
    cases Option.some.inj e
    exact ⟨p, vs, rfl, .inr hs, hv⟩
  | kl xs =>
    obtain ⟨p, vs, rfl, hs, hv⟩ := h
    cases Option.some.inj e
    exact ⟨p, vs, rfl, .inl hs.l, hv⟩
  | ref n =>
    obtain ⟨p, hp, rfl⟩ := h
    unfold itemsD at e
    dsimp only at e
    cases q : S[n]? with
    | none => rw [q] at e; cases e
    | some o =>
      rw [q] at e
      have ho := ro.ob n o p q hp
      cases o with
      | lst xs => obtain ⟨vs, h1, h2⟩ := ho; cases Option.some.inj e; exact ⟨p, vs, rfl, .inl (.of h1), h2⟩
      | _ => cases e
  | _ => cases e
theorem itemsD_ok {K : PySem.W.Frag} {r : List Addr} {H : Hp} {S : Store} {d : D} {x : V} {ds : List D} (ro : ROk K r H S) (h : VR K r H d x) (e : itemsD d S = some ds) : ∃ p vs, x = .ref p ∧ (SqL K H p vs ∨ SqT K H p vs) ∧ VRs K r H ds vs :=
  let ⟨p, vs, a, b, c⟩ := itemsD_ok2 ro h e
  ⟨p, vs, a, b.imp (fun z => z) sqT_of, c⟩
variable {e : Expr} {es : List Expr} {mr : MA} {me : ME} {p : Pos}
theorem a_nil : SndA X [] mNil := .mk fun W tk en σ r H S Q er ro dn => wA_of pa_nil (Dn.ok_here (R := VRs X.K) (a := []) (v := []) dn ro rfl)
theorem a_cons (ha : SndE X e me) (hr : SndA X es mr) (hs : starEach (e :: es) X.env = (false, eval e X.env) :: starEach es X.env := by rfl) : SndA X (e :: es) (mCons me mr) := by
  refine ⟨?_⟩
  intro W tk en σ r H S Q er ro dn
  refine wA_of (pa_cons (pe_wE X e) (pa_wA X es) hs) ?_
  refine ha.run W tk en σ r H S _ er ro (Dn.imp (Dn.bind dn) fun x H1 ⟨d, S1, r1, e1, s1, o1, k1, d1⟩ => ?_)
  refine hr.run W tk en σ r1 H1 S1 _ (er.mono s1) o1 (Dn.imp (Dn.bind d1) fun xs H2 ⟨ds, S2, r2, e2, s2, o2, k2, d2⟩ => ?_)
  exact Dn.ok_here (R := VRs X.K) d2 o2 ⟨x, xs, rfl, k1.mono s2, k2⟩
theorem dn_if {α β : Type} {K : PySem.W.Frag} {r : List Addr} {H : Hp} {R : List Addr → Hp → α → β → Prop} {c : Prop} [Decidable c] {m : Res α} {Q : β → Hp → Prop} {W : XK} (h : Dn K r H R (if c then m else .bad) Q W) : c ∧ Dn K r H R m Q W := by
  by_cases hc : c
  · rw [if_pos hc] at h; exact ⟨hc, h⟩
  · rw [if_neg hc] at h; exact h.elim
theorem e_tup {x1} (h : SndA X es mr) : SndE X (.Tuple es x1 pos) (mTup mr) := by
  refine ⟨?_⟩
  intro W tk en σ r H S Q er ro dn
  refine wE_of (pe_tup (pa_wA X es)) ?_
  refine h.run W tk en σ r H S _ er ro (Dn.imp (Dn.bind dn) fun xs H1 ⟨ds, S1, r1, e1, s1, o1, k1, d1⟩ => ?_)
  obtain ⟨hz, d1⟩ := dn_if d1
  refine ⟨by rw [← k1.length]; exact hz, fun q hq => ?_⟩
  exact d1 r1 _ _ (Stp.loose hq) (o1.loose hq) ⟨q, xs, rfl, upd_same, k1.mono (Stp.loose hq)⟩
theorem new_lst {r : List Addr} {H : Hp} {S : Store} {ds : List D} {vs : List V} {q : Addr} (o : ROk X.K r H S) (k : VRs X.K r H ds vs) (hq : H q = none) :
    Stp r H (r ++ [q]) (upd H q (.lst vs)) ∧ ROk X.K (r ++ [q]) (upd H q (.lst vs)) (S ++ [.lst ds]) ∧ VR X.K (r ++ [q]) (upd H q (.lst vs)) (.ref S.length) (.ref q) :=
  ⟨Stp.new hq, o.new hq ⟨vs, upd_same, k.mono (Stp.new hq)⟩, ⟨q, by rw [← o.len, List.getElem?_append_right (Nat.le_refl _), Nat.sub_self]; rfl, rfl⟩⟩
theorem e_lst (h : SndA X es mr) : SndE X (.List es pos) (mLst mr) := by
  refine ⟨?_⟩
  intro W tk en σ r H S Q er ro dn
  refine wE_of (pe_lst (pa_wA X es)) ?_
  refine h.run W tk en σ r H S _ er ro (Dn.imp (Dn.bind dn) fun xs H1 ⟨ds, S1, r1, e1, s1, o1, k1, d1⟩ => ?_)
  obtain ⟨hz, d1⟩ := dn_if d1
  refine ⟨by rw [← k1.length]; exact hz, fun q hq => ?_⟩
  obtain ⟨n1, n2, n3⟩ := new_lst o1 k1 hq
  exact d1 _ _ _ n1 n2 n3
end
end Q

namespace Q
open PySem PySem.Spec PyProof.Rows L2
variable [Gh : Ghost] [Gr : Grd]
section
variable {X : Cx}
/-- a value that needs no heap, the store as it was -/
theorem Ed.flat {K : PySem.W.Frag} {r : List Addr} {H : Hp} {z : D} {v : V} {S : Store} {Q : VK} (ed : Ed K r H z S Q) (ro : ROk K r H S) (k : VR K r H z v) : Q v H := ed r H v (Stp.refl _ _) ro k
theorem Ed.tupN {K : PySem.W.Frag} {r : List Addr} {H : Hp} {xs : List D} {vs : List V} {S : Store} {Q : VK} {p : Addr} (ed : Ed K r H (.tup xs) S Q) (ro : ROk K r H S) (k : VRs K r H xs vs) (hp : H p = none) : Q (.ref p) (upd H p (.tup vs)) :=
  ed r _ _ (Stp.loose hp) (ro.loose hp) ⟨p, vs, rfl, upd_same, k.mono (Stp.loose hp)⟩
theorem Ed.lstN {r : List Addr} {H : Hp} {xs : List D} {vs : List V} {S : Store} {Q : VK} {p : Addr} (ed : Ed X.K r H (.ref S.length) (S ++ [.lst xs]) Q) (ro : ROk X.K r H S) (k : VRs X.K r H xs vs) (hp : H p = none) : Q (.ref p) (upd H p (.lst vs)) := by
  obtain ⟨a, b, c⟩ := new_lst ro k hp
  exact ed _ _ _ a b c
theorem wO_of {f : Value → Value → Sem Value} {rd : R2} (h : OpR X f rd) {x y : V} {H : Hp} {Q : VK} (q : rd x y H Q) : wO X f x y H Q := fun pins s σ v u I rx ry => h pins s σ H x y v u Q I rx ry q
theorem wU_of {f : Value → Sem Value} {rd : V → Hp → VK → Prop} (h : UnR X f rd) {x : V} {H : Hp} {Q : VK} (q : rd x H Q) : wU X f x H Q := fun pins s σ v I rx => h pins s σ H x v Q I rx q
theorem wC_of {f : Value} {rd : List V → Hp → VK → Prop} (h : CallR X f rd) {xs : List V} {H : Hp} {Q : VK} (q : rd xs H Q) : wC X f xs H Q := fun pins s σ us I r => h pins s σ H xs us Q I r q

/-! ### ints -/
def intD : D → Option Int
  | .int i => some i
  | _ => none
theorem intD_ok {K : PySem.W.Frag} {r : List Addr} {H : Hp} {d : D} {x : V} {i : Int} (e : intD d = some i) (k : VR K r H d x) : x = .int i := by
  cases d <;> first | (cases e; exact k) | cases e
/-- two ints under a condition -/
def gI (c : Int → Int → Bool) (f : Int → Int → D) : G2 := fun d e S => (intD d).bind fun i => (intD e).bind fun j => if c i j then some (f i j, S) else none
theorem gI_ok {c : Int → Int → Bool} {f : Int → Int → D} {d e z : D} {S S' : Store} (h : gI c f d e S = some (z, S')) : ∃ i j, d = .int i ∧ e = .int j ∧ c i j = true ∧ z = f i j ∧ S' = S := by
  unfold gI at h
  cases d with
  | int i =>
    cases e with
    | int j =>
      simp only [intD, Option.bind_some] at h
      by_cases hc : c i j = true
      · rw [if_pos hc] at h
        cases h
        exact ⟨i, j, rfl, rfl, hc, rfl, rfl⟩
      · rw [if_neg hc] at h; cases h
    | _ => simp [intD] at h
  | _ => simp [intD] at h
theorem opI_of {f : Value → Value → Sem Value} {C : Int → Int → Prop} {g : Int → Int → V} {c : Int → Int → Bool} {gd : Int → Int → D} (h : OpR X f (rI C g)) (hc : ∀ i j, c i j = true → C i j) (hg : ∀ i j r H, VR X.K r H (gd i j) (g i j)) : OpD X f (gI c gd) := by
  refine ⟨?_⟩
  intro d e z x y r H S S' Q q k1 k2 ro ed
  obtain ⟨i, j, rfl, rfl, hcc, rfl, rfl⟩ := gI_ok q
  exact wO_of h ⟨i, j, k1, k2, hc i j hcc, ed.flat ro (hg i j r H)⟩
theorem opI0_of {f : Value → Value → Sem Value} {g : Int → Int → V} {gd : Int → Int → D} (h : OpR X f (rI0 g)) (hg : ∀ i j r H, VR X.K r H (gd i j) (g i j)) : OpD X f (gI (fun _ _ => true) gd) := by
  refine ⟨?_⟩
  intro d e z x y r H S S' Q q k1 k2 ro ed
  obtain ⟨i, j, rfl, rfl, hcc, rfl, rfl⟩ := gI_ok q
  exact wO_of h ⟨i, j, k1, k2, ed.flat ro (hg i j r H)⟩
def yes2 (_ _ : Int) : Bool := true
def gLt : G2 := gI yes2 fun i j => .bl (decide (i < j))
def gLe : G2 := gI yes2 fun i j => .bl (decide (i ≤ j))
def gGt : G2 := gI yes2 fun i j => .bl (decide (j < i))
def gGe : G2 := gI yes2 fun i j => .bl (decide (j ≤ i))
def gSub : G2 := gI yes2 fun i j => .int (i - j)
theorem o_lt : OpD X (compareOp .Lt) gLt := opI0_of op_lt fun _ _ _ _ => rfl
theorem o_le : OpD X (compareOp .LtE) gLe := opI0_of op_le fun _ _ _ _ => rfl
theorem o_gt : OpD X (compareOp .Gt) gGt := opI0_of op_gt fun _ _ _ _ => rfl
theorem o_ge : OpD X (compareOp .GtE) gGe := opI0_of op_ge fun _ _ _ _ => rfl
theorem o_sub : OpD X (binaryOp .Sub) gSub := opI0_of op_sub fun _ _ _ _ => rfl
def gMod : G2 := gI (fun _ j => decide (0 < j)) fun i j => .int (i % j)
theorem o_mod : OpD X (binaryOp .Mod) gMod := opI_of op_mod (fun i j h => of_decide_eq_true h) fun _ _ _ _ => rfl
def gDiv : G2 := gI (fun _ j => decide (0 < j) && decide (j.natAbs.log2 < 9000)) fun i j => .int (i / j)
theorem o_div : OpD X (binaryOp .FloorDiv) gDiv := opI_of op_fdivW (fun i j h => by
  rw [Bool.and_eq_true] at h
  exact ⟨of_decide_eq_true h.1, of_decide_eq_true h.2⟩) fun _ _ _ _ => rfl
def gPow : G2 := gI (fun i j => decide (0 ≤ j) && decide (j ≤ 1000000) && decide (i.natAbs < 2 ^ 64)) fun i j => .int (i ^ j.toNat)
theorem o_pow : OpD X (binaryOp .Pow) gPow := opI_of op_pow (fun i j h => by
  rw [Bool.and_eq_true, Bool.and_eq_true] at h
  exact ⟨of_decide_eq_true h.1.1, of_decide_eq_true h.1.2, of_decide_eq_true h.2⟩) fun _ _ _ _ => rfl
def gNeg : G1 := fun d S => (intD d).bind fun i => some (.int (-i), S)
theorem o_neg : UnD X (unaryOp .USub) gNeg := by
  refine ⟨?_⟩
  intro d z x r H S S' Q q k ro ed
  unfold gNeg at q
  cases d with
  | int i => cases q; exact wU_of un_neg ⟨i, k, ed.flat ro rfl⟩
  | _ => cases q

/-! ### + and * of several kinds -/
def lstD (d : D) (S : Store) : Option (List D) := match d with
  | .ref n => match S[n]? with
    | some (.lst xs) => some xs
    | _ => none
  | _ => none
theorem lstD_ok {K : PySem.W.Frag} {r : List Addr} {H : Hp} {S : Store} {d : D} {x : V} {ds : List D} (ro : ROk K r H S) (h : VR K r H d x) (e : lstD d S = some ds) : ∃ n p vs, d = .ref n ∧ r[n]? = some p ∧ x = .ref p ∧ H p = some (.lst vs) ∧ S[n]? = some (.lst ds) ∧ VRs K r H ds vs := by
  cases d with
  | ref n =>
    obtain ⟨p, hp, rfl⟩ := h
    unfold lstD at e
    dsimp only at e
    cases q : S[n]? with
    | none => rw [q] at e; cases e
    | some o =>
      rw [q] at e
      have ho := ro.ob n o p q hp
      cases o with
      | lst xs => obtain ⟨vs, h1, h2⟩ := ho; cases Option.some.inj e; exact ⟨n, p, vs, rfl, hp, rfl, h1, q, h2⟩
      | _ => cases e
  | _ => cases e
def gAdd : G2 := fun d e S => match d, e with
  | .int i, .int j => some (.int (i + j), S)
  | .str x, .str y => if x.length + y.length ≤ sizeLine then some (.str (x ++ y), S) else none
  | .tup xs, .tup ys => if xs.length + ys.length ≤ sizeLine then some (.tup (xs ++ ys), S) else none
  | .ref m, .ref n => (lstD (.ref m) S).bind fun xs => (lstD (.ref n) S).bind fun ys => if xs.length + ys.length ≤ sizeLine then some (.ref S.length, S ++ [.lst (xs ++ ys)]) else none
  | _, _ => none
theorem o_add : OpD X (binaryOp .Add) gAdd := by
  refine ⟨?_⟩
  intro d e z x y r H S S' Q q k1 k2 ro ed
  unfold gAdd at q
  split at q
  · cases q; exact wO_of op_add ⟨_, _, k1, k2, ed.flat ro rfl⟩
  · split at q
    · rename_i hz; cases q; exact wO_of op_add_str ⟨_, _, k1, k2, hz, ed.flat ro rfl⟩
    · cases q
  · rename_i xs ys
    split at q
    · rename_i hz; cases q
      obtain ⟨a, vs, rfl, ha, hv⟩ := k1
      obtain ⟨b, ws, rfl, hb, hw⟩ := k2
      have l1 := hv.length
      have l2 := hw.length
      refine wO_of op_catA ⟨a, b, vs, ws, rfl, rfl, (sqT_of ha), (sqT_of hb), by omega, fun e1 => ?_, fun _ e2 => ?_, fun _ _ p hp => ed.tupN ro (hv.append hw) hp⟩
      · subst e1
        have : xs = [] := by cases xs with | nil => rfl | cons _ _ => simp at l1
        subst this
        exact ed.flat ro ⟨b, ws, rfl, hb, hw⟩
      · subst e2
        have : ys = [] := by cases ys with | nil => rfl | cons _ _ => simp at l2
        subst this
        exact ed.flat ro ⟨a, vs, rfl, ha, by rw [List.append_nil]; exact hv⟩
    · cases q
  · cases e1 : lstD (.ref _) S with
    | none => rw [e1] at q; cases q
    | some xs =>
      rw [e1] at q
      simp only [Option.bind_some] at q
      cases e2 : lstD (.ref _) S with
      | none => rw [e2] at q; cases q
      | some ys =>
        rw [e2] at q
        simp only [Option.bind_some] at q
        split at q
        · rename_i hz; cases q
          obtain ⟨n1, p1, vs, _, _, rfl, h1, _, hv⟩ := lstD_ok ro k1 e1
          obtain ⟨n2, p2, ws, _, _, rfl, h2, _, hw⟩ := lstD_ok ro k2 e2
          have l1 := hv.length
          have l2 := hw.length
          exact wO_of op_cat ⟨p1, p2, vs, ws, rfl, rfl, h1, h2, by omega, fun p hp => ed.lstN ro (hv.append hw) hp⟩
        · cases q
  · cases q
theorem VRs.rep {K : PySem.W.Frag} {r : List Addr} {H : Hp} {ds : List D} {vs : List V} (h : VRs K r H ds vs) : ∀ k, VRs K r H (List.replicate k ds).flatten (List.replicate k vs).flatten
  | 0 => rfl
  | k + 1 => by
    rw [List.replicate_succ, List.replicate_succ, List.flatten_cons, List.flatten_cons]
    exact h.append (h.rep k)
def gMul : G2 := fun d e S => match d, e with
  | .int i, .int j => if i.natAbs.log2 + j.natAbs.log2 < 1000000 then some (.int (i * j), S) else none
  | .ref m, .int k => (lstD (.ref m) S).bind fun xs => if 0 ≤ k ∧ k < 100000 ∧ xs.length * k.toNat ≤ sizeLine then some (.ref S.length, S ++ [.lst (List.replicate k.toNat xs).flatten]) else none
  | .tup xs, .int k => if xs ≠ [] ∧ 2 ≤ k ∧ k ≤ 1000 ∧ xs.length ≤ 1000 then some (.tup (List.replicate k.toNat xs).flatten, S) else none
  | _, _ => none
theorem o_mul : OpD X (binaryOp .Mult) gMul := by
  refine ⟨?_⟩
  intro d e z x y r H S S' Q q k1 k2 ro ed
  unfold gMul at q
  split at q
  · split at q
    · rename_i hz; cases q; exact wO_of op_mulW ⟨_, _, k1, k2, hz, ed.flat ro rfl⟩
    · cases q
  · rename_i m k
    cases e1 : lstD (.ref m) S with
    | none => rw [e1] at q; cases q
    | some xs =>
      rw [e1] at q
      simp only [Option.bind_some] at q
      split at q
      · rename_i hz; cases q
        obtain ⟨n1, p1, vs, _, _, rfl, h1, _, hv⟩ := lstD_ok ro k1 e1
        have l1 := hv.length
        refine wO_of op_rep ⟨p1, k, vs, rfl, k2, h1, by omega, by omega, by rw [← l1]; exact hz.2.2, fun p hp => ?_⟩
        exact ed.lstN ro (hv.rep _) hp
      · cases q
  · rename_i xs k
    split at q
    · rename_i hz; cases q
      obtain ⟨a, vs, rfl, ha, hv⟩ := k1
      have l1 := hv.length
      refine wO_of op_repT ⟨a, k, vs, rfl, k2, (sqT_of ha), fun e => ?_, hz.2.1, hz.2.2.1, by rw [← l1]; exact hz.2.2.2, fun p hp => ed.tupN ro (hv.rep _) hp⟩
      subst e
      apply hz.1
      cases xs with | nil => rfl | cons _ _ => simp at l1
    · cases q
  · cases q

/-! ### is, is not -/
def gIs : G2 := fun d e S => match d, e with
  | .bl a, .bl b => some (.bl (decide (a = b)), S)
  | .non, .non => some (.bl true, S)
  | .bl _, .non | .int _, .non | .str _, .non | .tup _, .non | .ref _, .non | .ty _, .non | .adr _, .non | .kl _, .non | .exc _ _ _, .non => some (.bl false, S)
  | _, _ => none
def gIsNot : G2 := fun d e S => match d, e with
  | .bl a, .bl b => some (.bl (!decide (a = b)), S)
  | .non, .non => some (.bl false, S)
  | .bl _, .non | .int _, .non | .str _, .non | .tup _, .non | .ref _, .non | .ty _, .non | .adr _, .non | .kl _, .non | .exc _ _ _, .non => some (.bl true, S)
  | _, _ => none
theorem VR.notNone {K : PySem.W.Frag} {r : List Addr} {H : Hp} {d : D} {x : V} (k : VR K r H d x) (h : d ≠ .non) : x ≠ .non := by
  cases d with
  | non => exact absurd rfl h
  | bl b => have k : x = .bl b := k; subst k; exact fun z => nomatch z
  | int b => have k : x = .int b := k; subst k; exact fun z => nomatch z
  | str b => have k : x = .str b := k; subst k; exact fun z => nomatch z
  | ty b => have k : x = .ty b := k; subst k; exact fun z => nomatch z
  | adr b => have k : x = .ref b := k; subst k; exact fun z => nomatch z
  | tup b => obtain ⟨a, vs, rfl, _⟩ := k; exact fun z => nomatch z
  | kl b => obtain ⟨a, vs, rfl, _⟩ := k; exact fun z => nomatch z
  | ref b => obtain ⟨a, _, rfl⟩ := k; exact fun z => nomatch z
  | exc b d n => obtain ⟨rfl, _⟩ := k; exact fun z => nomatch z
theorem o_is : OpD X (compareOp .Is) gIs := by
  refine ⟨?_⟩
  intro d e z x y r H S S' Q q k1 k2 ro ed
  unfold gIs at q
  split at q
  · cases q; exact wO_of op_isBl ⟨_, _, k1, k2, ed.flat ro rfl⟩
  · cases q
    have k1 : x = .non := k1
    subst k1
    exact wO_of op_isN ⟨k2, ed.flat ro rfl⟩
  all_goals first
    | (cases q
       exact wO_of op_isN ⟨k2, by rw [decide_eq_false (k1.notNone (fun z => nomatch z))]; exact ed.flat ro rfl⟩)
    | cases q
/-! ### data as a whole: ==, != -/
def keyPy : Key → PyData
  | .inl i => .int i
  | .inr x => .str x
def toPy (S : Store) : Nat → D → Option PyData
  | _, .non => some .none
  | _, .bl b => some (.bool b)
  | _, .int i => some (.int i)
  | _, .str x => some (.str x)
  | n + 1, .tup xs => (xs.mapM (toPy S n)).map .tuple
  | n + 1, .kl xs => if 63 ≤ n then (xs.mapM (toPy S n)).map .list else none
  | n + 1, .ref m => match S[m]? with
    | some (.lst xs) => (xs.mapM (toPy S n)).map .list
    | some (.dct kvs) => ((kvs.map (·.2)).mapM (toPy S n)).map fun ps => .dict ((kvs.map fun kv => keyPy kv.1).zip ps)
    | _ => none
  | _, _ => none
end
section
variable {X : Cx} {pins : List (Addr × Obj)} {σ : L2.St} {r : List Addr} {H : Hp} {s : Shared} {S : Store}
theorem SysOk.at (sy : SysOk X.K H) (I : Inv X pins σ H s) : ∃ o es ep, s.heap.get? sysModules = some o ∧ o.data = .dict es ep := by
  rcases sy with ⟨o, es, ep, h, d⟩ | ⟨o, u, es, ep, h, d⟩
  · exact ⟨o, es, ep, I.kIn _ _ h, d⟩
  · exact ⟨o, es, ep, (I.hok _ _ h).1, d⟩
theorem seq_no_sys (sy : SysOk X.K H) (I : Inv X pins σ H s) {a : Addr} {o : Obj} {its : Array Value} {n : Nat} (h : s.heap.get? a = some o) (d : o.data = .seq its n) : a ≠ sysModules := fun e => by
  obtain ⟨o', es, ep, h1, d1⟩ := sy.at I
  rw [← e, h] at h1
  cases h1
  rw [d] at d1
  cases d1
abbrev RdS (h : Heap) (u : Value) (p : PyData) : Prop := ∃ as, Reads h u p as ∧ sysModules ∉ as
theorem readsAll_of {f : D → Option PyData} (hf : ∀ (d : D) (p : PyData) (v : V) (u : Value), f d = some p → VR X.K r H d v → RelV v u → RdS s.heap u p) :
    ∀ (xs : List D) (ps : List PyData) (vs : List V) (us : List Value), xs.mapM f = some ps → VRs X.K r H xs vs → Vals vs us → ∃ as, ReadsAll s.heap us ps as ∧ sysModules ∉ as
  | [], ps, vs, us, e, h, rv => by
    have h : vs = [] := h
    subst h
    cases rv
    simp at e
    subst e
    exact ⟨_, ReadsAll.nil, fun z => by cases z⟩
  | d :: xs, ps, vs, us, e, h, rv => by
    obtain ⟨v, ws, rfl, h1, h2⟩ := h
    cases rv with
    | cons r1 r2 =>
      rw [List.mapM_cons] at e
      cases e1 : f d with
      | none => rw [e1] at e; cases e
      | some p =>
        rw [e1] at e
        cases e2 : xs.mapM f with
        | none => rw [e2] at e; cases e
        | some qs =>
          rw [e2] at e
          cases e
          obtain ⟨as, q1, n1⟩ := hf d p v _ e1 h1 r1
          obtain ⟨bs, q2, n2⟩ := readsAll_of hf xs qs ws _ e2 h2 r2
          exact ⟨_, ReadsAll.cons q1 q2, fun z => (List.mem_append.mp z).elim n1 n2⟩
theorem VRs_of_KR : ∀ {kvs : List (Key × D)} {vs : List (Key × V)}, KR X.K r H kvs vs → VRs X.K r H (kvs.map (·.2)) (vs.map (·.2)) ∧ kvs.map (·.1) = vs.map (·.1)
  | [], _, h => by cases (show _ = _ from h); exact ⟨rfl, rfl⟩
  | p :: kvs, _, ⟨v, ws, e, h1, h2⟩ => by
    subst e
    obtain ⟨a, b⟩ := VRs_of_KR h2
    exact ⟨⟨v, _, rfl, h1, a⟩, by rw [List.map_cons, List.map_cons, b]⟩
theorem keyPy_reads {h : Heap} : ∀ {k : Key} {v : Value}, keyIs k v = true → Reads h v (keyPy k) [] := fun {k v} e => by
  rcases keyIs_shape e with ⟨i, t, rfl, rfl⟩ | ⟨x, t, rfl, rfl⟩
  · exact Reads.int i t
  · exact Reads.str x t
theorem dict_reads {P : Program} {w : World} {h : Heap} : ∀ {es : List DictEntry} {ws : List (Key × Value)} {kvs : List (Key × V)} {ps : List PyData} {as : List Addr}, Pairs (mixKind P w) es ws → KV kvs ws → ReadsAll h (ws.map (·.2)) ps as →
    ReadsAll h (es.map (·.key)) (((kvs.map fun kv => keyPy kv.1).zip ps).map (·.1)) [] ∧ ReadsAll h (es.map (·.val)) (((kvs.map fun kv => keyPy kv.1).zip ps).map (·.2)) as
  | _, _, _, _, _, .nil, .nil, rd => by
    cases rd
    exact ⟨ReadsAll.nil, ReadsAll.nil⟩
  | _, _, _, _, _, .cons h1 h2 h3, .cons e t, rd => by
    cases rd with
    | cons r1 r2 =>
      obtain ⟨a, b⟩ := dict_reads h3 t r2
      simp only [List.map_cons, List.zip_cons_cons]
      refine ⟨?_, ?_⟩
      · have h1 : keyIs _ _ = true := h1
        rw [← e.1] at h1
        have := ReadsAll.cons (keyPy_reads (h := h) h1) a
        simpa using this
      · rw [h2]
        exact ReadsAll.cons r1 b
theorem vals_of_KV : ∀ {kvs : List (Key × V)} {ws : List (Key × Value)}, KV kvs ws → Vals (kvs.map (·.2)) (ws.map (·.2))
  | _, _, .nil => .nil
  | _, _, .cons e t => .cons e.2 (vals_of_KV t)
theorem toPy_reads (I : Inv X pins σ H s) (ro : ROk X.K r H S) : ∀ (n : Nat) (d : D) (p : PyData) (v : V) (u : Value), toPy S n d = some p → VR X.K r H d v → RelV v u → RdS s.heap u p := by
  intro n
  induction n with
  | zero =>
    intro d p v u e k rv
    cases d with
    | non => cases e; have k : v = .non := k; subst k; cases rv; exact ⟨_, Reads.none, fun z => by cases z⟩
    | bl b => cases e; have k : v = .bl b := k; subst k; cases rv; exact ⟨_, Reads.bool b, fun z => by cases z⟩
    | int i => cases e; have k : v = .int i := k; subst k; obtain ⟨t, rfl⟩ := rv; exact ⟨_, Reads.int i t, fun z => by cases z⟩
    | str i => cases e; have k : v = .str i := k; subst k; obtain ⟨t, rfl⟩ := rv; exact ⟨_, Reads.str i t, fun z => by cases z⟩
    | _ => cases e
  | succ n ih =>
    intro d p v u e k rv
    have lists : ∀ (xs : List D) (a : Addr) (vs : List V), (xs.mapM (toPy S n)).map PyData.list = some p → SqL X.K H a vs → VRs X.K r H xs vs → v = .ref a → RdS s.heap u p := fun xs a vs e hs hv ev => by
      subst ev
      cases rv
      obtain ⟨its, rvv, ⟨o, n', ho, hc, _, hd⟩, _⟩ := I.list hs
      cases e2 : xs.mapM (toPy S n) with
      | none => rw [e2] at e; cases e
      | some ps =>
        rw [e2] at e; cases e
        obtain ⟨as, hr, hn⟩ := readsAll_of (s := s) ih xs ps vs its e2 hv rvv
        exact ⟨_, Reads.list ho hc hd hr, fun z => (List.mem_cons.mp z).elim (fun e => seq_no_sys ro.sys I ho hd e.symm) hn⟩
    cases d with
    | non => cases e; have k : v = .non := k; subst k; cases rv; exact ⟨_, Reads.none, fun z => by cases z⟩
    | bl b => cases e; have k : v = .bl b := k; subst k; cases rv; exact ⟨_, Reads.bool b, fun z => by cases z⟩
    | int i => cases e; have k : v = .int i := k; subst k; obtain ⟨t, rfl⟩ := rv; exact ⟨_, Reads.int i t, fun z => by cases z⟩
    | str i => cases e; have k : v = .str i := k; subst k; obtain ⟨t, rfl⟩ := rv; exact ⟨_, Reads.str i t, fun z => by cases z⟩
    | tup xs =>
      obtain ⟨a, vs, rfl, hs, hv⟩ := k
      cases rv
      obtain ⟨its, rvv, ⟨o, ho, hc, n', hd⟩, _⟩ := I.tuple (sqT_of hs)
      have e : (xs.mapM (toPy S n)).map PyData.tuple = some p := e
      cases e2 : xs.mapM (toPy S n) with
      | none => rw [e2] at e; cases e
      | some ps =>
        rw [e2] at e; cases e
        obtain ⟨as, hr, hn⟩ := readsAll_of (s := s) ih xs ps vs its e2 hv rvv
        exact ⟨_, Reads.tuple ho hc hd hr, hn⟩
    | kl xs =>
      obtain ⟨a, vs, rfl, hs, hv⟩ := k
      have e : (if 63 ≤ n then (xs.mapM (toPy S n)).map PyData.list else none) = some p := e
      by_cases hn : 63 ≤ n
      · rw [if_pos hn] at e
        exact lists xs a vs e hs.l hv rfl
      · rw [if_neg hn] at e
        cases e
    | ref m =>
      obtain ⟨a, ha, rfl⟩ := k
      unfold toPy at e
      cases q : S[m]? with
      | none => rw [q] at e; cases e
      | some o =>
        rw [q] at e
        have oo := ro.ob m o a q ha
        cases o with
        | lst xs => obtain ⟨vs, h1, h2⟩ := oo; exact lists xs a vs e (.of h1) h2 rfl
        | dct kvs =>
          obtain ⟨vs, h1, h2⟩ := oo
          cases rv
          obtain ⟨_, hsys, ws, kv, o, es, ep, ho, hex, hd, _, hp, _⟩ := I.hok _ _ h1
          obtain ⟨k1, k2⟩ := VRs_of_KR h2
          have e : ((kvs.map (·.2)).mapM (toPy S n)).map (fun ps => PyData.dict ((kvs.map fun kv => keyPy kv.1).zip ps)) = some p := e
          cases e2 : (kvs.map (·.2)).mapM (toPy S n) with
          | none => rw [e2] at e; cases e
          | some ps =>
            rw [e2] at e; cases e
            obtain ⟨as, hr, hn⟩ := readsAll_of (s := s) ih _ ps _ _ e2 k1 (vals_of_KV kv)
            have ek : (kvs.map fun kv => keyPy kv.1) = vs.map fun kv => keyPy kv.1 := by
              have := congrArg (List.map keyPy) k2
              simpa [List.map_map, Function.comp_def] using this
            rw [ek]
            obtain ⟨q1, q2⟩ := dict_reads hp kv hr
            refine ⟨_, Reads.dict ho hex.1 hd q1 q2, fun z => ?_⟩
            rcases List.mem_append.mp z with z | z
            · rcases List.mem_cons.mp z with z | z
              · rw [← z] at hsys
                exact absurd hsys (by decide)
              · cases z
            · exact hn z
        | _ => cases e
    | _ => cases e
def pyD (S : Store) (d : D) : Option PyData := toPy S 64 d
def eqPD (d e : D) (S : Store) : Option Bool := (pyD S d).bind fun p => (pyD S e).bind fun q => if PyData.plain p = true ∧ PyData.plain q = true ∧ p.depth ≤ 64 then some (PyData.eqv p q) else none
theorem eqPD_ok {d e : D} {b : Bool} (h : eqPD d e S = some b) : ∃ p q, pyD S d = some p ∧ pyD S e = some q ∧ PyData.plain p = true ∧ PyData.plain q = true ∧ p.depth ≤ 64 ∧ b = PyData.eqv p q := by
  unfold eqPD at h
  cases h1 : pyD S d with
  | none => rw [h1] at h; cases h
  | some p =>
    rw [h1] at h
    cases h2 : pyD S e with
    | none => rw [h2] at h; cases h
    | some q =>
      rw [h2] at h
      simp only [Option.bind_some] at h
      split at h
      · rename_i hc; cases h; exact ⟨p, q, rfl, rfl, hc.1, hc.2.1, hc.2.2, rfl⟩
      · cases h
/-- two lists, or two tuples, of unlike length, one of them empty: whatever they hold -/
def seqOf (d : D) (S : Store) : Option (Bool × Nat) := match d with
  | .tup xs => some (true, xs.length)
  | .kl xs => some (false, xs.length)
  | .ref m => match S[m]? with
    | some (.lst xs) => some (false, xs.length)
    | _ => none
  | _ => none
def eqLen (d e : D) (S : Store) : Option Bool := (seqOf d S).bind fun p => (seqOf e S).bind fun q => if p.1 = q.1 ∧ p.2 ≠ q.2 ∧ (p.1 = false ∨ p.2 = 0 ∨ q.2 = 0) then some false else none
def eqP (d e : D) (S : Store) : Option Bool := match d, e with
  | .str x, .str y => some (decide (x = y))
  | _, _ => match eqLen d e S with
    | some b => some b
    | none => eqPD d e S
theorem eqP_ok {d e : D} {b : Bool} (h : eqP d e S = some b) : (∃ x y, d = .str x ∧ e = .str y ∧ b = decide (x = y)) ∨ (eqLen d e S = some b) ∨ ∃ p q, pyD S d = some p ∧ pyD S e = some q ∧ PyData.plain p = true ∧ PyData.plain q = true ∧ p.depth ≤ 64 ∧ b = PyData.eqv p q := by
  unfold eqP at h
  split at h
  · cases h; exact .inl ⟨_, _, rfl, rfl, rfl⟩
  · cases q : eqLen d e S with
    | some c => rw [q] at h; cases h; exact .inr (.inl rfl)
    | none => rw [q] at h; exact .inr (.inr (eqPD_ok h))
theorem seqOf_ok (I : Inv X pins σ H s) (ro : ROk X.K r H S) {d : D} {v : V} {u : Value} {t : Bool} {n : Nat} (h : seqOf d S = some (t, n)) (k : VR X.K r H d v) (rv : RelV v u) :
    ∃ (a : Addr) (its : Array Value), u = .ref a ∧ its.size = n ∧ (t = true → s.heap.IsTuple a its) ∧ (t = false → s.heap.IsList a its) := by
  have lists : ∀ (xs : List D) (a : Addr) (vs : List V), SqL X.K H a vs → VRs X.K r H xs vs → v = .ref a → ∃ (a : Addr) (its : Array Value), u = .ref a ∧ its.size = xs.length ∧ (false = true → s.heap.IsTuple a its) ∧ (false = false → s.heap.IsList a its) := fun xs a vs hs hv ev => by
    subst ev
    obtain rfl : u = .ref a := rv
    obtain ⟨its, rvv, pl, _⟩ := I.list hs
    exact ⟨a, its.toArray, rfl, by rw [List.size_toArray, ← rvv.length, ← hv.length], fun z => (by cases z), fun _ => pl.isList⟩
  cases d with
  | tup xs =>
    cases h
    obtain ⟨a, vs, rfl, hs, hv⟩ := k
    obtain rfl : u = .ref a := rv
    obtain ⟨its, rvv, ⟨o, ho, hc, n', hd⟩, _⟩ := I.tuple (sqT_of hs)
    exact ⟨a, its.toArray, rfl, by rw [List.size_toArray, ← rvv.length, ← hv.length], fun _ => ⟨o, ho, hc, n', hd⟩, fun z => (by cases z)⟩
  | kl xs =>
    cases h
    obtain ⟨a, vs, e, hs, hv⟩ := k
    exact lists xs a vs hs.l hv e
  | ref m =>
    obtain ⟨a, ha, e⟩ := k
    unfold seqOf at h
    dsimp only at h
    cases q : S[m]? with
    | none => rw [q] at h; cases h
    | some o =>
      rw [q] at h
      have oo := ro.ob m o a q ha
      cases o with
      | lst xs => cases h; obtain ⟨vs, h1, h2⟩ := oo; exact lists xs a vs (.of h1) h2 e
      | _ => cases h
  | _ => cases h
theorem eqLen_ok {b : Bool} {d e : D} (h : eqLen d e S = some b) : b = false ∧ ∃ t n m, seqOf d S = some (t, n) ∧ seqOf e S = some (t, m) ∧ n ≠ m ∧ (t = true → n = 0 ∨ m = 0) := by
  unfold eqLen at h
  cases h1 : seqOf d S with
  | none => rw [h1] at h; cases h
  | some p =>
    rw [h1] at h
    cases h2 : seqOf e S with
    | none => rw [h2] at h; cases h
    | some q =>
      rw [h2] at h
      simp only [Option.bind_some] at h
      split at h
      · rename_i hc
        cases h
        obtain ⟨t, n⟩ := p
        obtain ⟨t', m⟩ := q
        obtain ⟨c1, c2, c3⟩ := hc
        have c1 : t = t' := c1
        subst c1
        exact ⟨rfl, t, n, m, rfl, rfl, c2, fun ht => c3.elim (fun z => by rw [ht] at z; cases z) id⟩
      · cases h
def gEq : G2 := fun d e S => (eqP d e S).map fun b => (.bl b, S)
def gNe : G2 := fun d e S => (eqP d e S).map fun b => (.bl (!b), S)
theorem o_eq (hu : X.A.units + 64 < cLine) : OpD X (compareOp .Eq) gEq := by
  refine ⟨?_⟩
  intro d e z x y r H S S' Q q k1 k2 ro ed
  unfold gEq at q
  cases h : eqP d e S with
  | none => rw [h] at q; cases q
  | some b =>
    rw [h] at q; cases q
    rcases eqP_ok h with ⟨x', y', rfl, rfl, rfl⟩ | hl | ⟨p, q, h1, h2, s1, s2, s3, rfl⟩
    · have k1 : x = .str x' := k1
      have k2 : y = .str y' := k2
      subst k1; subst k2
      refine wO_of op_eq ⟨rfl, ?_⟩
      refine ed.flat ro ?_
      show V.bl _ = V.bl _
      congr 1
      simp
    · obtain ⟨rfl, t, n, m, h1, h2, hne, hz⟩ := eqLen_ok hl
      intro pins s σ v u I rx ry
      obtain ⟨a, its, rfl, hs1, ht1, hl1⟩ := seqOf_ok I ro h1 k1 rx
      obtain ⟨b, its', rfl, hs2, ht2, hl2⟩ := seqOf_ok I ro h2 k2 ry
      have fin : EP X pins σ Q (.bool false) s := ⟨.bl _, H, I, rfl, ed.flat ro rfl⟩
      cases t with
      | true =>
        refine SeqAt.RcAt.tuples (e := fun _ => true) (ht1 rfl) (ht2 rfl) (by omega) (fun j j1 j2 => by rcases hz rfl with z | z <;> omega) _ _ _ _ ?_
        have e : (its.size == its'.size) = false := by rw [hs1, hs2]; simpa using hne
        rw [e, Bool.and_false]
        exact fin
      | false => exact SeqAt.RcAt.lists_lengths (hl1 rfl) (hl2 rfl) (by rw [hs1, hs2]; simpa using hne) (by omega) _ _ _ _ fin
    · intro pins s σ v u I rx ry
      obtain ⟨as, r1, _⟩ := toPy_reads I ro 64 d p x v h1 k1 rx
      obtain ⟨bs, r2, _⟩ := toPy_reads I ro 64 e q y u h2 k2 ry
      exact SeqAt.eq_plain r1 r2 s1 s2 (by omega) ⟨.bl _, H, I, rfl, ed.flat ro rfl⟩
theorem o_ne (hu : X.A.units + 64 < cLine) : OpD X (compareOp .NotEq) gNe := by
  refine ⟨?_⟩
  intro d e z x y r H S S' Q q k1 k2 ro ed
  unfold gNe at q
  cases h : eqP d e S with
  | none => rw [h] at q; cases q
  | some b =>
    rw [h] at q; cases q
    rcases eqP_ok h with ⟨x', y', rfl, rfl, rfl⟩ | hl | ⟨p, q, h1, h2, s1, s2, s3, rfl⟩
    · have k1 : x = .str x' := k1
      have k2 : y = .str y' := k2
      subst k1; subst k2
      refine wO_of op_ne ⟨rfl, ?_⟩
      refine ed.flat ro ?_
      show V.bl _ = V.bl _
      congr 1
      simp
    · obtain ⟨rfl, t, n, m, h1, h2, hne, hz⟩ := eqLen_ok hl
      intro pins s σ v u I rx ry
      obtain ⟨a, its, rfl, hs1, ht1, hl1⟩ := seqOf_ok I ro h1 k1 rx
      obtain ⟨b, its', rfl, hs2, ht2, hl2⟩ := seqOf_ok I ro h2 k2 ry
      have fin : EP X pins σ Q (.bool true) s := ⟨.bl _, H, I, rfl, ed.flat ro rfl⟩
      cases t with
      | true =>
        refine SeqAt.RcNeAt.tuples (e := fun _ => true) (ht1 rfl) (ht2 rfl) (by omega) (fun j j1 j2 => by rcases hz rfl with z | z <;> omega) _ _ _ _ ?_
        have e : (its.size == its'.size) = false := by rw [hs1, hs2]; simpa using hne
        rw [e, Bool.and_false]
        exact fin
      | false => exact SeqAt.RcNeAt.lists_lengths (hl1 rfl) (hl2 rfl) (by rw [hs1, hs2]; simpa using hne) (by omega) _ _ _ _ fin
    · intro pins s σ v u I rx ry
      obtain ⟨as, r1, _⟩ := toPy_reads I ro 64 d p x v h1 k1 rx
      obtain ⟨bs, r2, _⟩ := toPy_reads I ro 64 e q y u h2 k2 ry
      exact SeqAt.ne_plain r1 r2 s1 s2 (by omega) ⟨.bl _, H, I, rfl, ed.flat ro rfl⟩
end
end Q

namespace Q
open PySem PySem.Spec PyProof.Rows L2
variable [Gh : Ghost] [Gr : Grd]
structure Gd (X : Cx) (k : Nat) : Prop where
  calm : X.calm = true
  room : Room k X.A
  gd : Gr.ok X.A.guards
section
variable {X : Cx} {k : Nat}
/-! ### calls of built-ins by name -/
def mCall (g : GN) (m : MA) : ME := fun en S => (m en S).bind fun ds S1 => ofOpt (g ds S1)
section
variable {x : Str} {p pos : Pos} {e : Expr} {es : List Expr} {id T : String} {g : GN} {m : MA}
theorem e_callB (hc : CallD X (.builtin id) g) (hg : Gl X x) (hm : X.mg x = none) (hv : bootBuiltins x = some (.builtin id)) (ha : SndA X (e :: es) m) (hn : x ≠ "__name__" := by decide) (hdb : (x == ("__debug__" : Str)) = false := by decide)
    (he : starEach (e :: es) X.env = (false, eval e X.env) :: starEach es X.env := by rfl) (hpl : (backTo pos (starEach es X.env)).any (·.1) = false := by rfl) : SndE X (.Call (.Name x p) (e :: es) [] pos) (mCall g m) := by
  refine ⟨?_⟩
  intro W tk en σ r H S Q er ro dn
  refine wE_of (pe_callB (callr_wC X _) hg hm hv (pa_wA X _) hn hdb he hpl) ?_
  refine ha.run W tk en σ r H S _ er ro (Dn.imp (Dn.bind dn) fun xs H1 ⟨ds, S1, r1, e1, s1, o1, k1, d1⟩ => ?_)
  obtain ⟨z, S', g1, ed⟩ := dn_ofOpt d1
  exact hc.run ds z xs r1 H1 S1 S' Q g1 k1 o1 ed
theorem e_callT (hc : CallD X (.type T) g) (hg : Gl X x) (hm : X.mg x = none) (hv : bootBuiltins x = some (.type T)) (ha : SndA X (e :: es) m) (hn : x ≠ "__name__" := by decide) (hdb : (x == ("__debug__" : Str)) = false := by decide)
    (he : starEach (e :: es) X.env = (false, eval e X.env) :: starEach es X.env := by rfl) (hpl : (backTo pos (starEach es X.env)).any (·.1) = false := by rfl) : SndE X (.Call (.Name x p) (e :: es) [] pos) (mCall g m) := by
  refine ⟨?_⟩
  intro W tk en σ r H S Q er ro dn
  refine wE_of (pe_callTy (callr_wC X _) hg hm hv (pa_wA X _) hn hdb he hpl) ?_
  refine ha.run W tk en σ r H S _ er ro (Dn.imp (Dn.bind dn) fun xs H1 ⟨ds, S1, r1, e1, s1, o1, k1, d1⟩ => ?_)
  obtain ⟨z, S', g1, ed⟩ := dn_ofOpt d1
  exact hc.run ds z xs r1 H1 S1 S' Q g1 k1 o1 ed
end
/-- one argument -/
def g1N (g : G1) : GN := fun ds S => match ds with
  | [d] => g d S
  | _ => none
def g2N (g : G2) : GN := fun ds S => match ds with
  | [d, e] => g d e S
  | _ => none
theorem g1N_ok {g : G1} {ds : List D} {S : Store} {z : D} {S' : Store} (h : g1N g ds S = some (z, S')) : ∃ d, ds = [d] ∧ g d S = some (z, S') := by
  match ds, h with
  | [d], h => exact ⟨d, rfl, h⟩
  | [], h => cases h
  | _ :: _ :: _, h => cases h
theorem g2N_ok {g : G2} {ds : List D} {S : Store} {z : D} {S' : Store} (h : g2N g ds S = some (z, S')) : ∃ d e, ds = [d, e] ∧ g d e S = some (z, S') := by
  match ds, h with
  | [d, e], h => exact ⟨d, e, rfl, h⟩
  | [], h => cases h
  | [_], h => cases h
  | _ :: _ :: _ :: _, h => cases h
theorem VRs.one_inv {K : PySem.W.Frag} {r : List Addr} {H : Hp} {d : D} {vs : List V} (h : VRs K r H [d] vs) : ∃ v, vs = [v] ∧ VR K r H d v := by
  obtain ⟨v, ws, rfl, h1, h2⟩ := h
  have h2 : ws = [] := h2
  subst h2
  exact ⟨v, rfl, h1⟩
theorem VRs.two_inv {K : PySem.W.Frag} {r : List Addr} {H : Hp} {d e : D} {vs : List V} (h : VRs K r H [d, e] vs) : ∃ v w, vs = [v, w] ∧ VR K r H d v ∧ VR K r H e w := by
  obtain ⟨v, ws, rfl, h1, h2⟩ := h
  obtain ⟨w, rfl, h3⟩ := h2.one_inv
  exact ⟨v, w, rfl, h1, h3⟩
/-- a call of one argument -/
structure Call1D (X : Cx) (f : Value) (g : G1) : Prop where
  run : ∀ (d z : D) (x : V) (r : List Addr) (H : Hp) (S S' : Store) (Q : VK), g d S = some (z, S') → VR X.K r H d x → ROk X.K r H S → Ed X.K r H z S' Q → wC X f [x] H Q
structure Call2D (X : Cx) (f : Value) (g : G2) : Prop where
  run : ∀ (d e z : D) (x y : V) (r : List Addr) (H : Hp) (S S' : Store) (Q : VK), g d e S = some (z, S') → VR X.K r H d x → VR X.K r H e y → ROk X.K r H S → Ed X.K r H z S' Q → wC X f [x, y] H Q
theorem Call1D.call {f : Value} {g : G1} (h : Call1D X f g) : CallD X f (g1N g) := by
  refine ⟨?_⟩
  intro ds z xs r H S S' Q q k ro ed
  obtain ⟨d, rfl, q⟩ := g1N_ok q
  obtain ⟨v, rfl, kx⟩ := k.one_inv
  exact h.run d z v r H S S' Q q kx ro ed
theorem Call2D.call {f : Value} {g : G2} (h : Call2D X f g) : CallD X f (g2N g) := by
  refine ⟨?_⟩
  intro ds z xs r H S S' Q q k ro ed
  obtain ⟨d, e, rfl, q⟩ := g2N_ok q
  obtain ⟨v, w, rfl, k1, k2⟩ := k.two_inv
  exact h.run d e z v w r H S S' Q q k1 k2 ro ed

/-! ### len, abs, int, bool, max and min of two -/
def lenD (d : D) (S : Store) : Option Nat := match d with
  | .str y => if y.length ≤ sizeLine then some y.length else none
  | .tup xs => some xs.length
  | .kl xs => some xs.length
  | .ref n => match S[n]? with
    | some (.lst xs) => some xs.length
    | _ => none
  | _ => none
def gLen : G1 := fun d S => (lenD d S).map fun n => (.int n, S)
theorem c_len : Call1D X (.builtin "len") gLen := by
  refine ⟨?_⟩
  intro d z x r H S S' Q q k ro ed
  unfold gLen at q
  cases h : lenD d S with
  | none => rw [h] at q; cases q
  | some n =>
    rw [h] at q; cases q
    refine wC_of call_len ⟨x, n, rfl, ?_, ed.flat ro rfl⟩
    unfold lenD at h
    split at h
    · split at h
      · rename_i y hy; cases h; have k : x = .str y := k; subst k; exact ⟨hy, rfl⟩
      · cases h
    · cases h
      obtain ⟨a, vs, rfl, ha, hv⟩ := k
      exact .inr ⟨vs, (sqT_of ha), hv.length⟩
    · cases h
      obtain ⟨a, vs, rfl, ha, hv⟩ := k
      exact .inl ⟨vs, ha.l, hv.length⟩
    · rename_i m
      obtain ⟨a, ha, rfl⟩ := k
      cases hq : S[m]? with
      | none => rw [hq] at h; cases h
      | some o =>
        rw [hq] at h
        have ho := ro.ob m o a hq ha
        cases o with
        | lst xs => cases h; obtain ⟨vs, h1, h2⟩ := ho; exact .inl ⟨vs, .of h1, h2.length⟩
        | _ => cases h
    · cases h
def gAbs : G1 := fun d S => (intD d).map fun i => (.int (if i < 0 then -i else i), S)
theorem c_abs : Call1D X (.builtin "abs") gAbs := by
  refine ⟨?_⟩
  intro d z x r H S S' Q q k ro ed
  cases d with
  | int i => cases q; exact wC_of call_abs ⟨i, by rw [show x = .int i from k], ed.flat ro rfl⟩
  | _ => cases q
def gInt : G1 := fun d S => match d with
  | .int i => some (.int i, S)
  | .bl b => some (.int (if b then 1 else 0), S)
  | _ => none
theorem c_int : Call1D X (.type "int") gInt := by
  refine ⟨?_⟩
  intro d z x r H S S' Q q k ro ed
  unfold gInt at q
  split at q
  · cases q; exact wC_of call_int1 (.inl ⟨_, by rw [show x = .int _ from k], ed.flat ro rfl⟩)
  · cases q; exact wC_of call_int1 (.inr ⟨_, by rw [show x = .bl _ from k], ed.flat ro rfl⟩)
  · cases q
def gMin2 : G2 := gI yes2 fun i j => .int (if j < i then j else i)
theorem c_min2 (g : Gd X k) : Call2D X (.builtin "min") gMin2 := by
  refine ⟨?_⟩
  intro d e z x y r H S S' Q q k1 k2 ro ed
  obtain ⟨i, j, rfl, rfl, _, rfl, rfl⟩ := gI_ok q
  exact wC_of (call_min2 g.calm) ⟨i, j, by rw [show x = .int i from k1, show y = .int j from k2], ed.flat ro rfl⟩

/-! ### sum, max, min, all, any of a list -/
def intsD : List D → Option (List Int)
  | [] => some []
  | .int i :: r => (intsD r).map (i :: ·)
  | _ => none
def blsD : List D → Option (List Bool)
  | [] => some []
  | .bl i :: r => (blsD r).map (i :: ·)
  | _ => none
theorem intsD_ok {K : PySem.W.Frag} {r : List Addr} {H : Hp} : ∀ {ds : List D} {ns : List Int} {vs : List V}, intsD ds = some ns → VRs K r H ds vs → vs = ns.map V.int
  | [], _, _, e, h => by cases e; exact h
  | d :: ds, _, _, e, h => by
    obtain ⟨v, ws, rfl, h1, h2⟩ := h
    cases d with
    | int i =>
      unfold intsD at e
      obtain ⟨ns, e1, rfl⟩ := Option.map_eq_some_iff.mp e
      rw [intsD_ok e1 h2, show v = .int i from h1]
      rfl
    | _ => cases e
theorem blsD_ok {K : PySem.W.Frag} {r : List Addr} {H : Hp} : ∀ {ds : List D} {ns : List Bool} {vs : List V}, blsD ds = some ns → VRs K r H ds vs → vs = ns.map V.bl
  | [], _, _, e, h => by cases e; exact h
  | d :: ds, _, _, e, h => by
    obtain ⟨v, ws, rfl, h1, h2⟩ := h
    cases d with
    | bl i =>
      unfold blsD at e
      obtain ⟨ns, e1, rfl⟩ := Option.map_eq_some_iff.mp e
      rw [blsD_ok e1 h2, show v = .bl i from h1]
      rfl
    | _ => cases e
theorem lst_of {r : List Addr} {H : Hp} {S : Store} {d : D} {x : V} {ds : List D} (ro : ROk X.K r H S) (k : VR X.K r H d x) (e : lstD d S = some ds) : ∃ p vs, x = .ref p ∧ SqL X.K H p vs ∧ VRs X.K r H ds vs := by
  obtain ⟨n, p, vs, _, _, rfl, h1, _, h2⟩ := lstD_ok ro k e
  exact ⟨p, vs, rfl, .of h1, h2⟩
def gAll : G1 := fun d S => (lstD d S).bind fun ds => (blsD ds).map fun ns => (.bl (ns.all fun b => b), S)
theorem c_all (g : Gd X k) : Call1D X (.builtin "all") gAll := by
  refine ⟨?_⟩
  intro d z x r H S S' Q q k ro ed
  obtain ⟨ds, h1, q⟩ := Option.bind_eq_some_iff.mp q
  obtain ⟨ns, h2, q⟩ := Option.map_eq_some_iff.mp q
  cases q
  obtain ⟨p, vs, rfl, hs, hv⟩ := lst_of ro k h1
  rw [blsD_ok h2 hv] at hs
  exact wC_of (cr_all g.calm) ⟨p, ns, rfl, hs, ed.flat ro rfl⟩
/-- tuple(xs), list(xs) -/
def gTuple : G1 := fun d S => (itemsD d S).map fun ds => (.tup ds, S)
def gList : G1 := fun d S => (itemsD d S).map fun ds => (.ref S.length, S ++ [.lst ds])
theorem c_tuple : Call1D X (.type "tuple") gTuple := by
  refine ⟨?_⟩
  intro d z x r H S S' Q q k ro ed
  obtain ⟨ds, h1, q⟩ := Option.map_eq_some_iff.mp q
  cases q
  obtain ⟨p, vs, rfl, hs, hv⟩ := itemsD_ok2 ro k h1
  refine wC_of call_tuple_of ⟨p, vs, rfl, ?_⟩
  rcases hs with hs | hs
  · exact .inl ⟨hs, fun l hl => ed.tupN ro hv hl⟩
  · exact .inr ⟨sqT_of hs, ed.flat ro ⟨p, vs, rfl, hs, hv⟩⟩
theorem c_list : Call1D X (.type "list") gList := by
  refine ⟨?_⟩
  intro d z x r H S S' Q q k ro ed
  obtain ⟨ds, h1, q⟩ := Option.map_eq_some_iff.mp q
  cases q
  obtain ⟨p, vs, rfl, hs, hv⟩ := itemsD_ok ro k h1
  exact wC_of call_list_of ⟨p, vs, rfl, hs, fun l hl => ed.lstN ro hv hl⟩

/-! ### repr -/
def reprP (d : D) (S : Store) : Option Str := (pyD S d).bind fun p => if p.showable = true ∧ p.depth ≤ 64 ∧ p.shown.length ≤ sizeLine then some p.shown else none
def gRepr : G1 := fun d S => (reprP d S).map fun x => (.str x, S)
theorem c_repr [GrdS Gr] (g : Gd X k) : Call1D X (.builtin "repr") gRepr := by
  refine ⟨?_⟩
  intro d z x r H S S' Q q k ro ed
  obtain ⟨t, h1, q⟩ := Option.map_eq_some_iff.mp q
  cases q
  obtain ⟨p, h2, h3⟩ := Option.bind_eq_some_iff.mp h1
  by_cases hc : p.showable = true ∧ p.depth ≤ 64 ∧ p.shown.length ≤ sizeLine
  · rw [if_pos hc] at h3
    cases h3
    obtain ⟨c1, c2, c4⟩ := hc
    intro pins s σ us I rv
    obtain ⟨u, rfl, ru⟩ := vals1 rv
    obtain ⟨as, rd, hns⟩ := toPy_reads I ro 64 d p x u h2 k ru
    have hu := g.room.un
    have rd0 := rd
    have fin : ∀ tk, EP X pins σ Q (.str p.shown tk) { s with toks := s.toks + 1 } := fun tk => ⟨.str p.shown, H, I.tok _, ⟨tk, rfl⟩, ed.flat ro rfl⟩
    cases rd with
    | none =>
      rw [PyData.shown_none] at fin
      exact PySem.P.repr_of_none (fin _)
    | bool b =>
      rw [PyData.shown_bool] at fin
      exact PySem.P.repr_of_bool (by cases b <;> exact fin _)
    | int i t =>
      rw [PyData.shown_int] at fin
      refine PySem.P.repr_of_int (by simpa [PyData.showable] using c1) (fin _)
    | str y t =>
      rw [PyData.shown_str] at fin c4
      exact PySem.P.repr_of_str (fin _) c4
    | list _ _ _ _ =>
      exact repr_of_reads' rd0 c1 (fun _ => hns) (GrdS.std g.gd) (by omega) (fun _ _ e => e) (fun h' u tk hk => ⟨.str _, H, I.kept hk, ⟨u, rfl⟩, ed.flat ro rfl⟩) c4
    | tuple _ _ _ _ =>
      exact repr_of_reads' rd0 c1 (fun _ => hns) (GrdS.std g.gd) (by omega) (fun _ _ e => e) (fun h' u tk hk => ⟨.str _, H, I.kept hk, ⟨u, rfl⟩, ed.flat ro rfl⟩) c4
    | dict _ _ _ _ _ =>
      exact repr_of_reads' rd0 c1 (fun _ => hns) (GrdS.std g.gd) (by omega) (fun _ _ e => e) (fun h' u tk hk => ⟨.str _, H, I.kept hk, ⟨u, rfl⟩, ed.flat ro rfl⟩) c4
  · rw [if_neg hc] at h3; cases h3

/-! ### isinstance -/
inductive Kd where
  | none | bool | int | str | tup | lst | dct | ins (C : Addr)
def kindD (d : D) (S : Store) : Option Kd := match d with
  | .non => some .none
  | .bl _ => some .bool
  | .int _ => some .int
  | .str _ => some .str
  | .tup _ => some .tup
  | .kl _ => some .lst
  | .ref n => match S[n]? with
    | some (.lst _) => some .lst
    | some (.dct _) => some .dct
    | some (.dcT _) => some .dct
    | some (.ins C _) => some (.ins C)
    | _ => Option.none
  | _ => Option.none
def Kd.ty : Kd → Value
  | .none => .type "NoneType"
  | .bool => .type "bool"
  | .int => .type "int"
  | .str => .type "str"
  | .tup => .type "tuple"
  | .lst => .type "list"
  | .dct => .type "dict"
  | .ins C => .ref C
theorem kindD_ok {r : List Addr} {H : Hp} {S : Store} {d : D} {x : V} {q : Kd} (ro : ROk X.K r H S) (h : VR X.K r H d x) (e : kindD d S = some q) : TyX X.K H x q.ty ∧ ∀ C, q = .ins C → OwnOk X.K C := by
  cases d with
  | non => cases e; have h : x = .non := h; subst h; exact ⟨.base .non, fun _ z => nomatch z⟩
  | bl b => cases e; have h : x = .bl b := h; subst h; exact ⟨.base (.bl b), fun _ z => nomatch z⟩
  | int i => cases e; have h : x = .int i := h; subst h; exact ⟨.base (.int i), fun _ z => nomatch z⟩
  | str i => cases e; have h : x = .str i := h; subst h; exact ⟨.base (.str i), fun _ z => nomatch z⟩
  | tup xs =>
    cases e
    obtain ⟨p, vs, rfl, hs, hv⟩ := h
    exact ⟨.base (.tup hs), fun _ z => nomatch z⟩
  | kl xs =>
    cases e
    obtain ⟨p, vs, rfl, hs, hv⟩ := h
    refine ⟨?_, fun _ z => nomatch z⟩
    rcases hs with ⟨o, hs⟩ | ⟨o, its, n, h1, h2, _⟩
    · exact .base (.frz hs)
    · exact .kList h1 h2
  | ref n =>
    obtain ⟨p, hp, rfl⟩ := h
    unfold kindD at e
    dsimp only at e
    cases q' : S[n]? with
    | none => rw [q'] at e; cases e
    | some o =>
      rw [q'] at e
      have ho := ro.ob n o p q' hp
      cases o with
      | lst xs => cases e; obtain ⟨vs, h1, h2⟩ := ho; exact ⟨.base (.lst h1), fun _ z => nomatch z⟩
      | dct xs => cases e; obtain ⟨vs, h1, h2⟩ := ho; exact ⟨.base (.dK h1), fun _ z => nomatch z⟩
      | ins C fs => cases e; obtain ⟨dx, vs, h1, h2, h3⟩ := ho; exact ⟨.base (.ins h1 h3.cl h3.ha h3.hn h3.htk h3.hm), fun _ z => by cases z; exact h3⟩
      | xd fs => cases e
      | tab P q => cases e
      | dcT xs => cases e; obtain ⟨vs, h1, h2⟩ := ho; exact ⟨.base (.dT h1), fun _ z => nomatch z⟩
      | lkT kvs => cases e
  | _ => cases e
inductive Bt where
  | int | bool | str | tup | lst | dct
def Bt.nm : Bt → String
  | .int => "int" | .bool => "bool" | .str => "str" | .tup => "tuple" | .lst => "list" | .dct => "dict"
def isKd : Kd → Bt → Bool
  | .bool, .int => true
  | .int, .int => true
  | .bool, .bool => true
  | .str, .str => true
  | .tup, .tup => true
  | .lst, .lst => true
  | .dct, .dct => true
  | _, _ => false
theorem kit_bt {K : PySem.W.Frag} (q : Kd) (t : Bt) (h : ∀ C, q = .ins C → OwnOk K C) : PySem.W.kitOne K q.ty (.type t.nm) = some (isKd q t) := by
  cases q with
  | ins C =>
    have o := h C rfl
    cases t <;> exact o.nT _ (by simp [Bt.nm])
  | _ => cases t <;> with_unfolding_all rfl
def gIsi (t : Bt) : G1 := fun d S => (kindD d S).map fun q => (.bl (isKd q t), S)
def gIsiA (ts : List Bt) : G1 := fun d S => (kindD d S).map fun q => (.bl (ts.any (isKd q)), S)
theorem kit_bts {K : PySem.W.Frag} (q : Kd) (h : ∀ C, q = .ins C → OwnOk K C) : ∀ ts : List Bt, PySem.W.kitAny K q.ty (ts.map fun t => .type t.nm) = some (ts.any (isKd q))
  | [] => rfl
  | t :: ts => by
    rw [List.map_cons, List.any_cons]
    unfold PySem.W.kitAny
    rw [kit_bt q t h]
    cases isKd q t with
    | true => rfl
    | false => exact kit_bts q h ts
section
variable {p p1 pos : Pos} {e : Expr} {m : ME}
theorem e_isi (t : Bt) {x y : Str} (hg : Gl X x) (hm : X.mg x = none) (hv : bootBuiltins x = some (.builtin "isinstance")) (hg2 : Gl X y) (hm2 : X.mg y = none) (hv2 : bootBuiltins y = some (.type t.nm)) (ha : SndE X e m)
    (hn : x ≠ "__name__" := by decide) (hdb : (x == ("__debug__" : Str)) = false := by decide) (hn2 : y ≠ "__name__" := by decide) (hdb2 : (y == ("__debug__" : Str)) = false := by decide)
    (he : starEach [e, .Name y p1] X.env = (false, eval e X.env) :: starEach [.Name y p1] X.env := by rfl) (hpl : (backTo pos (starEach [.Name y p1] X.env)).any (·.1) = false := by rfl) :
    SndE X (.Call (.Name x p) [e, .Name y p1] [] pos) (m1 (gIsi t) m) := by
  refine ⟨?_⟩
  intro W tk en σ r H S Q er ro dn
  refine wE_of (pe_callB call_isi hg hm hv (pa_cons (pe_wE X e) (pa_cons (pe_bltn (v := .ty t.nm) hg2 hm2 hv2 rfl hn2 hdb2) pa_nil) he) hn hdb he hpl) ?_
  refine ha.run W tk en σ r H S _ er ro (Dn.imp (Dn.bind dn) fun x H1 ⟨d, S1, r1, e1, s1, o1, k1, d1⟩ => ?_)
  obtain ⟨z, S', g1, ed⟩ := dn_ofOpt d1
  obtain ⟨q, h1, q2⟩ := Option.map_eq_some_iff.mp g1
  cases q2
  obtain ⟨ty, ow⟩ := kindD_ok o1 k1 h1
  exact ⟨x, .ty t.nm, q.ty, .type t.nm, isKd q t, rfl, .ty _, ty, kit_bt q t ow, ed.flat o1 rfl⟩
theorem e_isi2 (t u : Bt) {x y1 y2 : Str} {px : Nat} {p2 p3 : Pos} (hg : Gl X x) (hm : X.mg x = none) (hv : bootBuiltins x = some (.builtin "isinstance")) (hg1 : Gl X y1) (hm1 : X.mg y1 = none) (hv1 : bootBuiltins y1 = some (.type t.nm))
    (hg2 : Gl X y2) (hm2 : X.mg y2 = none) (hv2 : bootBuiltins y2 = some (.type u.nm)) (ha : SndE X e m)
    (hn : x ≠ "__name__" := by decide) (hdb : (x == ("__debug__" : Str)) = false := by decide) (hn1 : y1 ≠ "__name__" := by decide) (hdb1 : (y1 == ("__debug__" : Str)) = false := by decide) (hn2 : y2 ≠ "__name__" := by decide) (hdb2 : (y2 == ("__debug__" : Str)) = false := by decide)
    (he : starEach [e, .Tuple [.Name y1 p1, .Name y2 p2] px p3] X.env = (false, eval e X.env) :: starEach [.Tuple [.Name y1 p1, .Name y2 p2] px p3] X.env := by rfl) (hpl : (backTo pos (starEach [.Tuple [.Name y1 p1, .Name y2 p2] px p3] X.env)).any (·.1) = false := by rfl) :
    SndE X (.Call (.Name x p) [e, .Tuple [.Name y1 p1, .Name y2 p2] px p3] [] pos) (m1 (gIsiA [t, u]) m) := by
  refine ⟨?_⟩
  intro W tk en σ r H S Q er ro dn
  refine wE_of (pe_callB call_isiT hg hm hv (pa_cons (pe_wE X e) (pa_cons (pe_tup (pa_cons (pe_bltn (v := .ty t.nm) hg1 hm1 hv1 rfl hn1 hdb1) (pa_cons (pe_bltn (v := .ty u.nm) hg2 hm2 hv2 rfl hn2 hdb2) pa_nil))) pa_nil) he) hn hdb he hpl) ?_
  refine ha.run W tk en σ r H S _ er ro (Dn.imp (Dn.bind dn) fun x H1 ⟨d, S1, r1, e1, s1, o1, k1, d1⟩ => ?_)
  obtain ⟨z, S', g1, ed⟩ := dn_ofOpt d1
  obtain ⟨q, h1, q2⟩ := Option.map_eq_some_iff.mp g1
  cases q2
  refine ⟨by show 2 ≤ sizeLine; decide, fun p hp => ?_⟩
  obtain ⟨ty, ow⟩ := kindD_ok (o1.loose (p := p) (u := .tup [.ty t.nm, .ty u.nm]) hp) (k1.mono (Stp.loose hp)) h1
  exact ⟨x, p, [.ty t.nm, .ty u.nm], q.ty, [.type t.nm, .type u.nm], ([t, u]).any (isKd q), rfl, upd_same, .cons (.ty _) (.cons (.ty _) .nil), ty, kit_bts q ow [t, u], ed r1 _ _ (Stp.loose hp) (o1.loose hp) rfl⟩
end
end
end Q

namespace Q
open PySem PySem.Spec PyProof.Rows L2
variable [Gh : Ghost] [Gr : Grd]
section
variable {X : Cx} {k : Nat} {a b : Expr} {ma mb : ME} {pos : Pos}
/-! ### an item: a[b] of a list, a tuple, a text -/
theorem VRs.atI {K : PySem.W.Frag} {r : List Addr} {H : Hp} {ds : List D} {vs : List V} {i : Int} {d : D} (h : VRs K r H ds vs) (e : L2.atI ds i = some d) : ∃ v, L2.atI vs i = some v ∧ VR K r H d v := by
  unfold L2.atI at e ⊢
  rw [← h.length]
  cases q : ixN ds.length i with
  | none => rw [q] at e; cases e
  | some j => rw [q] at e; exact h.get e
theorem keyD_ok {K : PySem.W.Frag} {r : List Addr} {H : Hp} {d : D} {x : V} {i : Key} (e : keyD d = some i) (k : VR K r H d x) : x = kV i := by
  cases d <;> first | (cases e; exact k) | cases e
def lookK (kvs : List (Key × D)) (k : Key) : Option D := (kvs.find? fun kv => decide (kv.1 = k)).map (·.2)
def putKD (kvs : List (Key × D)) (k : Key) (v : D) : List (Key × D) :=
  if (kvs.any fun kv => decide (kv.1 = k)) = true then kvs.map (fun kv => if kv.1 = k then (kv.1, v) else kv) else kvs ++ [(k, v)]
theorem KR.look {K : PySem.W.Frag} {r : List Addr} {H : Hp} (k : Key) : ∀ {ds : List (Key × D)} {vs : List (Key × V)}, KR K r H ds vs → match lookK ds k with | none => valV vs k = none | some d => ∃ v, valV vs k = some v ∧ VR K r H d v
  | [], vs, h => by have h : vs = [] := h; subst h; rfl
  | p :: ds, vs, h => by
    obtain ⟨v, ws, rfl, h1, h2⟩ := h
    have ih := KR.look k h2
    by_cases e : p.1 = k
    · rw [show lookK (p :: ds) k = some p.2 by simp [lookK, List.find?_cons, e]]
      exact ⟨v, valV_pos e, h1⟩
    · rw [show lookK (p :: ds) k = lookK ds k by simp [lookK, List.find?_cons, e], valV_neg (p := (p.1, v)) e]
      exact ih
theorem KR.any {K : PySem.W.Frag} {r : List Addr} {H : Hp} (k : Key) : ∀ {ds : List (Key × D)} {vs : List (Key × V)}, KR K r H ds vs → (ds.any fun kv => decide (kv.1 = k)) = vs.any fun kv => decide (kv.1 = k)
  | [], vs, h => by have h : vs = [] := h; subst h; rfl
  | p :: ds, vs, h => by
    obtain ⟨v, ws, rfl, h1, h2⟩ := h
    rw [List.any_cons, List.any_cons, KR.any k h2]
theorem KR.map {K : PySem.W.Frag} {r : List Addr} {H : Hp} {k : Key} {d : D} {v : V} (hd : VR K r H d v) : ∀ {ds : List (Key × D)} {vs : List (Key × V)}, KR K r H ds vs → KR K r H (ds.map fun kv => if kv.1 = k then (kv.1, d) else kv) (vs.map fun kv => if kv.1 = k then (kv.1, v) else kv)
  | [], vs, h => by have h : vs = [] := h; subst h; rfl
  | p :: ds, vs, h => by
    obtain ⟨w, ws, rfl, h1, h2⟩ := h
    rw [List.map_cons, List.map_cons]
    by_cases e : p.1 = k
    · rw [if_pos e, if_pos (show (p.1, w).1 = k from e)]
      exact ⟨v, _, rfl, hd, KR.map hd h2⟩
    · rw [if_neg e, if_neg (show ¬ (p.1, w).1 = k from e)]
      exact ⟨w, _, rfl, h1, KR.map hd h2⟩
theorem KR.append {K : PySem.W.Frag} {r : List Addr} {H : Hp} : ∀ {ds es : List (Key × D)} {vs ws : List (Key × V)}, KR K r H ds vs → KR K r H es ws → KR K r H (ds ++ es) (vs ++ ws)
  | [], _, vs, _, h, h' => by have h : vs = [] := h; subst h; exact h'
  | p :: ds, _, vs, _, h, h' => by
    obtain ⟨w, ws, rfl, h1, h2⟩ := h
    exact ⟨w, _, rfl, h1, KR.append h2 h'⟩
theorem KR.put {K : PySem.W.Frag} {r : List Addr} {H : Hp} {k : Key} {d : D} {v : V} {ds : List (Key × D)} {vs : List (Key × V)} (h : KR K r H ds vs) (hd : VR K r H d v) : KR K r H (putKD ds k d) (putK vs k v) := by
  unfold putKD putK
  rw [h.any k]
  split
  · exact KR.map hd h
  · exact KR.append h ⟨v, [], rfl, hd, rfl⟩
theorem KR.length {K : PySem.W.Frag} {r : List Addr} {H : Hp} : ∀ {ds : List (Key × D)} {vs : List (Key × V)}, KR K r H ds vs → ds.length = vs.length
  | [], vs, h => by have h : vs = [] := h; subst h; rfl
  | p :: ds, vs, h => by
    obtain ⟨w, ws, rfl, h1, h2⟩ := h
    rw [List.length_cons, List.length_cons, KR.length h2]
def itemD (d e : D) (S : Store) : Option D := match d, e with
  | .tup xs, .int i => L2.atI xs i
  | .kl xs, .int i => L2.atI xs i
  | .str z, .int i => if z.length ≤ sizeLine then (L2.atI z.cps.toList i).map fun c => .str ⟨#[c]⟩ else none
  | .ref n, .int i => match S[n]? with
    | some (.lst xs) => L2.atI xs i
    | _ => none
  | _, _ => none
theorem itemD_ok {r : List Addr} {H : Hp} {S : Store} {d e z : D} {x y : V} (ro : ROk X.K r H S) (k1 : VR X.K r H d x) (k2 : VR X.K r H e y) (q : itemD d e S = some z) {Q : VK} (hq : ∀ v, VR X.K r H z v → Q v H) : rIx X.K x y H Q := by
  unfold itemD at q
  split at q
  · obtain ⟨p, vs, rfl, hs, hv⟩ := k1
    obtain ⟨v, h1, h2⟩ := hv.atI q
    exact .inr (.inl ⟨p, vs, _, v, rfl, k2, (sqT_of hs), h1, hq v h2⟩)
  · obtain ⟨p, vs, rfl, hs, hv⟩ := k1
    obtain ⟨v, h1, h2⟩ := hv.atI q
    exact .inl ⟨p, vs, _, v, rfl, k2, hs.l, h1, hq v h2⟩
  · split at q
    · rename_i hz
      obtain ⟨c, h1, rfl⟩ := Option.map_eq_some_iff.mp q
      exact .inr (.inr ⟨_, _, c, k1, k2, hz, h1, hq _ rfl⟩)
    · cases q
  · rename_i n i
    obtain ⟨p, hp, rfl⟩ := k1
    cases q' : S[n]? with
    | none => rw [q'] at q; cases q
    | some o =>
      rw [q'] at q
      have ho := ro.ob n o p q' hp
      cases o with
      | lst xs =>
        obtain ⟨vs, h1, hv⟩ := ho
        obtain ⟨v, h2, h3⟩ := hv.atI q
        exact .inl ⟨p, vs, i, v, rfl, k2, .of h1, h2, hq v h3⟩
      | _ => cases q
  · cases q
/-- d[k] of a dict with int and text keys -/
def dctD (d : D) (S : Store) : Option (List (Key × D)) := match d with
  | .ref n => match S[n]? with
    | some (.dct kvs) => some kvs
    | _ => none
  | _ => none
theorem dctD_ok {r : List Addr} {H : Hp} {S : Store} {d : D} {x : V} {kvs : List (Key × D)} (ro : ROk X.K r H S) (h : VR X.K r H d x) (e : dctD d S = some kvs) : ∃ n p vs, d = .ref n ∧ r[n]? = some p ∧ x = .ref p ∧ H p = some (.dK vs) ∧ S[n]? = some (.dct kvs) ∧ KR X.K r H kvs vs := by
  cases d with
  | ref n =>
    obtain ⟨p, hp, rfl⟩ := h
    unfold dctD at e
    dsimp only at e
    cases q : S[n]? with
    | none => rw [q] at e; cases e
    | some o =>
      rw [q] at e
      have ho := ro.ob n o p q hp
      cases o with
      | dct xs => obtain ⟨vs, h1, h2⟩ := ho; cases Option.some.inj e; exact ⟨n, p, vs, rfl, hp, rfl, h1, q, h2⟩
      | _ => cases e
  | _ => cases e
/-! ### a[lo:hi] -/
abbrev MO := En → Store → Res (Option Int)
def RO : List Addr → Hp → Option Int → Option Int → Prop := fun _ _ a b => b = a
def wP (X : Cx) (e : Option Expr) : TO := fun σ H Q => ∀ (pins : List (Addr × Obj)) (s : Shared), Inv X pins σ H s → wpAny (model X.prog X.w) X.A (evalPart e X.env) (fun u s' => ∃ o H', Inv X pins σ H' s' ∧ IsPart u o ∧ Q o H') X.xe s
theorem po_wP (X : Cx) (e : Option Expr) : PO X e (wP X e) := ⟨fun pins s _ _ _ I h => h pins s I⟩
structure SndP (X : Cx) (e : Option Expr) (m : MO) : Prop where
  run : ∀ (W : WX), Takes X W → ∀ (en : En) (σ : L2.St) (r : List Addr) (H : Hp) (S : Store) (Q : Option Int → Hp → Prop), ER X.K r H en σ → ROk X.K r H S → Dn X.K r H RO (m en S) Q (WE W σ) → wP X e σ H Q
def mNone : MO := fun _ S => .ok none S
def mSome (m : ME) : MO := fun en S => (m en S).bind fun d S1 => match intD d with
  | some i => .ok (some i) S1
  | none => .bad
theorem p_none : SndP X none mNone := by
  refine ⟨?_⟩
  intro W tk en σ r H S Q er ro dn pins s I
  exact po_none.run pins s σ H Q I (Dn.ok_here (R := RO) (a := none) (v := none) dn ro rfl)
theorem p_some (h : SndE X a ma) : SndP X (some a) (mSome ma) := by
  refine ⟨?_⟩
  intro W tk en σ r H S Q er ro dn pins s I
  refine (po_some (pe_wE X a)).run pins s σ H Q I ?_
  refine h.run W tk en σ r H S _ er ro (Dn.imp (Dn.bind dn) fun x H1 ⟨d, S1, r1, e1, s1, o1, k1, d1⟩ => ?_)
  cases q : intD d with
  | none => rw [q] at d1; exact d1.elim
  | some i => rw [q] at d1; exact ⟨i, intD_ok q k1, Dn.ok_here (R := RO) (a := some i) (v := some i) d1 o1 rfl⟩
def cutD (xs : List D) (lo hi : Option Int) : List D := (xs.drop (HT.sIx xs.length 0 lo)).take (HT.sIx xs.length xs.length hi - HT.sIx xs.length 0 lo)
theorem VRs.cut {K : PySem.W.Frag} {r : List Addr} {H : Hp} {ds : List D} {vs : List V} (h : VRs K r H ds vs) (lo hi : Option Int) : VRs K r H (cutD ds lo hi) (cutV vs lo hi) := by
  unfold cutD cutV
  rw [← h.length]
  exact (h.drop _).take _
def cutP (d : D) (lo hi : Option Int) (S : Store) : Option (D × Store) := match d with
  | .tup xs => some (.tup (cutD xs lo hi), S)
  | .kl xs => some (.ref S.length, S ++ [.lst (cutD xs lo hi)])
  | .str z => if z.length ≤ sizeLine then some (.str (cutS z lo hi), S) else none
  | .ref n => match S[n]? with
    | some (.lst xs) => some (.ref S.length, S ++ [.lst (cutD xs lo hi)])
    | _ => none
  | _ => none
def mSl (ma : ME) (ml mh : MO) : ME := fun en S => (ma en S).bind fun d S1 => (ml en S1).bind fun lo S2 => (mh en S2).bind fun hi S3 => ofOpt (cutP d lo hi S3)
theorem e_slice {lo hi : Option Expr} {ml mh : MO} {p2 : Pos} (ha : SndE X a ma) (hl : SndP X lo ml) (hh : SndP X hi mh) : SndE X (.Subscript a (.Slice lo hi none p2) pos) (mSl ma ml mh) := by
  refine ⟨?_⟩
  intro W tk en σ r H S Q er ro dn
  refine wE_of (pe_slice ((sl_tupA.or sl_list).or sl_str) (pe_wE X a) (po_wP X lo) (po_wP X hi)) ?_
  refine ha.run W tk en σ r H S _ er ro (Dn.imp (Dn.bind dn) fun x H1 ⟨d, S1, r1, e1, s1, o1, k1, d1⟩ => ?_)
  refine hl.run W tk en σ r1 H1 S1 _ (er.mono s1) o1 (Dn.imp (Dn.bind d1) fun l H2 ⟨l', S2, r2, e2, s2, o2, k2, d2⟩ => ?_)
  refine hh.run W tk en σ r2 H2 S2 _ ((er.mono s1).mono s2) o2 (Dn.imp (Dn.bind d2) fun u H3 ⟨u', S3, r3, e3, s3, o3, k3, d3⟩ => ?_)
  have k2 : l = l' := k2
  have k3 : u = u' := k3
  subst k2; subst k3
  obtain ⟨z, S', g1, ed⟩ := dn_ofOpt d3
  have k1 := (k1.mono s2).mono s3
  cases d with
  | tup xs =>
    cases g1
    obtain ⟨p, vs, rfl, hs, hv⟩ := k1
    refine .inl (.inl ⟨p, vs, rfl, (sqT_of hs), fun e => ed.flat o3 ⟨p, vs, rfl, hs, ?_⟩, fun _ q hq => ed.tupN o3 (hv.cut l u) hq⟩)
    have hl := hv.length
    unfold cutD
    rw [hl, e.1, e.2, Nat.sub_zero, List.drop_zero, List.take_of_length_le (by omega)]
    exact hv
  | str z =>
    unfold cutP at g1
    dsimp only at g1
    split at g1
    · rename_i hz
      cases g1
      exact .inr ⟨_, k1, hz, ed.flat o3 rfl⟩
    · cases g1
  | kl xs =>
    cases g1
    obtain ⟨p, vs, rfl, hs, hv⟩ := k1
    exact .inl (.inr ⟨p, vs, rfl, hs.l, fun q hq => ed.lstN o3 (hv.cut l u) hq⟩)
  | ref n =>
    obtain ⟨p, hp, rfl⟩ := k1
    unfold cutP at g1
    dsimp only at g1
    cases q' : S3[n]? with
    | none => rw [q'] at g1; cases g1
    | some o =>
      rw [q'] at g1
      have ho := o3.ob n o p q' hp
      cases o with
      | lst xs =>
        cases g1
        obtain ⟨vs, h1, hv⟩ := ho
        exact .inl (.inr ⟨p, vs, rfl, .of h1, fun q hq => ed.lstN o3 (hv.cut l u) hq⟩)
      | _ => cases g1
  | _ => cases g1
end
end Q

namespace Q
open PySem PySem.Spec PyProof.Rows L2
variable [Gh : Ghost]
/-! ### statements -/
abbrev MS := En → Store → SRes
def DnS (K : PySem.W.Frag) (r : List Addr) (H : Hp) (m : SRes) (D : Ends) (W : WX) : Prop := match m with
  | .nx e S' => ∀ (r' : List Addr) (H' : Hp) (σ' : L2.St), Stp r H r' H' → ROk K r' H' S' → ER K r' H' e σ' → D.nx σ' H'
  | .rt d S' => ∀ (r' : List Addr) (H' : Hp) (v : V), Stp r H r' H' → ROk K r' H' S' → VR K r' H' d v → D.rt v H'
  | .bk e S' => ∀ (r' : List Addr) (H' : Hp) (σ' : L2.St), Stp r H r' H' → ROk K r' H' S' → ER K r' H' e σ' → D.bk σ' H'
  | .ct e S' => ∀ (r' : List Addr) (H' : Hp) (σ' : L2.St), Stp r H r' H' → ROk K r' H' S' → ER K r' H' e σ' → D.ct σ' H'
  | .err C n e S' => ∀ (r' : List Addr) (H' : Hp) (σ' : L2.St) (x : Option Addr), Stp r H r' H' → ROk K r' H' S' → ER K r' H' e σ' → NR r' n x → W (.ref C) x σ' H'
  | .bad => False
structure SndS (X : Cx) (st : Stmt) (m : MS) : Prop where
  run : ∀ (W : WX), Takes X W → ∀ (en : En) (σ : L2.St) (r : List Addr) (H : Hp) (S : Store) (D : Ends), ER X.K r H en σ → ROk X.K r H S → DnS X.K r H (m en S) D W → wS X st D σ H
structure SndSs (X : Cx) (st : List Stmt) (m : MS) : Prop where
  run : ∀ (W : WX), Takes X W → ∀ (en : En) (σ : L2.St) (r : List Addr) (H : Hp) (S : Store) (D : Ends), ER X.K r H en σ → ROk X.K r H S → DnS X.K r H (m en S) D W → wSs X st D σ H
section
variable {K : PySem.W.Frag} {r r1 : List Addr} {H H1 : Hp} {α β : Type} {R : List Addr → Hp → α → β → Prop} {m : Res α} {f : α → Store → SRes} {D : Ends} {W : WX} {en : En} {σ : L2.St}
theorem DnS.mono {m : SRes} (s : Stp r H r1 H1) (h : DnS K r H m D W) : DnS K r1 H1 m D W := by
  cases m with
  | nx e S => exact fun r' H' v s' o k => h r' H' v (s.trans s') o k
  | rt e S => exact fun r' H' v s' o k => h r' H' v (s.trans s') o k
  | bk e S => exact fun r' H' v s' o k => h r' H' v (s.trans s') o k
  | ct e S => exact fun r' H' v s' o k => h r' H' v (s.trans s') o k
  | err C n e S => exact fun r' H' σ' x s' o k q => h r' H' σ' x (s.trans s') o k q
  | bad => exact h
/-- an expression ahead of the rest of a statement -/
theorem DnS.stm (er : ER K r H en σ) (h : DnS K r H (m.stm en f) D W) : Dn K r H R m (fun v H1 => ∃ a S1 r1, m = .ok a S1 ∧ Stp r H r1 H1 ∧ ROk K r1 H1 S1 ∧ R r1 H1 a v ∧ ER K r1 H1 en σ ∧ DnS K r1 H1 (f a S1) D W) (WE W σ) := by
  cases m with
  | ok a S => exact fun r' H' v s o k => ⟨a, S, r', rfl, s, o, k, er.mono s, DnS.mono s h⟩
  | err C n S => exact fun r' H' x s' o k => h r' H' σ x s' o (er.mono s') k
  | bad => exact h
theorem DnS.nx_here {e : En} {S : Store} (h : DnS K r H (.nx e S) D W) (o : ROk K r H S) (er : ER K r H e σ) : D.nx σ H := h r H σ (Stp.refl _ _) o er
theorem DnS.rt_here {d : Q.D} {v : V} {S : Store} (h : DnS K r H (.rt d S) D W) (o : ROk K r H S) (k : VR K r H d v) : D.rt v H := h r H v (Stp.refl _ _) o k
end
theorem wS_of {X : Cx} {e : Stmt} {t : TS} (h : PS X e t) {σ : L2.St} {H : Hp} {D : Ends} (q : t D σ H) : wS X e D σ H := fun pins s I => h.run pins s σ H D I q
theorem wSs_of {X : Cx} {e : List Stmt} {t : TS} (h : PSs X e t) {σ : L2.St} {H : Hp} {D : Ends} (q : t D σ H) : wSs X e D σ H := fun pins s I => h.run pins s σ H D I q
def SRes.seq (m : SRes) (f : MS) : SRes := match m with
  | .nx e S => f e S
  | q => q
section
variable {X : Cx} {k : Nat} {st : Stmt} {rest : List Stmt} {ms mr mu : MS} {a b c : Expr} {ma mb : ME} {mt : MT} {pos : Pos}
def mSkip : MS := fun en S => .nx en S
def mSeq (ms mr : MS) : MS := fun en S => (ms en S).seq mr
theorem s_nil : SndSs X [] mSkip := .mk fun W tk en σ r H S D er ro dn => wSs_of pss_nil (dn.nx_here ro er)
theorem s_one (h : SndS X st ms) : SndSs X [st] ms := .mk fun W tk en σ r H S D er ro dn => wSs_of (pss_one (ps_wS X st)) (h.run W tk en σ r H S D er ro dn)
theorem s_cons (h : SndS X st ms) (hr : SndSs X rest mr) : SndSs X (st :: rest) (mSeq ms mr) := by
  refine ⟨?_⟩
  intro W tk en σ r H S D er ro dn
  refine wSs_of (pss_cons (ps_wS X st) (pss_wSs X rest)) ?_
  refine h.run W tk en σ r H S { D with nx := wSs X rest D } er ro ?_
  have dn : DnS X.K r H ((ms en S).seq mr) D W := dn
  cases q : ms en S with
  | nx e S1 =>
    rw [q] at dn
    exact fun r' H' σ' s o e' => hr.run W tk e σ' r' H' S1 D e' o (DnS.mono s dn)
  | rt _ _ => rw [q] at dn; exact dn
  | bk _ _ => rw [q] at dn; exact dn
  | ct _ _ => rw [q] at dn; exact dn
  | err _ _ _ _ => rw [q] at dn; exact dn
  | bad => rw [q] at dn; exact dn
def mExpr (m : ME) : MS := fun en S => (m en S).stm en fun _ S1 => .nx en S1
theorem s_expr (ha : SndE X a ma) (hs : swapsWith a none pos.line X.env = pure false := by rfl) : SndS X (.Expr a pos) (mExpr ma) := by
  refine ⟨?_⟩
  intro W tk en σ r H S D er ro dn
  refine wS_of (ps_expr (pe_wE X a) hs) ?_
  exact ha.run W tk en σ r H S _ er ro (Dn.imp (DnS.stm (R := VR X.K) er dn) fun x H1 ⟨d, S1, r1, e1, s1, o1, k1, er1, d1⟩ => d1.nx_here o1 er1)
def mRet (m : ME) : MS := fun en S => (m en S).stm en fun d S1 => .rt d S1
theorem s_ret (ha : SndE X a ma) : SndS X (.Return (some a) pos) (mRet ma) := by
  refine ⟨?_⟩
  intro W tk en σ r H S D er ro dn
  refine wS_of (ps_ret (pe_wE X a)) ?_
  exact ha.run W tk en σ r H S _ er ro (Dn.imp (DnS.stm (R := VR X.K) er dn) fun x H1 ⟨d, S1, r1, e1, s1, o1, k1, er1, d1⟩ => d1.rt_here o1 k1)
def mIfS (mt : MT) (ms mu : MS) : MS := fun en S => (mt en S).stm en fun b S1 => match b with
  | true => ms en S1
  | false => mu en S1
theorem s_if {as bs : List Stmt} (hc : SndT X c mt) (ha : SndSs X as ms) (hb : SndSs X bs mu) : SndS X (.If c as bs pos) (mIfS mt ms mu) := by
  refine ⟨?_⟩
  intro W tk en σ r H S D er ro dn
  refine wS_of (ps_if (pt_wT X c) (pss_wSs X as) (pss_wSs X bs)) ?_
  refine hc.run W tk en σ r H S _ er ro (Dn.imp (DnS.stm (R := RT) er dn) fun x H1 ⟨d, S1, r1, e1, s1, o1, k1, er1, d1⟩ => ?_)
  have k1 : x = d := k1
  subst k1
  cases x with
  | true => exact ha.run W tk en σ r1 H1 S1 D er1 o1 d1
  | false => exact hb.run W tk en σ r1 H1 S1 D er1 o1 d1
/-! ### targets -/
abbrev Pat := D → Store → Option (List (Nat × D))
def setsE (e : En) : List (Nat × D) → En
  | [] => e
  | (i, d) :: l => setsE (e.set i (some d)) l
def setsV (σ : L2.St) : List (Nat × V) → L2.St
  | [] => σ
  | (i, d) :: l => setsV (σ.set i (some d)) l
def PR (K : PySem.W.Frag) (r : List Addr) (H : Hp) : List (Nat × D) → List (Nat × V) → Prop
  | [], vs => vs = []
  | p :: ds, vs => ∃ v ws, vs = (p.1, v) :: ws ∧ VR K r H p.2 v ∧ PR K r H ds ws
theorem PR.sets {K : PySem.W.Frag} {r : List Addr} {H : Hp} : ∀ {ps : List (Nat × D)} {vs : List (Nat × V)} {e : En} {σ : L2.St}, PR K r H ps vs → ER K r H e σ → ER K r H (setsE e ps) (setsV σ vs)
  | [], vs, e, σ, h, er => by have h : vs = [] := h; subst h; exact er
  | p :: ps, vs, e, σ, h, er => by
    obtain ⟨v, ws, rfl, h1, h2⟩ := h
    have q := PR.sets h2 (er.set (i := p.1) h1)
    exact q
theorem PR.append {K : PySem.W.Frag} {r : List Addr} {H : Hp} : ∀ {ps qs : List (Nat × D)} {vs ws : List (Nat × V)}, PR K r H ps vs → PR K r H qs ws → PR K r H (ps ++ qs) (vs ++ ws)
  | [], _, vs, _, h, h' => by have h : vs = [] := h; subst h; exact h'
  | p :: ps, _, vs, _, h, h' => by
    obtain ⟨v, ws, rfl, h1, h2⟩ := h
    exact ⟨v, _, rfl, h1, PR.append h2 h'⟩
theorem setsV_append (σ : L2.St) : ∀ (ps qs : List (Nat × V)), setsV σ (ps ++ qs) = setsV (setsV σ ps) qs
  | [], _ => rfl
  | (i, d) :: l, qs => setsV_append (σ.set i (some d)) l qs
def wG (X : Cx) (tg : Expr) : TG := fun v σ H Q => ∀ (pins : List (Addr × Obj)) (s : Shared) (u : Value), Inv X pins σ H s → RelV v u → wpAny (model X.prog X.w) X.A (assign tg X.env u) (fun _ s' => ∃ σ' H', Inv X pins σ' H' s' ∧ Q σ' H') X.xe s
theorem pg_wG (X : Cx) (tg : Expr) : PG X tg (wG X tg) := ⟨fun pins s _ _ _ u _ I rv h => h pins s u I rv⟩
def wGs (X : Cx) (ts : List Expr) : TGs := fun vs σ H Q => ∀ (pins : List (Addr × Obj)) (s : Shared) (us : List Value), Inv X pins σ H s → Vals vs us → wpAny (model X.prog X.w) X.A (assignInOrder ((assignEach ts X.env).map (·.2)) us) (fun _ s' => ∃ σ' H', Inv X pins σ' H' s' ∧ Q σ' H') X.xe s
theorem pgs_wGs (X : Cx) (ts : List Expr) : PGs X ts (wGs X ts) := ⟨fun pins s _ _ _ us _ I rv h => h pins s us I rv⟩
/-- a target of names and tuples of names; own: the slots that it may store -/
structure SndG (X : Cx) (tg : Expr) (own : List Nat) (g : Pat) : Prop where
  run : ∀ (d : D) (v : V) (ps : List (Nat × D)) (σ : L2.St) (r : List Addr) (H : Hp) (S : Store) (Q : L2.St → Hp → Prop), g d S = some ps → VR X.K r H d v → ROk X.K r H S →
  (∀ vs, PR X.K r H ps vs → (∀ p ∈ vs, p.1 ∈ own) → Q (setsV σ vs) H) → wG X tg v σ H Q
abbrev Pats := List D → Store → Option (List (Nat × D))
structure SndGs (X : Cx) (ts : List Expr) (own : List Nat) (g : Pats) : Prop where
  run : ∀ (ds : List D) (vs : List V) (ps : List (Nat × D)) (σ : L2.St) (r : List Addr) (H : Hp) (S : Store) (Q : L2.St → Hp → Prop), g ds S = some ps → VRs X.K r H ds vs → ROk X.K r H S →
  (∀ vs, PR X.K r H ps vs → (∀ p ∈ vs, p.1 ∈ own) → Q (setsV σ vs) H) → wGs X ts vs σ H Q
def pName (i : Nat) : Pat := fun d _ => some [(i, d)]
theorem g_name {i : Nat} {x : Str} {own : List Nat} (hN : X.N.Nodup) (hi : X.N[i]? = some x) (hx : Loc X.env.scope x) (ho : i ∈ own := by simp) (hf : X.fn x = true ∨ X.env.scope.names.lookup x = some .local := by first | exact .inl rfl | exact .inr rfl | assumption) : SndG X (.Name x pos) own (pName i) := by
  refine ⟨?_⟩
  intro d v ps σ r H S Q q k ro hQ pins s u I rv
  cases q
  exact (pg_name hN hi hx hf).run pins s σ H v u Q I rv (hQ [(i, v)] ⟨v, [], rfl, k, rfl⟩ (fun p hp => by rw [List.mem_singleton.mp hp]; exact ho))
def pNil : Pats := fun ds _ => match ds with
  | [] => some []
  | _ => none
def pCons (g : Pat) (gs : Pats) : Pats := fun ds S => match ds with
  | [] => none
  | d :: ds => (g d S).bind fun ps => (gs ds S).map fun qs => ps ++ qs
theorem gs_nil {own : List Nat} : SndGs X [] own pNil := by
  refine ⟨?_⟩
  intro ds vs ps σ r H S Q q k ro hQ pins s us I rv
  cases ds with
  | nil =>
    cases q
    have k : vs = [] := k
    subst k
    exact pgs_nil.run pins s σ H [] us Q I rv ⟨rfl, hQ [] rfl (fun _ h => nomatch h)⟩
  | cons _ _ => cases q
theorem gs_cons {e : Expr} {es : List Expr} {own : List Nat} {g : Pat} {gs : Pats} (h1 : SndG X e own g) (h2 : SndGs X es own gs)
    (hs : (assignEach (e :: es) X.env).map (·.2) = assign e X.env :: (assignEach es X.env).map (·.2) := by rfl) : SndGs X (e :: es) own (pCons g gs) := by
  refine ⟨?_⟩
  intro ds vs ps σ r H S Q q k ro hQ pins s us I rv
  cases ds with
  | nil => cases q
  | cons d ds =>
    obtain ⟨v, ws, rfl, k1, k2⟩ := k
    obtain ⟨p1, e1, q⟩ := Option.bind_eq_some_iff.mp q
    obtain ⟨p2, e2, q⟩ := Option.map_eq_some_iff.mp q
    subst q
    refine (pgs_cons (pg_wG X e) (pgs_wGs X es) hs).run pins s σ H (v :: ws) us Q I rv ⟨v, ws, rfl, ?_⟩
    refine h1.run d v p1 σ r H S _ e1 k1 ro fun w1 r1 o1 => ?_
    refine h2.run ds ws p2 _ r H S _ e2 k2 ro fun w2 r2 o2 => ?_
    rw [← setsV_append]
    exact hQ _ (r1.append r2) fun p hp => (List.mem_append.mp hp).elim (o1 p) (o2 p)
def pTup (n : Nat) (gs : Pats) : Pat := fun d S => match d with
  | .tup xs => if xs.length = n then gs xs S else none
  | _ => none
theorem g_tup {es : List Expr} {kk n : Nat} {own : List Nat} {gs : Pats} (hc : X.calm = true) (h : SndGs X es own gs) (hn : (assignEach es X.env).length = n := by rfl) (hst : (assignEach es X.env).findIdx? (·.1) = none := by rfl) :
    SndG X (.Tuple es kk pos) own (pTup n gs) := by
  refine ⟨?_⟩
  intro d v ps σ r H S Q q k ro hQ pins s u I rv
  cases d with
  | tup xs =>
    obtain ⟨a, vs, rfl, ha, hv⟩ := k
    unfold pTup at q
    dsimp only at q
    split at q
    · rename_i hl
      refine (pg_tup hc (pgs_wGs X es) hn hst).run pins s σ H _ u Q I rv ⟨a, vs, rfl, (sqT_of ha), by rw [← hv.length]; exact hl, ?_⟩
      exact h.run xs vs ps σ r H S Q q hv ro hQ
    · cases q
  | _ => cases q
def mAsgP (o : Option (List (Nat × D))) (en : En) (S : Store) : SRes := match o with
  | some ps => .nx (setsE en ps) S
  | none => .bad
/-- target = value -/
def mAsg (g : Pat) (m : ME) : MS := fun en S => (m en S).stm en fun d S1 => mAsgP (g d S1) en S1
def mSet (i : Nat) (m : ME) : MS := fun en S => (m en S).stm en fun d S1 => .nx (en.set i (some d)) S1
theorem s_set {i : Nat} {x : Str} {pos' : Pos} (hN : X.N.Nodup) (hi : X.N[i]? = some x) (hx : Loc X.env.scope x) (ha : SndE X a ma) (hs : swapsWith a (some (.Name x pos')) pos.line X.env = pure false := by rfl) (hf : X.fn x = true ∨ X.env.scope.names.lookup x = some .local := by first | exact .inl rfl | exact .inr rfl | assumption) :
    SndS X (.Assign [.Name x pos'] a pos) (mSet i ma) := by
  refine ⟨?_⟩
  intro W tk en σ r H S D er ro dn
  refine wS_of (ps_set hN hi hx (pe_wE X a) hs hf) ?_
  exact ha.run W tk en σ r H S _ er ro (Dn.imp (DnS.stm (R := VR X.K) er dn) fun x H1 ⟨d, S1, r1, e1, s1, o1, k1, er1, d1⟩ => DnS.nx_here (e := en.set i (some d)) d1 o1 (er1.set k1))
/-- a, b = x, y with two plain local names -/
def mPar (i j : Nat) (m : MA) : MS := fun en S => (m en S).stm en fun ds S1 => match ds with
  | [d, e] => .nx ((en.set i (some d)).set j (some e)) S1
  | _ => .bad
theorem s_par {i j : Nat} {x y : Str} {m : MA} {px py pt : Pos} {kt k2 pt2} (hc : X.calm = true) (hN : X.N.Nodup) (hi : X.N[i]? = some x) (hj : X.N[j]? = some y) (hij : i ≠ j)
    (hx : X.env.scope.names.lookup x = some .local) (hy : X.env.scope.names.lookup y = some .local) (ha : SndA X [a, b] m)
    (hw : swappedStores [.Tuple [.Name x px, .Name y py] kt pt] (.Tuple [a, b] k2 pt2) X.env = pure (some [x, y]) := by rfl) (hs : swapsWithSole [.Tuple [.Name x px, .Name y py] kt pt] (.Tuple [a, b] k2 pt2) pos.line X.env = pure false := by rfl) : SndS X (.Assign [.Tuple [.Name x px, .Name y py] kt pt] (.Tuple [a, b] k2 pt2) pos) (mPar i j m) := by
  refine ⟨?_⟩
  intro W tk en σ r H S D er ro dn
  refine wS_of (ps_par hc hN hi hj hij hx hy (pa_wA X _) hw hs) ?_
  refine ha.run W tk en σ r H S _ er ro (Dn.imp (DnS.stm (R := VRs X.K) er dn) fun xs H1 ⟨ds, S1, r1, e1, s1, o1, k1, er1, d1⟩ => ?_)
  match ds, d1, k1 with
  | [d, e], d1, k1 =>
    obtain ⟨v, w, rfl, h1, h2⟩ := k1.two_inv
    exact ⟨v, w, rfl, DnS.nx_here (e := (en.set i (some d)).set j (some e)) d1 o1 ((er1.set h1).set h2)⟩
  | [], d1, _ => exact d1.elim
  | [_], d1, _ => exact d1.elim
  | _ :: _ :: _ :: _, d1, _ => exact d1.elim
/-! ### while -/
/-! ### what is walked -/
inductive MI where
  | lst (n : Nat) | vals (xs : List D) | rng (lo : Int) (n : Nat) | zip2 (a b : MI) | zip3 (a b c : MI) | enu (c : Int) (a : MI)
/-- the item at the turn i: bad, the end, an item -/
def nextM (mi : MI) (i : Nat) (S : Store) : Option (Option D) := match mi with
  | .lst n => match S[n]? with
    | some (.lst xs) => some xs[i]?
    | _ => none
  | .vals xs => some xs[i]?
  | .rng lo n => some (if i < n then some (.int (lo + i)) else none)
  | .zip2 a b => (nextM a i S).bind fun od => match od with
    | none => some none
    | some d => (nextM b i S).map fun oe => oe.map fun e => .tup [d, e]
  | .zip3 a b c => (nextM a i S).bind fun od => match od with
    | none => some none
    | some d => (nextM b i S).bind fun oe => match oe with
      | none => some none
      | some e => (nextM c i S).map fun og => og.map fun g => .tup [d, e, g]
  | .enu c a => (nextM a i S).map fun od => od.map fun d => .tup [.int (c + (i : Nat)), d]
/-- the iterator J of HandS is told by mi -/
def WkR (K : PySem.W.Frag) (r : List Addr) (H : Hp) (mi : MI) (J : It) : Prop := ∀ (r' : List Addr) (H' : Hp) (S : Store) (i : Nat), Stp r H r' H' → ROk K r' H' S →
  (nextM mi i S = some none → J.stop i H') ∧ (∀ d, nextM mi i S = some (some d) → J.go i H' ∧ ∀ x H2, J.yld i H' x H2 → Stp r' H' r' H2 ∧ ROk K r' H2 S ∧ VR K r' H2 d x)
theorem WkR.mono {K : PySem.W.Frag} {r r1 : List Addr} {H H1 : Hp} {mi : MI} {J : It} (s : Stp r H r1 H1) (h : WkR K r H mi J) : WkR K r1 H1 mi J := fun r' H' S i s' o => h r' H' S i (s.trans s') o
def wI (X : Cx) (tg e : Expr) : TI := fun σ H R => ∀ (pins : List (Addr × Obj)) (s : Shared), Inv X pins σ H s → wpAny (model X.prog X.w) X.A (eval e X.env) (fun v s1 => wpAny (model X.prog X.w) X.A (pyIter v) (PIE X pins σ tg R) X.xe s1) X.xe s
theorem pi_wI (X : Cx) (tg e : Expr) : PI X tg e (wI X tg e) := ⟨fun pins s _ _ _ I h => h pins s I⟩
abbrev MIt := En → Store → Res MI
structure SndI (X : Cx) (tg e : Expr) (m : MIt) : Prop where
  run : ∀ (W : WX), Takes X W → ∀ (en : En) (σ : L2.St) (r : List Addr) (H : Hp) (S : Store) (R : It → Hp → Prop), ER X.K r H en σ → ROk X.K r H S → Dn X.K r H (WkR X.K) (m en S) R (WE W σ) → wI X tg e σ H R
theorem wI_of {X : Cx} {tg e : Expr} {t : TI} (h : PI X tg e t) {σ : L2.St} {H : Hp} {R : It → Hp → Prop} (q : t σ H R) : wI X tg e σ H R := fun pins s I => h.run pins s σ H R I q
end
end Q

namespace Q
open PySem PySem.Spec PyProof.Rows L2
variable [Gh : Ghost]
section
variable {X : Cx} {k : Nat} {st : Stmt} {rest : List Stmt} {ms mr mu : MS} {a b c e : Expr} {ma mb me : ME} {mt : MT} {pos : Pos} {tg iter : Expr} {mi : MIt} {g : Pat} {own : List Nat}
/-! ### simple iterables -/
def itD (d : D) (S : Store) : Option MI := match d with
  | .tup xs => some (.vals xs)
  | .kl xs => some (.vals xs)
  | .ref n => match S[n]? with
    | some (.lst _) => some (.lst n)
    | _ => none
  | _ => none
/-- for .. in a list or a tuple -/
def iSeq (m : ME) : MIt := fun en S => (m en S).bind fun d S1 => match itD d S1 with
  | some i => .ok i S1
  | none => .bad
theorem wk_tup {r : List Addr} {H : Hp} {p : Addr} {xs : List D} {vs : List V} (hs : SqT X.K H p vs) (hv : VRs X.K r H xs vs) : WkR X.K r H (.vals xs) (Itt X.K p) := by
  intro r' H' S i s o
  have hs := s.sqT hs
  have hv := hv.mono s
  refine ⟨fun e => ⟨vs, hs, ?_⟩, fun d e => ?_⟩
  · have e : xs[i]? = none := Option.some.inj e
    rw [← hv.length]
    exact List.getElem?_eq_none_iff.mp e
  · have e : xs[i]? = some d := Option.some.inj e
    obtain ⟨v, h1, h2⟩ := hv.get e
    refine ⟨⟨vs, v, hs, h1⟩, fun x H2 y => ?_⟩
    obtain ⟨rfl, h3⟩ := y
    have := h3 vs hs
    rw [h1] at this
    cases this
    exact ⟨Stp.refl _ _, o, h2⟩
theorem wk_kl {r : List Addr} {H : Hp} {p : Addr} {xs : List D} {vs : List V} (hs : SqF X.K H p vs) (hv : VRs X.K r H xs vs) : WkR X.K r H (.vals xs) (Itl X.K p) := by
  intro r' H' S i s o
  have hs := (s.sqF hs).l
  have hv := hv.mono s
  refine ⟨fun e => ⟨vs, hs, ?_⟩, fun d e => ?_⟩
  · have e : xs[i]? = none := Option.some.inj e
    rw [← hv.length]
    exact List.getElem?_eq_none_iff.mp e
  · have e : xs[i]? = some d := Option.some.inj e
    obtain ⟨v, h1, h2⟩ := hv.get e
    refine ⟨⟨vs, v, hs, h1⟩, fun x H2 y => ?_⟩
    obtain ⟨rfl, h3⟩ := y
    have := h3 vs hs
    rw [h1] at this
    cases this
    exact ⟨Stp.refl _ _, o, h2⟩
theorem wk_lst {r : List Addr} {H : Hp} {p : Addr} {n : Nat} (hp : r[n]? = some p) : WkR X.K r H (.lst n) (Itl X.K p) := by
  intro r' H' S i s o
  have hp := s.pre _ _ hp
  have key : ∀ (xs : List D) (vs : List V), SqL X.K H' p vs → VRs X.K r' H' xs vs → nextM (.lst n) i S = some xs[i]? → (nextM (.lst n) i S = some none → (Itl X.K p).stop i H') ∧ (∀ d, nextM (.lst n) i S = some (some d) → (Itl X.K p).go i H' ∧ ∀ x H2, (Itl X.K p).yld i H' x H2 → Stp r' H' r' H2 ∧ ROk X.K r' H2 S ∧ VR X.K r' H2 d x) := by
    intro xs vs hs hv en
    refine ⟨fun e => ⟨vs, hs, ?_⟩, fun d e => ?_⟩
    · have e : xs[i]? = none := Option.some.inj (en.symm.trans e)
      rw [← hv.length]
      exact List.getElem?_eq_none_iff.mp e
    · have e : xs[i]? = some d := Option.some.inj (en.symm.trans e)
      obtain ⟨v, h1, h2⟩ := hv.get e
      refine ⟨⟨vs, v, hs, h1⟩, fun x H2 y => ?_⟩
      obtain ⟨rfl, h3⟩ := y
      have := h3 vs hs
      rw [h1] at this
      cases this
      exact ⟨Stp.refl _ _, o, h2⟩
  cases q : S[n]? with
  | none =>
    have e : nextM (.lst n) i S = none := by unfold nextM; rw [q]
    rw [e]
    exact ⟨fun z => (nomatch z), fun _ z => (nomatch z)⟩
  | some ob =>
    have ho := o.ob n ob p q hp
    cases ob with
    | lst xs => obtain ⟨vs, h1, h2⟩ := ho; exact key xs vs (.of h1) h2 (by unfold nextM; rw [q])
    | _ =>
      have e : nextM (.lst n) i S = none := by unfold nextM; rw [q]
      rw [e]
      exact ⟨fun z => (nomatch z), fun _ z => (nomatch z)⟩
theorem PIE.of {pins : List (Addr × Obj)} {σ : L2.St} {H : Hp} {s : Shared} {R : It → Hp → Prop} {v : Value} {x : V} (I : Inv X pins σ H s) (rv : RelV x v) (h : (∃ a, x = .ref a ∧ (∃ xs, SqL X.K H a xs) ∧ R (Itl X.K a) H) ∨ (∃ a, x = .ref a ∧ (∃ xs, SqT X.K H a xs) ∧ R (Itt X.K a) H)) :
    wpAny (model X.prog X.w) X.A (pyIter v) (PIE X pins σ tg R) X.xe s := by
  rcases h with ⟨a, e, ⟨xs, hq⟩, q⟩ | ⟨a, e, ⟨xs, hq⟩, q⟩
  · subst e
    cases rv
    obtain ⟨its, rv, p, hz⟩ := I.list hq
    refine wpAny_pyIter_list p.isList ?_
    refine ⟨s.heap.objs.size, [s.heap.objs.size], _, _, H, rfl, I.kept (t' := s.toks) fun b o e => Heap.get?_push_of_some _ e, turn_list a _, ⟨_, Heap.get?_push_size _ rfl, rfl, rfl⟩, fun b hb => ?_, q⟩
    have e : b = s.heap.objs.size := by simpa using hb
    subst e
    exact I.fpOk (Nat.le_refl _) (I.hok.fresh (Nat.le_refl _))
  · subst e
    cases rv
    obtain ⟨its, rv, p, hz⟩ := I.tuple hq
    refine wpAny_pyIter_tuple (show s.heap.IsTuple a its.toArray from p) ?_
    refine ⟨s.heap.objs.size, [s.heap.objs.size], _, _, H, rfl, I.kept (t' := s.toks) fun b o e => Heap.get?_push_of_some _ e, turn_tuple a _, ⟨_, Heap.get?_push_size _ rfl, rfl, rfl⟩, fun b hb => ?_, q⟩
    have e : b = s.heap.objs.size := by simpa using hb
    subst e
    exact I.fpOk (Nat.le_refl _) (I.hok.fresh (Nat.le_refl _))
theorem i_seq (ha : SndE X a ma) : SndI X tg a (iSeq ma) := by
  refine ⟨?_⟩
  intro W tk en σ r H S R er ro dn pins s I
  refine thn (ha.run W tk en σ r H S _ er ro (Dn.imp (Dn.bind dn) fun x H1 ⟨d, S1, r1, e1, s1, o1, k1, d1⟩ => (?_ : (∃ a, x = .ref a ∧ (∃ xs, SqL X.K H1 a xs) ∧ R (Itl X.K a) H1) ∨ (∃ a, x = .ref a ∧ (∃ xs, SqT X.K H1 a xs) ∧ R (Itt X.K a) H1))) pins s I) fun v s1 ⟨x, H1, I1, rv, q⟩ => PIE.of I1 rv q
  cases d with
  | tup xs =>
    obtain ⟨p, vs, rfl, hs, hv⟩ := k1
    exact .inr ⟨p, rfl, ⟨vs, (sqT_of hs)⟩, Dn.ok_here (R := WkR X.K) (a := .vals xs) d1 o1 (wk_tup (sqT_of hs) hv)⟩
  | kl xs =>
    obtain ⟨p, vs, rfl, hs, hv⟩ := k1
    exact .inl ⟨p, rfl, ⟨vs, hs.l⟩, Dn.ok_here (R := WkR X.K) (a := .vals xs) d1 o1 (wk_kl hs hv)⟩
  | ref n =>
    obtain ⟨p, hp, rfl⟩ := k1
    unfold itD at d1
    dsimp only at d1
    cases q : S1[n]? with
    | none => rw [q] at d1; exact d1.elim
    | some ob =>
      rw [q] at d1
      have ho := o1.ob n ob p q hp
      cases ob with
      | lst xs => obtain ⟨vs, h1, h2⟩ := ho; exact .inl ⟨p, rfl, ⟨vs, .of h1⟩, Dn.ok_here (R := WkR X.K) (a := .lst n) d1 o1 (wk_lst hp)⟩
      | _ => exact d1.elim
  | _ => exact d1.elim
@[irreducible] def smallI (i : Int) : Bool := decide (-(2 ^ 62) ≤ i) && decide (i < 2 ^ 62)
theorem smallI_ok {i : Int} (h : smallI i = true) : -(2 ^ 62) ≤ i ∧ i < 2 ^ 62 := by
  unfold smallI at h
  rw [Bool.and_eq_true] at h
  exact ⟨of_decide_eq_true h.1, of_decide_eq_true h.2⟩
def rng1 (ds : List D) : Option MI := match ds with
  | [.int j] => if smallI j = true then some (.rng 0 j.toNat) else none
  | _ => none
def rng2 (ds : List D) : Option MI := match ds with
  | [.int i, .int j] => if smallI i = true ∧ smallI j = true then some (.rng i (j - i).toNat) else none
  | _ => none
def iRng1M (m : MA) : MIt := fun en S => (m en S).bind fun ds S1 => match rng1 ds with
  | some i => .ok i S1
  | none => .bad
def iRng2M (m : MA) : MIt := fun en S => (m en S).bind fun ds S1 => match rng2 ds with
  | some i => .ok i S1
  | none => .bad
theorem wk_rng {r : List Addr} {H : Hp} {lo : Int} {n : Nat} : WkR X.K r H (.rng lo n) (Itr lo n) := by
  intro r' H' S i s o
  unfold nextM
  refine ⟨fun e => ?_, fun d e => ?_⟩
  · by_cases hi : i < n
    · simp only [hi, if_true] at e; cases e
    · exact Nat.le_of_not_lt hi
  · by_cases hi : i < n
    · simp only [hi, if_true] at e
      cases e
      refine ⟨hi, fun x H2 y => ?_⟩
      obtain ⟨rfl, rfl⟩ := y
      exact ⟨Stp.refl _ _, o, rfl⟩
    · simp only [hi, if_false] at e; cases e
theorem i_rng1 {p : Pos} {m : MA} (hg : Gl X "range") (hm : X.mg "range" = none) (ha : SndA X [a] m) (hs : starEach [a] X.env = [(false, eval a X.env)] := by rfl) : SndI X tg (.Call (.Name "range" p) [a] [] pos) (iRng1M m) := by
  refine ⟨?_⟩
  intro W tk en σ r H S R er ro dn
  refine wI_of (pi_range1 hg hm (pa_wA X _) hs) ?_
  refine ha.run W tk en σ r H S _ er ro (Dn.imp (Dn.bind dn) fun xs H1 ⟨ds, S1, r1, e1, s1, o1, k1, d1⟩ => ?_)
  cases q : rng1 ds with
  | none => rw [q] at d1; exact d1.elim
  | some i =>
    rw [q] at d1
    unfold rng1 at q
    split at q
    · rename_i j
      obtain ⟨v, rfl, kv⟩ := k1.one_inv
      split at q
      · rename_i hj
        cases q
        obtain ⟨h1, h2⟩ := smallI_ok hj
        exact ⟨j, by rw [show v = .int j from kv], h1, h2, Dn.ok_here (R := WkR X.K) (a := .rng 0 j.toNat) d1 o1 wk_rng⟩
      · cases q
    · cases q
/-! ### for -/
def forL (mi : MI) (g : Pat) (mb : MS) : Nat → Nat → En → Store → SRes
  | 0, _, _, _ => .bad
  | n + 1, i, en, S => match nextM mi i S with
    | none => .bad
    | some none => .nx en S
    | some (some d) => match g d S with
      | none => .bad
      | some ps => match mb (setsE en ps) S with
        | .nx e S2 => forL mi g mb n (i + 1) e S2
        | .ct e S2 => forL mi g mb n (i + 1) e S2
        | .bk e S2 => .nx e S2
        | .rt d S2 => .rt d S2
        | .err C x e S2 => .err C x e S2
        | .bad => .bad
def mFor (m : MIt) (g : Pat) (mb : MS) (n : Nat) : MS := fun en S => (m en S).stm en fun mi S1 => forL mi g mb n 0 en S1
theorem s_for {body : List Stmt} (n : Nat) (hp : PassesOwn (model X.prog X.w) X.A X.env X.xe) (hc : X.calm = true) (hi : SndI X tg iter mi) (hg : SndG X tg own g) (hb : SndSs X body ms) (hs : ∀ x, foldedSetIterable iter X.env x = pure x := by intro _; rfl) :
    SndS X (.For tg iter body [] pos) (mFor mi g ms n) := by
  refine ⟨?_⟩
  intro W tk en σ r H S D er ro dn
  refine wS_of (ps_for hp hc (pi_wI X tg iter) (pg_wG X tg) (pss_wSs X body) hs) ?_
  refine hi.run W tk en σ r H S _ er ro (Dn.imp (DnS.stm (R := WkR X.K) er dn) fun J H1 ⟨mi, S1, r1, e1, s1, o1, k1, er1, d1⟩ => ?_)
  refine ⟨fun i m σ H' => ∃ en r' S', ER X.K r' H' en σ ∧ ROk X.K r' H' S' ∧ WkR X.K r' H' mi J ∧ DnS X.K r' H' (forL mi g ms m i en S') D W, ⟨n, en, r1, S1, er1, o1, k1, d1⟩, ?_⟩
  rintro i m σ H2 ⟨en, r2, S2, er2, o2, k2, d2⟩
  cases m with
  | zero => exact d2.elim
  | succ m =>
    unfold forL at d2
    obtain ⟨w1, w2⟩ := k2 r2 H2 S2 i (Stp.refl _ _) o2
    cases q : nextM mi i S2 with
    | none => rw [q] at d2; exact d2.elim
    | some od =>
      cases od with
      | none => rw [q] at d2; exact .inl ⟨w1 q, DnS.nx_here (e := en) d2 o2 er2⟩
      | some d =>
        rw [q] at d2
        obtain ⟨hgo, hy⟩ := w2 d q
        dsimp only at d2
        cases qg : g d S2 with
        | none => rw [qg] at d2; exact d2.elim
        | some ps =>
          rw [qg] at d2
          dsimp only at d2
          refine .inr ⟨hgo, fun σ' H' => ∃ en r' S', ER X.K r' H' en σ' ∧ ROk X.K r' H' S' ∧ WkR X.K r' H' mi J ∧ DnS X.K r' H' (forL mi g ms m (i + 1) en S') D W, fun σ' H' h => ⟨m, Nat.lt_succ_self m, h⟩, fun x H3 y => ?_⟩
          obtain ⟨s3, o3, k3⟩ := hy x H3 y
          refine hg.run d x ps σ r2 H3 S2 _ qg k3 o3 fun vs hps _ => ?_
          refine hb.run W tk (setsE en ps) _ r2 H3 S2 _ (hps.sets (er2.mono s3)) o3 ?_
          have d2 := DnS.mono s3 d2
          have k2 := k2.mono s3
          cases qb : ms (setsE en ps) S2 with
          | nx e S4 => rw [qb] at d2; exact fun r' H' σ' s o e' => ⟨e, r', S4, e', o, k2.mono s, DnS.mono s d2⟩
          | ct e S4 => rw [qb] at d2; exact fun r' H' σ' s o e' => ⟨e, r', S4, e', o, k2.mono s, DnS.mono s d2⟩
          | bk e S4 => rw [qb] at d2; exact d2
          | rt d S4 => rw [qb] at d2; exact d2
          | err C x e S4 => rw [qb] at d2; exact d2
          | bad => rw [qb] at d2; exact d2.elim

/-! ### a list comprehension -/
def Res.calm {α : Type} (m : Res α) : Res α := match m with
  | .err _ _ _ => .bad
  | q => q
def compL (mi : MI) (g : Pat) (mt : MT) (me : ME) (n0 : Nat) : Nat → Nat → En → Store → Res D
  | 0, _, _, _ => .bad
  | n + 1, i, en, S => match nextM mi i S with
    | none => .bad
    | some none => .ok (.ref n0) S
    | some (some d) => match g d S with
      | none => .bad
      | some ps => (mt (setsE en ps) S).calm.bind fun b S1 => match b with
        | false => compL mi g mt me n0 n (i + 1) en S1
        | true => (me (setsE en ps) S1).calm.bind fun z S2 => match S2[n0]? with
          | some (.lst acc) => if acc.length < sizeLine then compL mi g mt me n0 n (i + 1) en (S2.set n0 (.lst (acc ++ [z]))) else .bad
          | _ => .bad
def wipeD (e : En) : List Nat → En
  | [] => e
  | v :: vs => (wipeD e vs).set v none
def mComp (m : MIt) (g : Pat) (mt : MT) (me : ME) (own : List Nat) (n : Nat) : ME := fun en S => (m en S).bind fun mi S1 => compL mi g mt me S1.length n 0 (wipeD en own) (S1 ++ [.lst []])
theorem ER.setNone {K : PySem.W.Frag} {r : List Addr} {H : Hp} {e : En} {σ : L2.St} (h : ER K r H e σ) (i : Nat) : ER K r H (e.set i none) (σ.set i none) :=
  ⟨by rw [List.length_set, List.length_set]; exact h.len, fun j d' q => by
    by_cases e' : j = i
    · subst e'
      by_cases hl : j < e.length
      · rw [List.getElem?_set_self hl] at q; cases q
      · rw [List.getElem?_eq_none (by rw [List.length_set]; omega)] at q; cases q
    · rw [List.getElem?_set_ne (Ne.symm e')] at q
      obtain ⟨v', h1, h2⟩ := h.at_ j d' q
      exact ⟨v', by rw [List.getElem?_set_ne (Ne.symm e')]; exact h1, h2⟩⟩
theorem ER.wipe {K : PySem.W.Frag} {r : List Addr} {H : Hp} {e : En} {σ : L2.St} (h : ER K r H e σ) : ∀ vs : List Nat, ER K r H (wipeD e vs) (wipe σ vs)
  | [] => h
  | v :: vs => (ER.wipe h vs).setNone v
theorem wipe_get (σ : L2.St) (i : Nat) : ∀ vs : List Nat, (wipe σ vs)[i]? = if i ∈ vs then (if i < σ.length then some none else none) else σ[i]?
  | [] => by simp [wipe]
  | v :: vs => by
    unfold wipe
    by_cases e : v = i
    · subst e
      rw [if_pos List.mem_cons_self]
      by_cases hl : v < σ.length
      · rw [if_pos hl, List.getElem?_set_self (by rw [wipe_length]; exact hl)]
      · rw [if_neg hl, List.getElem?_eq_none (by rw [List.length_set, wipe_length]; omega)]
    · rw [List.getElem?_set_ne e, wipe_get σ i vs]
      by_cases hm : i ∈ vs
      · rw [if_pos hm, if_pos (List.mem_cons_of_mem _ hm)]
      · rw [if_neg hm, if_neg (fun z => (List.mem_cons.mp z).elim (fun q => e q.symm) hm)]
theorem setsV_length : ∀ (ps : List (Nat × V)) (σ : L2.St), (setsV σ ps).length = σ.length
  | [], _ => rfl
  | (i, d) :: l, σ => by
    show (setsV (σ.set i (some d)) l).length = _
    rw [setsV_length l, List.length_set]
theorem setsV_get {vs : List Nat} {i : Nat} (hi : i ∉ vs) : ∀ (ps : List (Nat × V)) (σ : L2.St), (∀ p ∈ ps, p.1 ∈ vs) → (setsV σ ps)[i]? = σ[i]?
  | [], _, _ => rfl
  | (j, d) :: l, σ, h => by
    show (setsV (σ.set j (some d)) l)[i]? = _
    rw [setsV_get hi l _ fun p hp => h p (List.mem_cons_of_mem _ hp), List.getElem?_set_ne]
    intro e
    subst e
    exact hi (h (j, d) List.mem_cons_self)
theorem wipe_sets (σ : L2.St) (vs : List Nat) (ps : List (Nat × V)) (h : ∀ p ∈ ps, p.1 ∈ vs) : wipe (setsV (wipe σ vs) ps) vs = wipe σ vs := by
  apply List.ext_getElem?
  intro i
  rw [wipe_get]
  by_cases hm : i ∈ vs
  · rw [if_pos hm, setsV_length, wipe_length, wipe_get, if_pos hm]
  · rw [if_neg hm, setsV_get hm ps _ h]
theorem Dn.calm {K : PySem.W.Frag} {r : List Addr} {H : Hp} {α β : Type} {R : List Addr → Hp → α → β → Prop} {m : Res α} {Q : β → Hp → Prop} {W W' : XK} (h : Dn K r H R m.calm Q W) : Dn K r H R m Q W' := by
  cases m with
  | ok a S => exact h
  | err C n S => exact h.elim
  | bad => exact h
theorem takes_blk {s : Shared} {H : Hp} {scope : Scope} {cenv : Env} {fp : List Addr} : Takes (X.blk s H scope cenv fp) (fun _ _ _ _ => False) := fun u s' ⟨_, _, _, _, _, _, _, _, _, _, _, _, _, _, _, _, w⟩ => w.elim
abbrev InBlk (X : Cx) (scope : Scope) (Pr : Cx → Prop) : Prop := ∀ (s : Shared) (H : Hp) (C : Addr) (cl : List (Str × Addr)) (fp : List Addr), Pr (X.blk s H scope (compEnvC scope cl C X.env) fp)
/-- the tests of a clause -/
structure SndF (X : Cx) (ifs : List Expr) (m : MT) : Prop where
  run : ∀ (W : WX), Takes X W → ∀ (en : En) (σ : L2.St) (r : List Addr) (H : Hp) (S : Store) (Q : Bool → Hp → Prop), ER X.K r H en σ → ROk X.K r H S → Dn X.K r H RT (m en S) Q (WE W σ) →
  ∀ (pins : List (Addr × Obj)) (s : Shared), Inv X pins σ H s → wpAny (model X.prog X.w) X.A (forIn ifs true fun c r => if r = true then do let ok ← isTrue c X.env (eval c X.env); pure (ForInStep.yield ok) else pure (ForInStep.yield r)) (TP X pins σ Q) X.xe s
def wF (X : Cx) (ifs : List Expr) : TT := fun σ H Q => ∀ (pins : List (Addr × Obj)) (s : Shared), Inv X pins σ H s → wpAny (model X.prog X.w) X.A (forIn ifs true fun c r => if r = true then do let ok ← isTrue c X.env (eval c X.env); pure (ForInStep.yield ok) else pure (ForInStep.yield r)) (TP X pins σ Q) X.xe s
def mYes : MT := fun _ S => .ok true S
theorem f_nil : SndF X [] mYes := .mk fun W tk en σ r H S Q er ro dn pins s I => pts_nil.run pins s σ H Q I (Dn.ok_here (R := RT) (a := true) (v := true) dn ro rfl)
theorem f_one (h : SndT X c mt) : SndF X [c] mt := .mk fun W tk en σ r H S Q er ro dn pins s I => (pts_one (pt_wT X c)).run pins s σ H Q I (h.run W tk en σ r H S Q er ro dn)
theorem tLc_of {wi : TI} {gg : TG} {tt : TT} {te : TE} {own : List Nat} {mi : MI} {J : It} {en : En} {σ : L2.St} {r : List Addr} {H : Hp} {S : Store} {Q : VK} {W : WX} {n : Nat} (er : ER X.K r H en σ) (o1 : ROk X.K r H S) (k1 : WkR X.K r H mi J)
    (hg : ∀ (d : D) (v : V) (ps : List (Nat × D)) (σ : L2.St) (r : List Addr) (H : Hp) (S : Store) (Q : L2.St → Hp → Prop), g d S = some ps → VR X.K r H d v → ROk X.K r H S → (∀ vs, PR X.K r H ps vs → (∀ p ∈ vs, p.1 ∈ own) → Q (setsV σ vs) H) → gg v σ H Q)
    (ht : ∀ (en : En) (σ : L2.St) (r : List Addr) (H : Hp) (S : Store) (Q : Bool → Hp → Prop), ER X.K r H en σ → ROk X.K r H S → Dn X.K r H RT (mt en S) Q (fun _ _ _ => False) → tt σ H Q)
    (he : ∀ (en : En) (σ : L2.St) (r : List Addr) (H : Hp) (S : Store) (Q : VK), ER X.K r H en σ → ROk X.K r H S → Dn X.K r H (VR X.K) (me en S) Q (fun _ _ _ => False) → te σ H Q)
    (dn : Dn X.K r H (VR X.K) (compL mi g mt me S.length n 0 (wipeD en own) (S ++ [.lst []])) Q (WE W σ)) :
    ∀ D, H D = none → ∃ Wp : Nat → Nat → Hp → Prop, (∃ m, Wp 0 m (upd H D (.lst []))) ∧ ∀ i m H, Wp i m H →
      (J.stop i H ∧ Q (.ref D) H) ∨ (J.go i H ∧ ∃ Nx : Hp → Prop, (∀ H', Nx H' → ∃ m', m' < m ∧ Wp (i + 1) m' H') ∧ ∀ x H', J.yld i H x H' → gg x (wipe σ own) H' fun σ2 H2 => wipe σ2 own = wipe σ own ∧ tt σ2 H2 fun b H3 =>
        if b = true then te σ2 H3 fun y H4 => ∃ acc, H4 D = some (.lst acc) ∧ acc.length < sizeLine ∧ Nx (upd H4 D (.lst (acc ++ [y]))) else Nx H3) := by
  intro Dd hD
  obtain ⟨n1, n2, n3⟩ := new_lst (X := X) (ds := []) (vs := []) o1 rfl hD
  have n3 : (r ++ [Dd])[S.length]? = some Dd := by obtain ⟨a, h1, h2⟩ := n3; cases h2; exact h1
  refine ⟨fun i m H' => ∃ r' S', ER X.K r' H' (wipeD en own) (wipe σ own) ∧ ROk X.K r' H' S' ∧ WkR X.K r' H' mi J ∧ r'[S.length]? = some Dd ∧ Dn X.K r' H' (VR X.K) (compL mi g mt me S.length m i (wipeD en own) S') Q (WE W σ), ⟨n, r ++ [Dd], S ++ [.lst []], (er.mono n1).wipe own, n2, k1.mono n1, n3, Dn.mono n1 dn⟩, ?_⟩
  rintro i m H2 ⟨r2, S2, er2, o2, k2, hd2, d2⟩
  cases m with
  | zero => exact d2.elim
  | succ m =>
    unfold compL at d2
    obtain ⟨w1, w2⟩ := k2 r2 H2 S2 i (Stp.refl _ _) o2
    cases q : nextM mi i S2 with
    | none => rw [q] at d2; exact d2.elim
    | some od =>
      cases od with
      | none => rw [q] at d2; exact .inl ⟨w1 q, Dn.ok_here (R := VR X.K) (a := .ref S.length) d2 o2 ⟨Dd, hd2, rfl⟩⟩
      | some d =>
        rw [q] at d2
        obtain ⟨hgo, hy⟩ := w2 d q
        dsimp only at d2
        cases qg : g d S2 with
        | none => rw [qg] at d2; exact d2.elim
        | some ps =>
          rw [qg] at d2
          dsimp only at d2
          refine .inr ⟨hgo, fun H' => ∃ r' S', ER X.K r' H' (wipeD en own) (wipe σ own) ∧ ROk X.K r' H' S' ∧ WkR X.K r' H' mi J ∧ r'[S.length]? = some Dd ∧ Dn X.K r' H' (VR X.K) (compL mi g mt me S.length m (i + 1) (wipeD en own) S') Q (WE W σ), fun H' h => ⟨m, Nat.lt_succ_self m, h⟩, fun x H3 y => ?_⟩
          obtain ⟨s3, o3, k3⟩ := hy x H3 y
          have d2 := Dn.mono s3 d2
          have er3 := er2.mono s3
          have wk3 := k2.mono s3
          have hd3 := s3.pre _ _ hd2
          refine hg d x ps _ r2 H3 S2 _ qg k3 o3 fun vs hps hown => ⟨wipe_sets σ own vs hown, ?_⟩
          have ers := hps.sets er3
          refine ht _ _ r2 H3 S2 _ ers o3 (Dn.calm (Dn.imp (Dn.bind d2) fun b H4 ⟨b', S4, r4, e4, s4, o4, k4, d4⟩ => ?_))
          have k4 : b = b' := k4
          subst k4
          cases b with
          | false => exact ⟨r4, S4, er3.mono s4, o4, wk3.mono s4, s4.pre _ _ hd3, d4⟩
          | true =>
            show te _ H4 _
            refine he _ _ r4 H4 S4 _ (ers.mono s4) o4 (Dn.calm (Dn.imp (Dn.bind d4) fun y H5 ⟨z, S5, r5, e5, s5, o5, k5, d5⟩ => ?_))
            have hd5 := s5.pre _ _ (s4.pre _ _ hd3)
            cases ql : S5[S.length]? with
            | none => rw [ql] at d5; exact d5.elim
            | some ob =>
              rw [ql] at d5
              have ho := o5.ob _ ob Dd ql hd5
              cases ob with
              | lst acc =>
                obtain ⟨ws, h1, h2⟩ := ho
                obtain ⟨hz, d5⟩ := dn_if d5
                have ss : Stp r5 H5 r5 (upd H5 Dd (.lst (ws ++ [y]))) := Stp.mut h1 trivial
                refine ⟨ws, h1, by rw [← h2.length]; exact hz, r5, _, ((er3.mono s4).mono s5).mono ss, o5.mut (o := .lst (acc ++ [z])) hd5 h1 trivial ⟨ws ++ [y], upd_same, (h2.mono ss).append (VRs.one (k5.mono ss))⟩, ((wk3.mono s4).mono s5).mono ss, hd5, Dn.mono ss d5⟩
              | _ => exact d5.elim
def bG (X : Cx) (scope : Scope) (tg : Expr) : TG := fun v σ H Q => InBlk X scope fun Y => wG Y tg v σ H Q
def bF (X : Cx) (scope : Scope) (ifs : List Expr) : TT := fun σ H Q => InBlk X scope fun Y => wF Y ifs σ H Q
def bE (X : Cx) (scope : Scope) (e : Expr) : TE := fun σ H Q => InBlk X scope fun Y => wE Y e σ H Q
theorem pg_bG (scope : Scope) (s : Shared) (H : Hp) (C : Addr) (cl : List (Str × Addr)) (fp : List Addr) : PG (X.blk s H scope (compEnvC scope cl C X.env) fp) tg (bG X scope tg) := ⟨fun pins s' σ H' v u Q I rv h => h s H C cl fp pins s' u I rv⟩
theorem pts_bF (scope : Scope) {ifs : List Expr} (s : Shared) (H : Hp) (C : Addr) (cl : List (Str × Addr)) (fp : List Addr) : PTs (X.blk s H scope (compEnvC scope cl C X.env) fp) ifs (bF X scope ifs) := ⟨fun pins s' σ H' Q I h => h s H C cl fp pins s' I⟩
theorem pe_bE (scope : Scope) (s : Shared) (H : Hp) (C : Addr) (cl : List (Str × Addr)) (fp : List Addr) : PE (X.blk s H scope (compEnvC scope cl C X.env) fp) e (bE X scope e) := ⟨fun pins s' σ H' Q I h => h s H C cl fp pins s' I⟩
theorem e_comp {scope : Scope} {ow : List (Str × Nat)} {ifs : List Expr} (n : Nat) (hc : X.calm = true) (hN : X.N.Nodup) (hi : SndI X tg iter mi) (ok : BlkOk X.N X.env.scope scope ow)
    (hg : InBlk X scope fun Y => SndG Y tg (ow.map (·.2)) g) (ht : InBlk X scope fun Y => SndF Y ifs mt) (he : InBlk X scope fun Y => SndE Y e me) (hs : ∀ x, foldedSetIterable iter X.env x = pure x := by intro _; rfl) :
    SndE X (.ListComp e [⟨tg, iter, ifs, 0⟩] scope pos) (mComp mi g mt me (ow.map (·.2)) n) := by
  refine ⟨?_⟩
  intro W tk en σ r H S Q er ro dn
  refine wE_of (pe_lc hc hN (pi_wI X tg iter) ok (pg_bG scope) (pts_bF scope) (pe_bE scope) hs) ?_
  refine hi.run W tk en σ r H S _ er ro (Dn.imp (Dn.bind dn) fun J H1 ⟨mi, S1, r1, e1, s1, o1, k1, d1⟩ => ?_)
  refine tLc_of (wi := wI X tg iter) (gg := bG X scope tg) (tt := bF X scope ifs) (te := bE X scope e) (er.mono s1) o1 k1 (fun d v ps σ r H S Q q kv ro hQ s H0 C cl fp => ?_) (fun en σ r H S Q er ro dn s H0 C cl fp => ?_) (fun en σ r H S Q er ro dn s H0 C cl fp => ?_) d1
  · exact (hg s H0 C cl fp).run d v ps σ r H S Q q kv ro hQ
  · exact (ht s H0 C cl fp).run _ takes_blk en σ r H S Q er ro dn
  · exact (he s H0 C cl fp).run _ takes_blk en σ r H S Q er ro dn
theorem s_setC {i : Nat} {y : Str} {py : Pos} {scope : Scope} {ow : List (Str × Nat)} {ifs : List Expr} {spos : Pos} (n : Nat) (hc : X.calm = true) (hN : X.N.Nodup) (hy : X.N[i]? = some y) (hyl : X.env.scope.names.lookup y = some .local)
    (hsw : swapsWith (.ListComp e [⟨tg, iter, ifs, 0⟩] scope pos) (some (.Name y py)) spos.line X.env = pure true) (hi : SndI X tg iter mi) (ok : BlkOk X.N X.env.scope scope ow)
    (hg : InBlk X scope fun Y => SndG Y tg (ow.map (·.2)) g) (ht : InBlk X scope fun Y => SndF Y ifs mt) (he : InBlk X scope fun Y => SndE Y e me) (hs : ∀ x, foldedSetIterable iter X.env x = pure x := by intro _; rfl) :
    SndS X (.Assign [.Name y py] (.ListComp e [⟨tg, iter, ifs, 0⟩] scope pos) spos) (mSet i (mComp mi g mt me (ow.map (·.2)) n)) := by
  refine ⟨?_⟩
  intro W tk en σ r H S D er ro dn
  refine wS_of (ps_setLc hc hN hy hyl hsw (pi_wI X tg iter) ok (pg_bG scope) (pts_bF scope) (pe_bE scope) hs) ?_
  have dn2 := Dn.imp (DnS.stm (R := VR X.K) er dn) fun x H1 ⟨d, S1, r1, e1, s1, o1, k1, er1, d1⟩ => DnS.nx_here (e := en.set i (some d)) (σ := σ.set i (some x)) d1 o1 (er1.set k1)
  refine hi.run W tk en σ r H S _ er ro (Dn.imp (Dn.bind dn2) fun J H1 ⟨mi, S1, r1, e1, s1, o1, k1, d1⟩ => ?_)
  refine tLc_of (wi := wI X tg iter) (gg := bG X scope tg) (tt := bF X scope ifs) (te := bE X scope e) (Q := fun x H1 => D.nx (σ.set i (some x)) H1) (er.mono s1) o1 k1 (fun d v ps σ r H S Q q kv ro hQ s H0 C cl fp => ?_) (fun en σ r H S Q er ro dn s H0 C cl fp => ?_) (fun en σ r H S Q er ro dn s H0 C cl fp => ?_) d1
  · exact (hg s H0 C cl fp).run d v ps σ r H S Q q kv ro hQ
  · exact (ht s H0 C cl fp).run _ takes_blk en σ r H S Q er ro dn
  · exact (he s H0 C cl fp).run _ takes_blk en σ r H S Q er ro dn
end
end Q

namespace Q
open PySem PySem.Spec PyProof.Rows L2
section Gs
variable [Gh : Ghost] [Gr : Grd]
/-! ### functions -/
abbrev MF := List D → Store → Res D
structure FnM (P : Program) (w : World) (K : PySem.W.Frag) (mg : Str → Option Value) (base : Heap) (k : Nat) (f : Addr) (fd : FuncData) (ps : List Str) (M : MF) : Prop where
  run : ∀ (A : Around) (outer : List Env) (s : Shared) (H : Hp) (args : Args) (us : List Value) (vs : List V) (r : List Addr) (ds : List D) (S : Store) (Q : VK) (E : XK),
    Room k A → Gr.ok A.guards → Env0 P w K mg base A outer s H → BindsTo s fd args (ps.zip us) → Vals vs us → ds.length = ps.length → VRs K r H ds vs → ROk K r H S → Dn K r H (VR K) (M ds S) Q E →
    codeAny (model P w) A (.call (.ref f) args) (CR (CX P w) outer P w H s Q E) s
theorem FnM.mono {P : Program} {w : World} {K : PySem.W.Frag} {mg : Str → Option Value} {base : Heap} {j k : Nat} {f : Addr} {fd : FuncData} {ps : List Str} {M : MF} (F : FnM P w K mg base j f fd ps M) (h : j ≤ k) : FnM P w K mg base k f fd ps M :=
  ⟨fun A outer s H args us vs r ds S Q E hr => F.run A outer s H args us vs r ds S Q E (hr.mono h)⟩
def startE (n : Nat) (ds : List D) : En := ds.map some ++ List.replicate (n - ds.length) none
def endM (m : SRes) : Res D := match m with
  | .nx _ S => .ok .non S
  | .rt d S => .ok d S
  | .err C n _ S => .err C n S
  | _ => .bad
/-- a def: n names, its body -/
def mDef (n : Nat) (m : MS) : MF := fun ds S => endM (m (startE n ds) S)
theorem ER.start {K : PySem.W.Frag} {r : List Addr} {H : Hp} {ds : List D} {vs : List V} (N : List Str) (h : VRs K r H ds vs) : ER K r H (startE N.length ds) (L2.start N vs) := by
  have hl := h.length
  refine ⟨?_, fun i d e => ?_⟩
  · unfold startE L2.start
    simp only [List.length_append, List.length_map, List.length_replicate]
    omega
  · unfold startE at e
    unfold L2.start
    by_cases hi : i < ds.length
    · rw [List.getElem?_append_left (by rw [List.length_map]; exact hi), List.getElem?_map] at e
      rw [List.getElem?_append_left (by rw [List.length_map, ← hl]; exact hi), List.getElem?_map]
      obtain ⟨d', h1, h2⟩ := Option.map_eq_some_iff.mp e
      cases h2
      obtain ⟨v, h3, h4⟩ := h.get h1
      exact ⟨v, by rw [h3]; rfl, h4⟩
    · rw [List.getElem?_append_right (by rw [List.length_map]; omega), List.getElem?_replicate] at e
      split at e <;> cases e
/-- what the body's end is for the caller -/
theorem DnS.of_end {K : PySem.W.Frag} {r : List Addr} {H : Hp} {m : SRes} {Q : VK} {E : XK} (h : Dn K r H (VR K) (endM m) Q E) : DnS K r H m { nx := fun _ H' => Q .non H', rt := Q } (fun c x _ H' => E c x H') := by
  cases m with
  | nx e S => exact fun r' H' σ' s o _ => h r' H' .non s o rfl
  | rt d S => exact fun r' H' v s o k => h r' H' v s o k
  | bk e S => exact h.elim
  | ct e S => exact h.elim
  | err C n e S => exact fun r' H' σ' x s o _ q => h r' H' x s o q
  | bad => exact h.elim
section
variable {P : Program} {w : World} {K : PySem.W.Frag} {mg : Str → Option Value} {base : Heap}
abbrev cxM (P : Program) (w : World) (K : PySem.W.Frag) (mg : Str → Option Value) (base : Heap) (N : List Str) (qual : Str) (scope : Scope) (f : Addr) (cd : Value) (A : Around) (outer : List Env) (s : Shared) (H : Hp) (E : XK) : Cx :=
  cxOf (CX P w) P w K mg base N qual scope f cd A outer s H E
theorem takes_cxM {N : List Str} {qual : Str} {scope : Scope} {f : Addr} {cd : Value} {A : Around} {outer : List Env} {s : Shared} {H : Hp} {E : XK} : Takes (cxM P w K mg base N qual scope f cd A outer s H E) (fun c x _ H' => E c x H') := takes_of rfl rfl rfl rfl
theorem owns_cxM {N : List Str} {qual : Str} {scope : Scope} {f : Addr} {cd : Value} {A : Around} {outer : List Env} {s : Shared} {H : Hp} {E : XK} : PassesOwn (model P w) (cxM P w K mg base N qual scope f cd A outer s H E).A (cxM P w K mg base N qual scope f cd A outer s H E).env (cxM P w K mg base N qual scope f cd A outer s H E).xe := passes_of (X := cxM P w K mg base N qual scope f cd A outer s H E) rfl
/-- a def of the text keeps its mirror -/
theorem fnM_of {k : Nat} {f : Addr} {x qual : Str} {params : Arguments} {body : List Stmt} {scope : Scope} {dvs : List V} {kws : List (Str × V)} {fd : FuncData} {N ps : List Str} {m : MS} (F : FunD K x qual params body scope dvs kws f fd) (Sc : FnScope N ps scope)
    (hbody : ∀ (cd : Value) (A : Around) (outer : List Env) (s : Shared) (H : Hp) (E : XK), Gd (cxM P w K mg base N qual scope f cd A outer s H E) k → PassesOwn (model P w) (cxM P w K mg base N qual scope f cd A outer s H E).A (cxM P w K mg base N qual scope f cd A outer s H E).env (cxM P w K mg base N qual scope f cd A outer s H E).xe →
      SndSs (cxM P w K mg base N qual scope f cd A outer s H E) body m) : FnM P w K mg base (k + 1) f fd ps (mDef N.length m) := by
  obtain ⟨oc, od, dV, kV, doc, pm, an, cdv, ct, osl, rfl, lk, hcd, _, _⟩ := F.ex
  constructor
  intro A outer s H args us vs r ds S Q E room gds e0 bnd rel hlen hrel ro dn
  have hKs : K.In s.heap := e0.mod.kin.keeps fun b o q => (e0.bs b o q).1
  have kinds : ∀ y ∈ ps.zip us, scope.names.lookup y.1 = some .local ∨ (scope.names.lookup y.1 = some .cell ∧ ((cellsFrom (s.heap.objs.size + 1) scope.names []).lookup y.1).isSome = true) := by
    rintro ⟨n, v⟩ hy
    have hp : n ∈ ps := (List.of_mem_zip hy).1
    rcases Sc.par n hp with q | q
    · exact Or.inl q
    · exact Or.inr ⟨q, PySem.W.cellsFrom_some _ _ _ (Or.inl q)⟩
  refine codeAny_call_function room.depth (hKs _ _ lk) rfl Sc.co Sc.gen rfl (PySem.W.codeRec_of hKs hcd) (bnd _ _ _ _ ?_)
  refine wpAny_newFunctionEnv_cells Sc.kind kinds ?_
  intro env he s1 inc
  subst he
  refine ⟨(e0.mod.nolimit.keeps fun b o q => (e0.bs b o q).1).keeps inc.toInCall.keep, codeAny_func ?_⟩
  have gd : Gd (cxM P w K mg base N qual scope f cdv A outer s H E) k := ⟨rfl, room.deeper _, gds⟩
  have inv : Inv (cxM P w K mg base N qual scope f cdv A outer s H E) [] (L2.start N vs) H s1 := inv_start Sc room.hd e0 (hrel.length.symm.trans hlen) rel inc
  have run := (hbody cdv A outer s H E gd owns_cxM).run _ takes_cxM (startE N.length ds) (L2.start N vs) r H S _ (ER.start N hrel) ro (DnS.of_end dn) [] s1 inv
  refine wpAny_mono run (fun fl s' hs => ?_) fun e s' hs => hs
  have back : ∀ {σ' : L2.St} {H' : Hp} {v : V} {u : Value}, Inv (cxM P w K mg base N qual scope f cdv A outer s H E) [] σ' H' s' → RelV v u → Q v H' → CE outer P w H s Q u s' := by
    intro σ' H' v u J rv q
    exact ⟨v, H', J.os, J.bare, J.base, J.hok, rv, q⟩
  match fl, hs with
  | .ret u, ⟨v, σ', H', J, rv, q⟩ => exact back J rv q
  | .next, ⟨σ', H', J, q⟩ => exact back (v := V.non) (u := Value.none) J rfl q
  | .brk, ⟨_, _, _, q⟩ => exact q.elim
  | .cont, ⟨_, _, _, q⟩ => exact q.elim
end
/-! ### calls of defs -/
def mCallF (M : MF) (n : Nat) (dds : List D) (m : MA) : ME := fun en S => (m en S).bind fun ds S1 => if (ds ++ dds).length = n then M (ds ++ dds) S1 else .bad
section
variable {X : Cx} {k : Nat} {f : Addr} {fd : FuncData} {ps : List Str} {M : MF} {dvs : List V} {dds : List D} {dsv : List Value} {x : Str} {p pos : Pos} {e : Expr} {es : List Expr} {m : MA}
/-- the callee runs -/
theorem run_M {W : WX} {pins : List (Addr × Obj)} {σ : L2.St} {H : Hp} {s : Shared} {Q : VK} {us : List Value} {vs : List V} {ds : List D} {r : List Addr} {S : Store} (F : FnM X.prog X.w X.K X.mg X.base k f fd ps M) (g : Gd X k) (hb : Binds X.K fd ps dsv) (hd : Vals dvs dsv) (tk : Takes X W)
    (I : Inv X pins σ H s) (rv : Vals vs us) (hl : (ds ++ dds).length = ps.length) (kv : VRs X.K r H ds vs) (kd : VRs X.K r H dds dvs) (ro : ROk X.K r H S) (dn : Dn X.K r H (VR X.K) (M (ds ++ dds) S) Q (WE W σ)) :
    wpAny (model X.prog X.w) X.A (call (.ref f) us) (EP X pins σ Q) X.xe s := by
  have kk := kv.append kd
  have rr := rv.append hd
  have hlen : (us ++ dsv).length = ps.length := by rw [← rr.length, ← kk.length]; exact hl
  have go := F.run X.A X.stack s H ⟨us, []⟩ (us ++ dsv) (vs ++ dvs) r (ds ++ dds) S Q (WE W σ) g.room g.gd I.env0 (hb s us I.kIn hlen) rr hl kk ro dn
  refine wpAny_call (codeAny_mono go ?_)
  intro res s' hq
  match res, hq with
  | .error e, hq => exact tk e s' (XE.of_call I (fun _ _ _ h => h) hq)
  | .ok (.ret u), hq => exact I.after hq
  | .ok .next, hq => exact hq.elim
  | .ok .brk, hq => exact hq.elim
  | .ok .cont, hq => exact hq.elim
theorem e_call (F : FnM X.prog X.w X.K X.mg X.base k f fd ps M) (g : Gd X k) (hg : Gl X x) (hm : X.mg x = some (.ref f)) (hk : PySem.W.keepIn X.K (.ref f) = true) (hb : Binds X.K fd ps dsv) (hd : Vals dvs dsv) (kd : ∀ r H, VRs X.K r H dds dvs)
    (ha : SndA X (e :: es) m) (hdb : (x == ("__debug__" : Str)) = false := by decide) (he : starEach (e :: es) X.env = (false, eval e X.env) :: starEach es X.env := by rfl) (hpl : (backTo pos (starEach es X.env)).any (·.1) = false := by rfl) :
    SndE X (.Call (.Name x p) (e :: es) [] pos) (mCallF M ps.length dds m) := by
  refine ⟨?_⟩
  intro W tk en σ r H S Q er ro dn pins s I
  refine wpAny_Call_Name_kw (ld_glob I hg hm ?_ hdb)
  have args := ha.run W tk en σ r H S _ er ro (Dn.bind dn) pos pins s I
  refine PySem.W.callWith_K (h₀ := X.base) I.ok.mod.kin hk (thn args ?_) he hpl
  rintro us s1 ⟨vs, H1, I1, rv, ds, S1, r1, e1, s1', o1, k1, d1⟩
  obtain ⟨hl, d1⟩ := dn_if d1
  exact ⟨I1.kIn, run_M F g hb hd tk I1 rv hl k1 (kd r1 H1) o1 d1⟩
end
end Gs
/-! ### the law's end -/
theorem law_M {P : Program} {w : World} {K : PySem.W.Frag} {mg mb : Str → Option Value} {k : Nat} {fa a : Addr} {fd : FuncData} {x : Str} {M : MF} {s1 : Shared} {vs : List Value} {ns : List Int}
    (KX : K.In s1.heap) (hns : s1.heap.Ns mainGlobals mg) (hb : s1.heap.Ns builtinsNs mb) (hbb : ∀ x : Str, x ≠ "__name__" → mb x = bootBuiltins x) (hlim : s1.heap.NoLimit) (hg : s1.gens = #[])
    (ha : s1.heap.get? a = some { cls := .type "list", data := .seq vs.toArray }) (hi : IntsAre vs ns) (hl : ns.length ≤ sizeLine) (hr : Room k callerA)
    (F : ∀ base : Heap, K.In base → base.Ns mainGlobals mg → FnM P w K mg base k fa fd [x] M) (hbind : ∀ (s : Shared) (u : Value), BindsTo s fd ⟨[u], []⟩ [(x, u)])
    (hM : ∃ S', M [.kl (ns.map D.int)] [] = .ok (.bl true) S') (hsys : ∃ o es ep, s1.heap.get? sysModules = some o ∧ o.data = .dict es ep) :
    codeAny (model P w) callerA (.call (.ref fa) ⟨[.ref a], []⟩) (fun r s' => r = .ok (.ret (.bool true)) ∧ OldK s1.heap s'.heap ∧ s'.os = s1.os ∧ AllBare s'.gens) s1 := by
  have rv := vals_ints hi
  have lenV := hi.length
  obtain ⟨S', hM⟩ := hM
  have kvs : ∀ (r : List Addr) (H : Hp) (l : List Int), VRs K r H (l.map D.int) (l.map V.int) := by
    intro r H l
    induction l with
    | nil => rfl
    | cons i l ih => exact ⟨.int i, _, rfl, rfl, ih⟩
  obtain ⟨oY, eY, pY, hY, dY⟩ := hsys
  have main : ∀ H : Hp, (∀ b, H b = none ∨ ∃ o u, H b = some (.frz o u)) → SqF K H a (ns.map V.int) → HOk P w H s1.heap → (∀ b, H b ≠ none → (b = a ∨ b = sysModules) ∧ K.lookup b = none) → SysOk K H →
      codeAny (model P w) callerA (.call (.ref fa) ⟨[.ref a], []⟩) (fun r s' => r = .ok (.ret (.bool true)) ∧ OldK s1.heap s'.heap ∧ s'.os = s1.os ∧ AllBare s'.gens) s1 := by
    intro H hO hS hok hA hsy
    have dictNone : ∀ {b : Addr} {o : Obj} {es : Array DictEntry} {ep : Nat}, s1.heap.get? b = some o → o.data = .dict es ep → b ≠ sysModules → H b = none := by
      intro b o es ep e d hne
      rcases Classical.em (H b = none) with h | h
      · exact h
      · obtain ⟨rfl | h1, _⟩ := hA b h
        · rw [ha] at e
          cases e
          cases (show Data.seq vs.toArray _ = Data.dict es ep from d)
        · exact absurd h1 hne
    have nsB : ∀ {b : Addr} {m : Str → Option Value}, b ≠ sysModules → s1.heap.Ns b m → (hidT s1.heap H).Ns b m := by
      rintro b m hne ⟨o, es, ep, e, d, q⟩
      exact ⟨o, es, ep, hidT_get e (dictNone e d hne), d, q⟩
    have kinB : K.In (hidT s1.heap H) := by
      intro b o e
      refine hidT_get (KX b o e) ?_
      rcases Classical.em (H b = none) with h | h
      · exact h
      · obtain ⟨_, h2⟩ := hA b h
        rw [h2] at e
        cases e
    have limB : (hidT s1.heap H).NoLimit := by
      obtain ⟨mc, h1, h2⟩ := hlim
      exact ⟨mc, nsB (by decide) h1, h2⟩
    have e0 : Env0 P w K mg (hidT s1.heap H) callerA [] s1 H :=
      ⟨rfl, ⟨kinB, nsB (by decide) hns, ⟨mb, nsB (by decide) hb, hbb⟩, limB⟩, fun b o e => of_hidT e, Nat.le_of_eq (hidT_size _ _), trivial, fun b hm => (List.not_mem_nil (show b ∈ ([] : List Addr) from hm)).elim, hok, .of_eq hg⟩
    have ro : ROk K [] H [] := ⟨hsy, rfl, List.nodup_nil, fun n o p e => by simp at e, trivial⟩
    have arg : VRs K [] H [.kl (ns.map D.int)] [.ref a] := ⟨.ref a, [], rfl, ⟨a, ns.map V.int, rfl, hS, kvs [] H ns⟩, rfl⟩
    have dn : Dn K [] H (VR K) (M [.kl (ns.map D.int)] []) (fun v _ => v = .bl true) (fun _ _ _ => False) := by
      rw [hM]
      exact fun r' H' v _ _ kv => kv
    refine codeAny_mono ((F _ kinB (nsB (by decide) hns)).run callerA [] s1 H ⟨[.ref a], []⟩ [.ref a] [.ref a] [] _ [] _ _ hr rfl e0 (hbind s1 (.ref a)) (.cons rfl .nil) rfl arg ro dn) ?_
    intro res s' h
    match res, h with
    | .error e, ⟨_, _, _, _, _, _, _, _, _, _, _, _, hE⟩ => exact hE.elim
    | .ok .next, h => exact h.elim
    | .ok .brk, h => exact h.elim
    | .ok .cont, h => exact h.elim
    | .ok (.ret u), ⟨v, H', os, bare, un, hok', rv', q⟩ =>
      have q : v = .bl true := q
      subst q
      obtain rfl : u = Value.bool true := rv'
      refine ⟨rfl, OldK.of_keep fun b o e => ?_, os, bare⟩
      rcases hO b with z | ⟨ob, xs, z⟩
      · exact un.keep b o e z (List.not_mem_nil (a := b)) (List.not_mem_nil (a := b))
      · obtain ⟨e1, _⟩ := hok b _ z
        obtain ⟨e2, _⟩ := hok' b _ (un.frzs b ob _ z)
        rw [e] at e1
        cases e1
        exact e2
  -- the script, then the dict of modules, are told where the written part does not tell them
  have sysL : K.lookup sysModules = none ∨ ∃ o es ep, K.lookup sysModules = some o ∧ o.data = .dict es ep := by
    cases q : K.lookup sysModules with
    | none => exact .inl rfl
    | some o =>
      have e := KX _ o q
      rw [hY] at e
      cases e
      exact .inr ⟨_, eY, pY, rfl, dY⟩
  have aS : a ≠ sysModules := fun e => by
    rw [← e, ha] at hY
    cases hY
    cases dY
  have okY : ∀ H : Hp, ObjOk P w H s1.heap sysModules (.frz oY (.own 0)) := fun H => ⟨hY, oY, hY⟩
  have okA : ∀ H : Hp, ObjOk P w H s1.heap a (.frz { cls := .type "list", data := .seq vs.toArray } (.lst (ns.map V.int))) := fun H => ⟨ha, by rw [List.length_map]; exact hl, vs, _, rv, ha⟩
  have sqA : ∀ o, K.lookup a = some o → ∀ H : Hp, SqF K H a (ns.map V.int) := fun o hk H => by
    have e := KX a o hk
    rw [ha] at e
    cases e
    exact .inr ⟨_, vs.toArray, _, hk, rfl, rfl, rfl, by rw [List.size_toArray, lenV]; exact hl, by simpa using rv⟩
  cases hk : K.lookup a with
  | some o =>
    rcases sysL with h1 | h1
    · let H1 : Hp := fun b => if b = sysModules then some (.frz oY (.own 0)) else none
      have at1 : H1 sysModules = some (.frz oY (.own 0)) := if_pos rfl
      have of1 : ∀ b, b ≠ sysModules → H1 b = none := fun b h => if_neg h
      refine main H1 (fun b => ?_) (sqA o hk H1) (fun b u z => ?_) (fun b z => ?_) (.inr ⟨_, _, _, _, at1, dY⟩)
      · rcases Classical.em (b = sysModules) with h | h
        · exact .inr ⟨_, _, by rw [h]; exact at1⟩
        · exact .inl (of1 b h)
      · rcases Classical.em (b = sysModules) with h | h
        · rw [h] at z ⊢
          rw [at1] at z
          cases z
          exact okY H1
        · rw [of1 b h] at z
          cases z
      · rcases Classical.em (b = sysModules) with h | h
        · exact ⟨.inr h, by rw [h]; exact h1⟩
        · exact (z (of1 b h)).elim
    · exact main (fun _ => none) (fun _ => .inl rfl) (sqA o hk _) (fun b u z => (nomatch (show (none : Option HO) = some u from z))) (fun b z => (z rfl).elim) (.inl h1)
  | none =>
    rcases sysL with h1 | h1
    · let H1 : Hp := fun b => if b = sysModules then some (.frz oY (.own 0)) else if b = a then some (.frz { cls := .type "list", data := .seq vs.toArray } (.lst (ns.map V.int))) else none
      have at1 : H1 sysModules = some (.frz oY (.own 0)) := if_pos rfl
      have at2 : H1 a = some (.frz { cls := .type "list", data := .seq vs.toArray } (.lst (ns.map V.int))) := (if_neg aS).trans (if_pos rfl)
      have of1 : ∀ b, b ≠ sysModules → b ≠ a → H1 b = none := fun b h h' => (if_neg h).trans (if_neg h')
      refine main H1 (fun b => ?_) (.inl ⟨_, at2⟩) (fun b u z => ?_) (fun b z => ?_) (.inr ⟨_, _, _, _, at1, dY⟩)
      · rcases Classical.em (b = sysModules) with h | h
        · exact .inr ⟨_, _, by rw [h]; exact at1⟩
        · rcases Classical.em (b = a) with h' | h'
          · exact .inr ⟨_, _, by rw [h']; exact at2⟩
          · exact .inl (of1 b h h')
      · rcases Classical.em (b = sysModules) with h | h
        · rw [h] at z ⊢
          rw [at1] at z
          cases z
          exact okY H1
        · rcases Classical.em (b = a) with h' | h'
          · rw [h'] at z ⊢
            rw [at2] at z
            cases z
            exact okA H1
          · rw [of1 b h h'] at z
            cases z
      · rcases Classical.em (b = sysModules) with h | h
        · exact ⟨.inr h, by rw [h]; exact h1⟩
        · rcases Classical.em (b = a) with h' | h'
          · exact ⟨.inl h', by rw [h']; exact hk⟩
          · exact (z (of1 b h h')).elim
    · let H1 : Hp := fun b => if b = a then some (.frz { cls := .type "list", data := .seq vs.toArray } (.lst (ns.map V.int))) else none
      have at2 : H1 a = some (.frz { cls := .type "list", data := .seq vs.toArray } (.lst (ns.map V.int))) := if_pos rfl
      have of1 : ∀ b, b ≠ a → H1 b = none := fun b h => if_neg h
      refine main H1 (fun b => ?_) (.inl ⟨_, at2⟩) (fun b u z => ?_) (fun b z => ?_) (.inl h1)
      · rcases Classical.em (b = a) with h' | h'
        · exact .inr ⟨_, _, by rw [h']; exact at2⟩
        · exact .inl (of1 b h')
      · rcases Classical.em (b = a) with h' | h'
        · rw [h'] at z ⊢
          rw [at2] at z
          cases z
          exact okA H1
        · rw [of1 b h'] at z
          cases z
      · rcases Classical.em (b = a) with h' | h'
        · exact ⟨.inl h', by rw [h']; exact hk⟩
        · exact (z (of1 b h')).elim
end Q

namespace Q
open PySem PySem.Spec PyProof.Rows L2
variable [Gh : Ghost]
/-! ### a field is read, is set, a pair is changed: as first steps -/
section
variable {M : Model} {A : Around} {E : Value → Shared → Prop} {s : Shared} {β : Type} {R : β → Shared → Prop}
theorem rd {a : Addr} {o : Obj} {fl : Array Value} {i : Nat} {y : Value} {k : Value → Sem β} (e : s.heap.get? a = some o) (h : wpAny M A (k y) R E s) (dt : o.data = .fields fl := by rfl) (at' : fl[i]? = some y := by rfl) : wpAny M A (field (.ref a) i >>= k) R E s :=
  wpAny_bind (wpAny_field e dt at' h)
/-- an object of a class that keeps its state in fields -/
abbrev rec_ (c : Value) (fs : Array Value) : Obj := { cls := c, dict := none, data := .fields fs, slots := #[] }
variable {prog : Program} {w : World}
theorem wr {a : Addr} {c y : Value} {fs : Array Value} {i : Nat} {k : Unit → Sem β} (e : s.heap.get? a = some (rec_ c fs)) (lt : i < fs.size)
    (h : ∀ G, G.get? a = some (rec_ c (fs.setIfInBounds i y)) → Heap.SameBut a s.heap G → wpAny (model prog w) A (k ()) R E { s with heap := G }) : wpAny (model prog w) A (setField (.ref a) i y >>= k) R E s :=
  wpAny_bind (wpAny_setField_rec e lt h)
end
/-! ### iterators that other iterators draw from -/
structure Drw (P : Program) (w : World) (K : PySem.W.Frag) (J : It) (fp : List Addr) (it : Addr) (tn : Nat → Heap → Prop) : Prop where
  mem : it ∈ fp
  obj : ∀ n (G : Heap), tn n G → ∀ c ∈ fp, ∃ x, G.get? c = some x ∧ ∀ y, x.data ≠ .cell y
  keep : ∀ n (G G' : Heap), tn n G → (∀ c ∈ fp, ∀ x, G.get? c = some x → G'.get? c = some x) → tn n G'
  item : ∀ (X : Cx), X.prog = P → X.w = w → X.K = K → ∀ (A : Around) (i : Nat) (pins : List (Addr × Obj)) (s : Shared) (σ : L2.St) (H : Hp) (Q : Value → Shared → Prop) (E : Value → Shared → Prop), Inv X pins σ H s → (∀ b ∈ fp, FpOk X pins H b) → tn i s.heap → J.go i H →
    (∀ (u : Value) (v : V) (s' : Shared) (H' : Hp), Inv X pins σ H' s' → RelV v u → J.yld i H v H' → tn (i + 1) s'.heap → s.heap.objs.size ≤ s'.heap.objs.size → (∀ b, b < s.heap.objs.size → H b = none → H' b = none) → (∀ b o, b ∉ fp → s.heap.get? b = some o → s'.heap.get? b = some o) → Q u s') →
    wpAny (model P w) A (Builtin.SmallTypes.nextOf (.ref it)) Q E s
  done : ∀ (X : Cx), X.prog = P → X.w = w → X.K = K → ∀ (A : Around), A.handled = none → ∀ (i : Nat) (pins : List (Addr × Obj)) (s : Shared) (σ : L2.St) (H : Hp) (Q : Value → Shared → Prop) (E : Value → Shared → Prop), Inv X pins σ H s → (∀ b ∈ fp, FpOk X pins H b) → tn i s.heap → J.stop i H →
    (∀ (e : Addr) (s' : Shared), Inv X pins σ H s' → (∃ o, s'.heap.get? e = some o ∧ o.cls = .type "StopIteration") → (∀ b o, b ∉ fp → s.heap.get? b = some o → s'.heap.get? b = some o) → E (.ref e) s') →
    wpAny (model P w) A (Builtin.SmallTypes.nextOf (.ref it)) Q E s
theorem FpOk.to {X : Cx} {pins : List (Addr × Obj)} {H H' : Hp} {b : Addr} (h : FpOk X pins H b) (e : H' b = none) : FpOk X pins H' b := ⟨e, h.2⟩
section
variable {P : Program} {w : World} {K : PySem.W.Frag}
theorem drw_list (a it : Addr) : Drw P w K (Itl K a) [it] it (fun i h => h.IsListIter it a i) where
  mem := by simp
  obj := fun i h st b hb => by
    rw [List.mem_singleton.mp hb]
    obtain ⟨o, e, _, d⟩ := st
    exact ⟨o, e, fun v z => by rw [d] at z; cases z⟩
  keep := fun _ _ _ st k => st.at (k it (List.mem_singleton.mpr rfl))
  item := by
    intro X hP hw hK A i pins s σ H Q E I hf st hg hQ
    subst hP hw hK
    obtain ⟨xs, x, hq, hx⟩ := hg
    obtain ⟨its, rv, p, _⟩ := I.list hq
    obtain ⟨u, hu, ru⟩ := rv.get hx
    refine wpAny_nextOf_list_item st p.isList (x := u) (by simpa using hu) fun h' st' sb => ?_
    have I1 : Inv X pins σ H { s with heap := h' } := I.turnedL (t' := s.toks) (ch := [it]) (fun b o hb q => sb.extBut b o (by simpa using hb) q) hf
    exact hQ u x _ H I1 ru ⟨rfl, fun l hl => by rw [I.list_inj hl hq]; exact hx⟩ st' (Nat.le_of_eq sb.1.symm) (fun _ _ e => e) fun b o hb q => sb.extBut b o (by simpa using hb) q
  done := by
    intro X hP hw hK A hA i pins s σ H Q E I hf st hg hE
    subst hP hw hK
    obtain ⟨xs, hq, hl⟩ := hg
    obtain ⟨its, rv, p, _⟩ := I.list hq
    have l1 := rv.length
    refine wpAny_nextOf_list_end hA st p.isList (by simp; omega) fun h' e sb he => ?_
    exact hE e _ (I.turnedL (t' := s.toks) (ch := [it]) (fun b o hb q => sb b o (by simpa using hb) q) hf) he fun b o hb q => sb b o (by simpa using hb) q
theorem drw_tuple (a it : Addr) : Drw P w K (Itt K a) [it] it (fun i h => h.IsTupleIter it a i) where
  mem := by simp
  obj := fun i h st b hb => by
    rw [List.mem_singleton.mp hb]
    obtain ⟨o, e, _, d⟩ := st
    exact ⟨o, e, fun v z => by rw [d] at z; cases z⟩
  keep := fun _ _ _ st k => st.at (k it (List.mem_singleton.mpr rfl))
  item := by
    intro X hP hw hK A i pins s σ H Q E I hf st hg hQ
    subst hP hw hK
    obtain ⟨xs, x, hq, hx⟩ := hg
    obtain ⟨its, rv, p, _⟩ := I.tuple hq
    obtain ⟨u, hu, ru⟩ := rv.get hx
    refine RZ.nextOf_tuple_item st p (x := u) (by simpa using hu) fun h' st' sb => ?_
    have I1 : Inv X pins σ H { s with heap := h' } := I.turnedL (t' := s.toks) (ch := [it]) (fun b o hb q => sb.extBut b o (by simpa using hb) q) hf
    exact hQ u x _ H I1 ru ⟨rfl, fun l hl => by rw [I.tuple_inj hl hq]; exact hx⟩ st' (Nat.le_of_eq sb.1.symm) (fun _ _ e => e) fun b o hb q => sb.extBut b o (by simpa using hb) q
  done := by
    intro X hP hw hK A hA i pins s σ H Q E I hf st hg hE
    subst hP hw hK
    obtain ⟨xs, hq, hl⟩ := hg
    obtain ⟨its, rv, p, _⟩ := I.tuple hq
    have l1 := rv.length
    refine RZ.nextOf_tuple_end hA st p (by simp; omega) fun h' e sb he => ?_
    exact hE e _ (I.turnedL (t' := s.toks) (ch := [it]) (fun b o hb q => sb b o (by simpa using hb) q) hf) he fun b o hb q => sb b o (by simpa using hb) q
end
/-! ### what a zip or an enumerate remembers of the tuple it gave out -/
def outV : Option Addr → Value
  | none => .none
  | some T => rawInt T
abbrev IsZ (h : Heap) (z TI TO : Addr) (t : Option Addr) (f : Bool) : Prop :=
  h.get? z = some { cls := .type "zip", dict := none, data := .fields #[outV t, .bool f, .bool false, .ref TI, .ref TO], slots := #[] }
abbrev IsEn (h : Heap) (e it : Addr) (t : Option Addr) (f : Bool) (c : Int) (old : Value) : Prop :=
  h.get? e = some { cls := .type "enumerate", dict := none, data := .fields #[outV t, .bool f, .ref it, rawInt c, .none, old], slots := #[] }
section
variable {prog : Program} {w : World} {A : Around} {E : Value → Shared → Prop} {s : Shared}
/-- whether the tuple that was given out last is free again: the same question for both -/
theorem owned_free {a : Addr} {c : Value} {t : Option Addr} {f : Bool} {l : List Value} {Q : Bool → Shared → Prop} (hz : s.heap.get? a = some (rec_ c (outV t :: .bool f :: l).toArray))
    (h : ∀ (b f' : Bool) (G : Heap), G.get? a = some (rec_ c (outV t :: .bool f' :: l).toArray) → Heap.SameBut a s.heap G → Q b { s with heap := G }) : wpAny (model prog w) A (Builtin.SmallTypes.ownedTupleIsFree (.ref a)) Q E s := by
  have stay : ∀ b : Bool, wpAny (model prog w) A (pure b) Q E s := fun b => wpAny_pure (h b f s.heap hz (Heap.SameBut.refl _ _))
  unfold Builtin.SmallTypes.ownedTupleIsFree
  cases t with
  | none => exact rd hz (y := .none) (stay true)
  | some T =>
    refine rd hz (y := rawInt T) ?_
    show wpAny _ _ (loadIfAlive ((T : Int).toNat) >>= _) _ _ _
    rw [Int.toNat_natCast]
    refine wpAny_bind fun _ _ _ => ?_
    show wpAny (model prog w) A (if (s.heap.get? T).isNone = true then _ else _) Q E s
    by_cases gone : (s.heap.get? T).isNone = true
    · rw [if_pos gone]
      exact stay true
    · rw [if_neg gone]
      refine rd hz (y := .bool f) ?_
      cases f
      · exact wr hz (by simp) fun G g same => wpAny_pure (h false true G g same)
      · exact stay false
theorem enum_free {e it : Addr} {t : Option Addr} {f : Bool} {c : Int} {old : Value} {Q : Bool → Shared → Prop} (hz : IsEn s.heap e it t f c old)
    (h : ∀ (b f' : Bool) (h' : Heap), IsEn h' e it t f' c old → Heap.SameBut e s.heap h' → Q b { s with heap := h' }) : wpAny (model prog w) A (Builtin.SmallTypes.ownedTupleIsFree (.ref e)) Q E s :=
  owned_free (l := [.ref it, rawInt c, .none, old]) hz h
end

theorem enum_pyNext {P : Program} {w : World} {A : Around} {E : Value → Shared → Prop} {s : Shared} {e it : Addr} {t : Option Addr} {f : Bool} {c : Int} {old : Value} {Q : Option Value → Shared → Prop} (hz : IsEn s.heap e it t f c old)
    (h : ∀ A' : Around, A'.handled = A.handled → wpAny (model P w) A' (Builtin.«enumerate.__next__» ⟨[.ref e], []⟩) (fun fin s' => ∃ v, fin = .done (.ret v) ∧ Q (some v) s') (fun e s' => ∃ a, e = .ref a ∧ (∃ o, s'.heap.get? a = some o ∧ o.cls = .type "StopIteration") ∧ Q none s') s) : wpAny (model P w) A (pyNext (.ref e)) Q E s := by
  have hT : s.TypeIs (.ref e) "enumerate" := ⟨_, hz, rfl⟩
  unfold pyNext
  refine wpAny_bind (wpAny_attempt (wpAny_callSpecial?_slot (name := Str.ofString "__next__") hT F.slot_enumerate_next (wpAny_call_entry F.slot_enumerate_next hT F.entry_enumerate_next (wpAny_mono (h A.in1 rfl) (fun fin s' q => ?_) fun e s' q => ?_) (F.args_enumerate_next_1 _))))
  · obtain ⟨v, e, q⟩ := q
    exact ⟨v, e, wpAny_pure q⟩
  · obtain ⟨a, rfl, ⟨o, ho, hc⟩, q⟩ := q
    exact wpAny_bind (wpAny_isInstance (T := "StopIteration") (b := true) ⟨o, ho, hc⟩ isSubtype_stop (wpAny_pure q))
abbrev Flat (J : It) : Prop := ∀ i H v H', J.yld i H v H' → H' = H
def ItZ2 (J1 J2 : It) : It :=
  ⟨fun i H => J1.go i H ∧ J2.go i H, fun i H v H' => ∃ T x y H2, J1.yld i H x H ∧ J2.yld i H y H2 ∧ H2 T = none ∧ v = .ref T ∧ H' = upd H2 T (.tup [x, y]), fun i H => J1.stop i H ∨ (J1.go i H ∧ J2.stop i H)⟩
abbrev Zst2 (z TI TO i1 i2 : Addr) (tn1 tn2 : Nat → Heap → Prop) (i : Nat) (h : Heap) : Prop :=
  (∃ t f, IsZ h z TI TO t f) ∧ IsPair h TI (.ref i1) (.ref i2) ∧ (∃ a b, IsPair h TO a b) ∧ tn1 i h ∧ tn2 i h
section
variable {P : Program} {w : World} {K : PySem.W.Frag} {J1 J2 : It} {fp1 fp2 : List Addr} {z TI TO i1 i2 : Addr} {tn1 tn2 : Nat → Heap → Prop}
end
end Q

namespace Q
open PySem PySem.Spec PyProof.Rows L2
variable [Gh : Ghost]
section
variable {P : Program} {w : World} {K : PySem.W.Frag} {J J1 J2 : It} {fp fp1 fp2 : List Addr} {z TI TO i1 i2 e it : Addr} {tn tn1 tn2 : Nat → Heap → Prop}
/-! ### enumerate -/
def ItEn (c : Int) (J : It) : It :=
  ⟨J.go, fun i H v H' => ∃ T x H2, J.yld i H x H2 ∧ H2 T = none ∧ v = .ref T ∧ H' = upd H2 T (.tup [.int (c + (i : Nat)), x]), J.stop⟩
abbrev Est (e it : Addr) (c : Int) (tn : Nat → Heap → Prop) (i : Nat) (h : Heap) : Prop := (∃ t f old, IsEn h e it t f (c + (i : Nat)) old) ∧ tn i h
theorem enum_step {c : Int} (D : Drw P w K J fp it tn) (ne : e ∉ fp) {X : Cx} (hP : X.prog = P) (hw : X.w = w) (hK : X.K = K) {A : Around} {i : Nat} {pins : List (Addr × Obj)} {s : Shared} {σ : L2.St} {H : Hp} {Q : Value → Shared → Prop} {E : Value → Shared → Prop}
    (I : Inv X pins σ H s) (hf : ∀ b ∈ e :: fp, FpOk X pins H b) (st : Est e it c tn i s.heap) (g : J.go i H)
    (hQ : ∀ (T : Addr) (v : V) (s' : Shared) (H' : Hp), v = .ref T → Inv X pins σ H' s' → (ItEn c J).yld i H v H' → Est e it c tn (i + 1) s'.heap → s.heap.objs.size ≤ s'.heap.objs.size → (∀ b, b < s.heap.objs.size → H b = none → H' b = none) → (∀ b o, b ∉ e :: fp → s.heap.get? b = some o → s'.heap.get? b = some o) → Q (.ref T) s') :
    wpAny (model P w) A (Builtin.«enumerate.__next__» ⟨[.ref e], []⟩) (fun fin s' => ∃ v, fin = .done (.ret v) ∧ Q v s') E s := by
  obtain ⟨⟨t, f, old, he⟩, hs⟩ := st
  have fe : FpOk X pins H e := hf e (by simp)
  have le : e < s.heap.objs.size := Heap.lt_size he
  show wpAny _ _ (field (.ref e) 2 >>= _) _ _ _
  refine rd he (y := .ref it) ?_
  refine wpAny_bind (D.item X hP hw hK _ i pins _ σ H _ _ I (fun b hb => hf b (by simp [hb])) hs g fun u v s1 H1 I1 r1 y1 n1 z1 fr1 k1 => ?_)
  obtain ⟨hp1, g1, d1, tk1, os1⟩ := s1
  have he₁ := k1 _ _ ne he
  show wpAny _ _ (field (.ref e) 3 >>= _) _ _ _
  refine rd he₁ (y := rawInt (c + (i : Nat))) ?_
  show wpAny _ _ (field (.ref e) 4 >>= _) _ _ _
  refine rd he₁ (y := .none) ?_
  show wpAny _ _ (mkInt (c + (i : Nat)) >>= _) _ _ _
  refine wpAny_bind (wpAny_mkInt ?_)
  show wpAny _ _ (setField (.ref e) 3 (rawInt (c + (i : Nat) + 1)) >>= _) _ _ ⟨hp1, g1, d1, tk1 + 1, os1⟩
  refine wr he₁ (by simp) fun h₂ he₂ hs₂ => ?_
  replace hs₂ : Heap.SameBut e hp1 h₂ := hs₂
  replace he₂ : IsEn h₂ e it t f (c + (i : Nat) + 1) old := he₂
  show wpAny _ _ (setField (.ref e) 4 .none >>= _) _ _ ⟨h₂, g1, d1, tk1 + 1, os1⟩
  refine wr he₂ (by simp) fun h₃ he₃ hs₃ => ?_
  replace hs₃ : Heap.SameBut e h₂ h₃ := hs₃
  replace he₃ : IsEn h₃ e it t f (c + (i : Nat) + 1) old := he₃
  show wpAny _ _ (newTuple [.int (c + (i : Nat)) tk1, u] >>= _) _ _ ⟨h₃, g1, d1, tk1 + 1, os1⟩
  refine wpAny_bind (wpAny_newTuple ?_)
  have sz₃ : h₃.objs.size = hp1.objs.size := by rw [hs₃.1, hs₂.1]
  have hT₄ : (h₃.push { cls := .type "tuple", data := .seq #[.int (c + (i : Nat)) tk1, u] }).get? h₃.objs.size = some { cls := .type "tuple", data := .seq #[.int (c + (i : Nat)) tk1, u] } := Heap.get?_push_size _ rfl
  have he₄ : IsEn (h₃.push { cls := .type "tuple", data := .seq #[.int (c + (i : Nat)) tk1, u] }) e it t f (c + (i : Nat) + 1) old := Heap.get?_push_of_some _ he₃
  have z1 : s.heap.objs.size ≤ hp1.objs.size := z1
  have le₃ : e < h₃.objs.size := by rw [sz₃]; exact Nat.lt_of_lt_of_le le z1
  have sz₄ : (h₃.push { cls := .type "tuple", data := .seq #[.int (c + (i : Nat)) tk1, u] }).objs.size = h₃.objs.size + 1 := Heap.size_push ..
  have up4 : ∀ b o, b ≠ e → hp1.get? b = some o → (h₃.push { cls := .type "tuple", data := .seq #[.int (c + (i : Nat)) tk1, u] }).get? b = some o := fun b o hb q => Heap.get?_push_of_some _ (hs₃.extBut b o hb (hs₂.extBut b o hb q))
  generalize hh : h₃.push { cls := .type "tuple", data := .seq #[.int (c + (i : Nat)) tk1, u] } = h₄ at he₄ hT₄ up4 sz₄
  have fin : ∀ (h₈ : Heap) (t8 : Option Addr) (f8 : Bool) (old8 : Value), IsEn h₈ e it t8 f8 (c + (i : Nat) + 1) old8 → h₈.objs.size = h₄.objs.size → (∀ b o, b ≠ e → h₄.get? b = some o → h₈.get? b = some o) → Q (.ref h₃.objs.size) ⟨h₈, g1, d1, tk1 + 1, os1⟩ := by
    intro h₈ t8 f8 old8 he8 sz8 up8
    have hT : h₈.get? h₃.objs.size = some { cls := .type "tuple", data := .seq #[.int (c + (i : Nat)) tk1, u] } := up8 _ _ (Nat.ne_of_gt le₃) hT₄
    have new : ObjOk X.prog X.w (upd H1 h₃.objs.size (.tup [.int (c + (i : Nat)), v])) h₈ h₃.objs.size (.tup [.int (c + (i : Nat)), v]) :=
      ⟨by show 2 ≤ sizeLine; decide, [.int (c + (i : Nat)) tk1, u], .cons ⟨_, rfl⟩ (.cons r1 .nil), ⟨_, hT, rfl, _, rfl⟩⟩
    have lt1 : hp1.objs.size ≤ h₃.objs.size := by rw [sz₃]; exact Nat.le_refl _
    have I8 := I1.turnedNew (t' := tk1 + 1) (h' := h₈) (ch := [e]) (fun b o hb q => up8 b o (by simpa using hb) (up4 b o (by simpa using hb) q)) (fun b hb => by rw [List.mem_singleton.mp hb]; exact FpOk.to fe (fr1 _ le fe.1)) lt1 new
    refine hQ h₃.objs.size _ _ _ rfl I8 ⟨_, v, H1, y1, I1.hok.fresh lt1, rfl, rfl⟩ ⟨⟨t8, f8, old8, ?_⟩, ?_⟩ ?_ (fun b hb hn => ?_) fun b o hb q => ?_
    · have e1 : c + ((i + 1 : Nat) : Int) = c + (i : Nat) + 1 := by omega
      rw [e1]
      exact he8
    · exact D.keep _ _ _ n1 fun b hb o q => up8 b o (fun z => ne (z ▸ hb)) (up4 b o (fun z => ne (z ▸ hb)) q)
    · show s.heap.objs.size ≤ h₈.objs.size
      rw [sz8, sz₄, sz₃]
      exact Nat.le_succ_of_le z1
    · rw [upd_ne (Nat.ne_of_lt (Nat.lt_of_lt_of_le hb (by rw [sz₃]; exact z1)))]
      exact fr1 b hb hn
    · have hb : b ≠ e ∧ b ∉ fp := by simpa using hb
      exact up8 b o hb.1 (up4 b o hb.1 (k1 b o hb.2 q))
  show wpAny _ _ (Builtin.SmallTypes.ownedTupleIsFree (.ref e) >>= _) _ _ ⟨h₄, g1, d1, tk1 + 1, os1⟩
  refine wpAny_bind (enum_free (s := ⟨h₄, g1, d1, tk1 + 1, os1⟩) he₄ fun fr f' h₅ he₅ hs₅ => ?_)
  replace hs₅ : Heap.SameBut e h₄ h₅ := hs₅
  cases fr with
  | false =>
    simp only [Bool.false_eq_true, if_false]
    exact wpAny_pure ⟨_, rfl, fin h₅ _ _ _ he₅ hs₅.1 fun b o hb q => hs₅.extBut b o hb q⟩
  | true =>
    simp only [if_true]
    refine wpAny_bind (wpAny_rule ?_)
    refine rd he₅ (y := old) ?_
    refine wr he₅ (by simp) fun h₆ he₆ hs₆ => ?_
    replace hs₆ : Heap.SameBut e h₅ h₆ := hs₆
    replace he₆ : IsEn h₆ e it t f' (c + (i : Nat) + 1) u := he₆
    show wpAny _ _ (Builtin.SmallTypes.ownedTupleHandOut (.ref e) (.ref h₃.objs.size) >>= _) _ _ ⟨h₆, g1, d1, tk1 + 1, os1⟩
    refine wpAny_bind ?_
    unfold Builtin.SmallTypes.ownedTupleHandOut
    refine wr he₆ (by simp) fun h₇ he₇ hs₇ => ?_
    replace hs₇ : Heap.SameBut e h₆ h₇ := hs₇
    replace he₇ : IsEn h₇ e it (some h₃.objs.size) f' (c + (i : Nat) + 1) u := he₇
    refine wpAny_setField_rec he₇ (by simp) fun h₈ he₈ hs₈ => ?_
    replace hs₈ : Heap.SameBut e h₇ h₈ := hs₈
    replace he₈ : IsEn h₈ e it (some h₃.objs.size) false (c + (i : Nat) + 1) u := he₈
    exact wpAny_bind (wpAny_letGo (wpAny_pure ⟨_, rfl, fin h₈ _ _ _ he₈ (by rw [hs₈.1, hs₇.1, hs₆.1, hs₅.1]) fun b o hb q => hs₈.extBut b o hb (hs₇.extBut b o hb (hs₆.extBut b o hb (hs₅.extBut b o hb q)))⟩))
theorem enum_stop {c : Int} (D : Drw P w K J fp it tn) {X : Cx} (hP : X.prog = P) (hw : X.w = w) (hK : X.K = K) {A : Around} (hA : A.handled = none) {i : Nat} {pins : List (Addr × Obj)} {s : Shared} {σ : L2.St} {H : Hp} {Q : Fin → Shared → Prop} {E : Value → Shared → Prop}
    (I : Inv X pins σ H s) (hf : ∀ b ∈ e :: fp, FpOk X pins H b) (st : Est e it c tn i s.heap) (g : J.stop i H)
    (hE : ∀ (e : Addr) (s' : Shared), Inv X pins σ H s' → (∃ o, s'.heap.get? e = some o ∧ o.cls = .type "StopIteration") → E (.ref e) s') :
    wpAny (model P w) A (Builtin.«enumerate.__next__» ⟨[.ref e], []⟩) Q E s := by
  obtain ⟨⟨t, f, old, he⟩, hs⟩ := st
  show wpAny _ _ (field (.ref e) 2 >>= _) _ _ _
  refine rd he (y := .ref it) ?_
  exact wpAny_bind (D.done X hP hw hK _ hA i pins _ σ H _ _ I (fun b hb => hf b (by simp [hb])) hs g fun x s' I' hx _ => hE x s' I' hx)
end
end Q

namespace Q
open PySem PySem.Spec PyProof.Rows L2
variable [Gh : Ghost]
section
variable {prog : Program} {w : World} {A : Around} {E : Value → Shared → Prop} {s : Shared}
theorem go_enum {tg : Expr} {e it u : Addr} {t : Option Addr} {f : Bool} {c : Int} {old : Value} {Q : Unit → Shared → Prop} (hz : IsEn s.heap e it t f c old)
    (h : ∀ t' h', IsEn h' e it t' f c old → Heap.SameBut e s.heap h' → Q () { s with heap := h' }) : wpAny (model prog w) A (letOwnedTupleGo tg (.ref e) (.ref u)) Q E s := by
  have main : wpAny (model prog w) A (do
      let o ← load e
      match o.cls, o.data with
      | .type n, .fields vs =>
        if ["enumerate", "zip", "dict_itemiterator", "dict_reverseitemiterator", "odict_iterator", "itertools.zip_longest", "itertools.pairwise"].contains n && vs[0]? == some (rawInt u) then
          rule "for.unpacks-the-owned-tuple"
          updateField e 0 .none
      | _, _ => pure ()) Q E s := by
    refine wpAny_bind (wpAny_load hz ?_)
    refine wpAny_ite ?_
    split
    · refine wpAny_bind (wpAny_rule ?_)
      show wpAny _ A (setField (.ref e) 0 .none) Q E s
      exact wpAny_setField_rec hz (by simp) fun h' q1 q2 => h none h' q1 q2
    · exact wpAny_pure (h t s.heap hz (Heap.SameBut.refl _ _))
  unfold letOwnedTupleGo
  cases tg <;> first
    | exact wpAny_pure (h t s.heap hz (Heap.SameBut.refl _ _))
    | exact main
theorem enum_iter {e it : Addr} {t : Option Addr} {f : Bool} {c : Int} {old : Value} {Q : Value → Shared → Prop} (hz : IsEn s.heap e it t f c old) (h : Q (.ref e) s) : wpAny (model prog w) A (pyIter (.ref e)) Q E s := by
  have hT : s.TypeIs (.ref e) "enumerate" := ⟨_, hz, rfl⟩
  refine wpAny_pyIter_slot hT F.slot_enumerate_iter (wpAny_call_entry F.slot_enumerate_iter hT F.entry_enumerate_iter ?_ (F.args_enumerate_iter_1 _))
  show wpAny _ _ (ret (.ref e)) _ _ s
  exact wpAny_pure ⟨_, rfl, "enumerate", _, hT, F.slot_enumerate_next.lookup, h⟩
end
section
variable {P : Program} {w : World} {K : PySem.W.Frag} {J J1 J2 : It} {fp fp1 fp2 : List Addr} {z TI TO i1 i2 e it : Addr} {tn tn1 tn2 : Nat → Heap → Prop}
theorem Zst2.keep {i : Nat} {h h' : Heap} (D1 : Drw P w K J1 fp1 i1 tn1) (D2 : Drw P w K J2 fp2 i2 tn2) (st : Zst2 z TI TO i1 i2 tn1 tn2 i h) (k : ∀ b ∈ z :: TI :: TO :: (fp1 ++ fp2), ∀ o, h.get? b = some o → h'.get? b = some o) : Zst2 z TI TO i1 i2 tn1 tn2 i h' := by
  obtain ⟨⟨t, f, hz⟩, hTI, ⟨a, b, hTO⟩, st1, st2⟩ := st
  exact ⟨⟨t, f, k _ (by simp) _ hz⟩, k _ (by simp) _ hTI, ⟨a, b, k _ (by simp) _ hTO⟩, D1.keep i _ _ st1 fun c hc o q => k c (by simp [hc]) o q, D2.keep i _ _ st2 fun c hc o q => k c (by simp [hc]) o q⟩
theorem Zst2.obj {i : Nat} {h : Heap} (D1 : Drw P w K J1 fp1 i1 tn1) (D2 : Drw P w K J2 fp2 i2 tn2) (st : Zst2 z TI TO i1 i2 tn1 tn2 i h) : ∀ b ∈ z :: TI :: TO :: (fp1 ++ fp2), ∃ o, h.get? b = some o ∧ ∀ v, o.data ≠ .cell v := by
  obtain ⟨⟨t, f, hz⟩, hTI, ⟨a, c, hTO⟩, st1, st2⟩ := st
  intro b hb
  have hb : b = z ∨ b = TI ∨ b = TO ∨ b ∈ fp1 ∨ b ∈ fp2 := by simpa using hb
  rcases hb with q | q | q | q | q
  · rw [q]; exact ⟨_, hz, fun v q => nomatch q⟩
  · rw [q]; exact ⟨_, hTI, fun v q => nomatch q⟩
  · rw [q]; exact ⟨_, hTO, fun v q => nomatch q⟩
  · exact D1.obj i h st1 b q
  · exact D2.obj i h st2 b q
theorem turn_enu {tg : Expr} {c : Int} (D : Drw P w K J fp it tn) (ne : e ∉ fp) : Turn P w K tg (ItEn c J) (e :: fp) e (Est e it c tn) where
  mem := by simp
  obj := fun i h st b hb => by
    obtain ⟨⟨t, f, old, he⟩, hs⟩ := st
    rcases List.mem_cons.mp hb with q | q
    · rw [q]; exact ⟨_, he, fun v q => nomatch q⟩
    · exact D.obj i h hs b q
  keep := fun i h h' st k => by
    obtain ⟨⟨t, f, old, he⟩, hs⟩ := st
    exact ⟨⟨t, f, old, k _ (by simp) _ he⟩, D.keep i _ _ hs fun c hc o q => k c (by simp [hc]) o q⟩
  item := by
    intro X hP hw hK hc i pins s σ H E I hf st hg
    obtain ⟨t, f, old, hz⟩ := st.1
    refine enum_pyNext hz fun A' _ => enum_step D ne hP hw hK I hf st hg fun T v s' H' ev I' y st' sz fr k => ⟨_, rfl, ?_⟩
    have hlt : ∀ b ∈ e :: fp, b < s.heap.objs.size := fun b hb => by
      rcases List.mem_cons.mp hb with q | q
      · rw [q]; exact Heap.lt_size hz
      · obtain ⟨_, q, _⟩ := D.obj i _ st.2 b q; exact Heap.lt_size q
    obtain ⟨⟨t', f', old', hz'⟩, hs'⟩ := st'
    have fz : FpOk X pins H' e := FpOk.to (hf e (by simp)) (fr e (hlt e (by simp)) (hf e (by simp)).1)
    refine go_enum hz' fun t'' h'' hz'' sb => ⟨v, H', I'.turnedL (t' := s'.toks) (ch := [e]) (fun c o hc q => sb.extBut c o (by simpa using hc) q) (fun c hc => by rw [List.mem_singleton.mp hc]; exact fz), by rw [ev]; rfl, y, ⟨⟨t'', f', old', hz''⟩, ?_⟩, fun b hb => fr b (hlt b hb) (hf b hb).1⟩
    exact D.keep _ _ _ hs' fun c hc o q => sb.extBut c o (fun q => ne (q ▸ hc)) q
  done := by
    intro X hP hw hK hc i pins s σ H E I hf st hg
    subst hP hw hK
    obtain ⟨t, f, old, hz⟩ := st.1
    exact enum_pyNext hz fun A' hA' => enum_stop D rfl rfl rfl (hA'.trans (I.ok.hd hc)) I hf st hg fun x s' I' he => ⟨x, rfl, he, rfl, I'⟩
  self := fun A i s Q E st h => let ⟨_, _, _, hz⟩ := st.1; enum_iter hz h
/-! ### the items of such a walk -/
variable {r : List Addr} {H : Hp} {m m1 m2 : MI}
theorem WkR.zip2 (k1 : WkR K r H m1 J1) (k2 : WkR K r H m2 J2) (fl : Flat J1) : WkR K r H (.zip2 m1 m2) (ItZ2 J1 J2) := by
  intro r' H' S i s o
  obtain ⟨a1, a2⟩ := k1 r' H' S i s o
  obtain ⟨b1, b2⟩ := k2 r' H' S i s o
  unfold nextM
  cases q1 : nextM m1 i S with
  | none => exact ⟨fun z => (nomatch z), fun _ z => (nomatch z)⟩
  | some od =>
    cases od with
    | none => exact ⟨fun _ => .inl (a1 q1), fun _ z => (nomatch z)⟩
    | some d =>
      obtain ⟨g1, y1⟩ := a2 d q1
      cases q2 : nextM m2 i S with
      | none => exact ⟨fun z => (nomatch z), fun _ z => (nomatch z)⟩
      | some oe =>
        cases oe with
        | none => exact ⟨fun _ => .inr ⟨g1, b1 q2⟩, fun _ z => (nomatch z)⟩
        | some e =>
          obtain ⟨g2, y2⟩ := b2 e q2
          refine ⟨fun z => (nomatch z), fun f z => ⟨⟨g1, g2⟩, fun x H2 y => ?_⟩⟩
          cases z
          obtain ⟨T, x1, x2, H3, u1, u2, hT, rfl, rfl⟩ := y
          have e1 := fl _ _ _ _ u1
          obtain ⟨_, _, v1⟩ := y1 x1 H' u1
          obtain ⟨s3, o3, v2⟩ := y2 x2 H3 u2
          exact ⟨s3.trans (Stp.loose hT), o3.loose hT, T, [x1, x2], rfl, upd_same, x1, [x2], rfl, (v1.mono s3).mono (Stp.loose hT), x2, [], rfl, v2.mono (Stp.loose hT), rfl⟩
theorem WkR.enu {c : Int} (k : WkR K r H m J) : WkR K r H (.enu c m) (ItEn c J) := by
  intro r' H' S i s o
  obtain ⟨a1, a2⟩ := k r' H' S i s o
  unfold nextM
  cases q1 : nextM m i S with
  | none => exact ⟨fun z => (nomatch z), fun _ z => (nomatch z)⟩
  | some od =>
    cases od with
    | none => exact ⟨fun _ => a1 q1, fun _ z => (nomatch z)⟩
    | some d =>
      obtain ⟨g1, y1⟩ := a2 d q1
      refine ⟨fun z => (nomatch z), fun f z => ⟨g1, fun x H2 y => ?_⟩⟩
      cases z
      obtain ⟨T, x1, H3, u1, hT, rfl, rfl⟩ := y
      obtain ⟨s3, o3, v1⟩ := y1 x1 H3 u1
      exact ⟨s3.trans (Stp.loose hT), o3.loose hT, T, [.int (c + (i : Nat)), x1], rfl, upd_same, .int (c + (i : Nat)), [x1], rfl, rfl, x1, [], rfl, v1.mono (Stp.loose hT), rfl⟩
end
end Q

namespace Q
open PySem PySem.Spec PyProof.Rows L2
variable [Gh : Ghost]
open PySem.Sem (wp)
/-! ### a zip, an enumerate begins -/
set_option maxHeartbeats 1000000 in
theorem meets_enum_obj {v : Value} {o : Obj} {Hc : Heap → Prop} (B : Begins v o Hc) :
    Meets (Builtin.«enumerate.__new__» ⟨[.type "enumerate", v], []⟩) (fun _ R s => Hc s.heap ∧ R (.ok (.ret (.ref (s.heap.push o).objs.size))) { s with heap := (s.heap.push o).push { cls := .type "enumerate", data := .fields #[.none, .bool false, .ref s.heap.objs.size, rawInt 0, .none, .none] } }) :=
  .of_wp fun prog w A R s h => by
    obtain ⟨hp, g, d, tk, os⟩ := s; obtain ⟨h1, h⟩ := h
    have hsub := sub_enumerate
    have q1 : ∀ {A' : Around} {E : Value → Shared → Prop} {Q : Value → Shared → Prop}, Q (.ref hp.objs.size) ⟨hp.push o, g, d, tk, os⟩ → wpAny (model prog w) A' (pyIter v) Q E ⟨hp, g, d, tk, os⟩ := fun q => B.iter prog w _ _ ⟨hp, g, d, tk, os⟩ _ h1 q
    wp_walk using q1
    refine wpAny_stack_any fun st => wpAny_pure ?_
    split
    · rename_i c _ _ _ _ _
      cases (c == Value.type "enumerate")
      · wp_walk using q1
        exact ⟨_, rfl, h⟩
      · wp_walk using q1
        exact ⟨_, rfl, h⟩
    · wp_walk using q1
      exact ⟨_, rfl, h⟩
section
variable {prog : Program} {w : World} {A : Around} {E : Value → Shared → Prop} {s : Shared}
theorem call_enum_obj {v : Value} {o : Obj} {Hc : Heap → Prop} {Q : Value → Shared → Prop} (B : Begins v o Hc) (h1 : Hc s.heap)
    (h : ∀ h', IsEn h' (s.heap.objs.size + 1) s.heap.objs.size none false 0 .none → h'.get? s.heap.objs.size = some o → (∀ b o, s.heap.get? b = some o → h'.get? b = some o) → Q (.ref (s.heap.objs.size + 1)) { s with heap := h' }) : wpAny (model prog w) A (call (.type "enumerate") [v]) Q E s := by
  refine callType_new F.called_enumerate (by decide) (F.typeCall_enumerate_1 _) (F.newCall_enumerate_1 _) (fun obj => F.args_object_init_2 obj _) F.entry_enumerate_new (meets_enum_obj B) ⟨h1, ?_⟩
  have hz : (s.heap.push o).objs.size = s.heap.objs.size + 1 := Heap.size_push ..
  have g : IsEn ((s.heap.push o).push { cls := .type "enumerate", data := .fields #[.none, .bool false, .ref s.heap.objs.size, rawInt 0, .none, .none] }) (s.heap.push o).objs.size s.heap.objs.size none false 0 .none := Heap.get?_push_size _ rfl
  show _ ∧ _
  rw [hz] at g ⊢
  exact ⟨⟨_, g, rfl⟩, h _ g (Heap.get?_push_of_some _ (Heap.get?_push_size _ B.free)) fun b o q => Heap.get?_push_of_some _ (Heap.get?_push_of_some _ q)⟩
end
/-- a list or a tuple that is going to be drawn from -/
structure Src (X : Cx) (r : List Addr) (H : Hp) (mi : MI) (u : Value) (h : Heap) : Prop where
  ex : ∃ (ob : Obj) (Hc : Heap → Prop) (J : It), Begins u ob Hc ∧ Hc h ∧ WkR X.K r H mi J ∧ Flat J ∧ ∀ it : Addr, ∃ tn, Drw X.prog X.w X.K J [it] it tn ∧ ∀ h' : Heap, h'.get? it = some ob → tn 0 h'
section
variable {X : Cx} {pins : List (Addr × Obj)} {σ : L2.St} {r : List Addr} {H : Hp} {s : Shared} {S : Store}
theorem src_of {d : D} {x : V} {u : Value} {mi : MI} (I : Inv X pins σ H s) (o : ROk X.K r H S) (k : VR X.K r H d x) (rv : RelV x u) (e : itD d S = some mi) : Src X r H mi u s.heap := by
  have lists : ∀ (a : Addr) (vs : List V), SqL X.K H a vs → u = .ref a → WkR X.K r H mi (Itl X.K a) → Src X r H mi u s.heap := fun a vs hs eu wk => by
    subst eu
    obtain ⟨its, rvv, p, hz⟩ := I.list hs
    exact ⟨_, _, Itl X.K a, begins_list a its.toArray, p.isList, wk, fun i H v H' y => y.1, fun it => ⟨_, drw_list a it, fun h' q => ⟨_, q, rfl, rfl⟩⟩⟩
  cases d with
  | tup xs =>
    cases e
    obtain ⟨p, vs, rfl, hs, hv⟩ := k
    cases rv
    obtain ⟨its, rvv, q, hz⟩ := I.tuple (sqT_of hs)
    exact ⟨_, _, Itt X.K p, begins_tuple p its.toArray, q, wk_tup (sqT_of hs) hv, fun i H v H' y => y.1, fun it => ⟨_, drw_tuple p it, fun h' q => ⟨_, q, rfl, rfl⟩⟩⟩
  | kl xs =>
    cases e
    obtain ⟨p, vs, rfl, hs, hv⟩ := k
    cases rv
    exact lists p vs hs.l rfl (wk_kl hs hv)
  | ref n =>
    obtain ⟨p, hp, rfl⟩ := k
    unfold itD at e
    dsimp only at e
    cases q : S[n]? with
    | none => rw [q] at e; cases e
    | some ob =>
      rw [q] at e
      have ho := o.ob n ob p q hp
      cases rv
      cases ob with
      | lst xs => cases e; obtain ⟨vs, h1, h2⟩ := ho; exact lists p vs (.of h1) rfl (wk_lst hp)
      | _ => cases e
  | _ => cases e
theorem fresh_ok {H1 : Hp} (I : Inv X pins σ H1 s) {fp : List Addr} (h : ∀ c ∈ fp, s.heap.objs.size ≤ c) : ∀ b ∈ fp, FpOk X pins H1 b := fun b hb => I.fpOk (h b hb) (I.hok.fresh (h b hb))
end
section
variable {X : Cx} {k : Nat} {a b : Expr} {tg : Expr} {m : MA} {ma : ME} {p pos p2 pos2 : Pos}
def mIt (m : MA) (f : List D → Store → Option MI) : MIt := fun en S => (m en S).bind fun ds S1 => match f ds S1 with
  | some i => .ok i S1
  | none => .bad
def enuD (c : Int) (ds : List D) (S : Store) : Option MI := match ds with
  | [d] => (itD d S).map fun x => .enu c x
  | _ => none
theorem i_enum (hg : Gl X "enumerate") (hm : X.mg "enumerate" = none) (ha : SndA X [a] m) (hs : starEach [a] X.env = [(false, eval a X.env)] := by rfl) :
    SndI X tg (.Call (.Name "enumerate" p) [a] [] pos) (mIt m (enuD 0)) := by
  refine ⟨?_⟩
  intro W tk en σ r H S R er ro dn pins s I
  have args := ha.run W tk en σ r H S _ er ro (Dn.bind dn) pos pins s I
  refine Call_ (ld_blt I hg hm boot_enumerate (PyProof.Rows.callWith_type1 (thn args ?_) hs rfl))
  rintro us s1 ⟨vs, H1, I1, rv, ds, S1, r1, e1, st1, o1, k1, d1⟩
  match ds, k1, d1 with
  | [d], k1, d1 =>
    obtain ⟨v, rfl, k2⟩ := k1.one_inv
    cases rv with
    | cons rr rv =>
      cases rv
      unfold enuD at d1
      dsimp only at d1
      cases q1 : itD d S1 with
      | none => rw [q1] at d1; exact d1.elim
      | some x =>
        rw [q1] at d1
        obtain ⟨ob, Hc, J, B, b1, wk, fl, dr⟩ := (src_of I1 o1 k2 rr q1).ex
        refine call_enum_obj B b1 fun h' he hit hk => enum_iter he ?_
        obtain ⟨tn, Dr, t0⟩ := dr s1.heap.objs.size
        have I2 : Inv X pins σ H1 { s1 with heap := h' } := I1.kept (t' := s1.toks) hk
        refine ⟨s1.heap.objs.size + 1, [s1.heap.objs.size + 1, s1.heap.objs.size], _, ItEn 0 J, H1, rfl, I2, turn_enu (c := 0) Dr (by simp), ⟨⟨_, _, _, he⟩, t0 h' hit⟩, fresh_ok I1 fun c hc => ?_, Dn.ok_here (R := WkR X.K) (a := .enu 0 x) d1 o1 wk.enu⟩
        have hc : c = s1.heap.objs.size + 1 ∨ c = s1.heap.objs.size := by simpa using hc
        rcases hc with q | q <;> rw [q] <;> omega
  | [], _, d1 => exact d1.elim
  | _ :: _ :: _, k1, d1 => exact d1.elim
end
end Q

namespace Q
open PySem PySem.Spec PyProof.Rows L2
variable [Gh : Ghost] [Gr : Grd]
section
variable {X : Cx} {k : Nat} {a b o i value : Expr} {ma mb mo mv mi : ME} {pos pos' : Pos}
/-! ### o[i] of a list, a tuple, a text, a dict -/
def rDg : R2 := fun x y H Q => ∃ a v, x = .ref a ∧ DGet H a y (some v) ∧ Q v H
theorem ix_dict (hu : X.A.units + 1 < cLine) : IxR X rDg := by
  intro value slice pins s σ H x y v u Q I rx ry h hs
  obtain ⟨a, z, rfl, g, q⟩ := h
  cases rx
  have hT := dict_typeIs I g
  have get := d_getItem (A := X.A) (E := X.xe) (Q := EP X pins σ Q) hu I g ry fun w' s3 I3 rw' => ⟨z, H, I3, rw', q⟩
  unfold subscriptTail
  refine wpAny_bind ?_
  rw [getitemInPython_of_ne hT.not_modules]
  refine wpAny_bind (wpAny_specialOf hT PySem.F.slot_dict_getitem.lookup ?_)
  have last : wpAny (model X.prog X.w) X.A (subscripted slice false (.ref a) u) (fun r s₃ => wpAny (model X.prog X.w) X.A (letTemporaryGo value (.ref a) r >>= fun _ => pure r) (EP X pins σ Q) X.xe s₃) X.xe s := by
    rw [hs]
    exact wpAny_operating (wpAny_mono get (fun r s₃ h₃ => wpAny_bind (wpAny_letTemporaryGo (wpAny_pure h₃))) fun _ _ x => x)
  first
    | exact wpAny_pure (wpAny_bind last)
    | exact wpAny_bind (wpAny_pure (wpAny_bind last))
    | exact wpAny_bind last
def subD (d e : D) (S : Store) : Option D := match dctD d S with
  | some kvs => (keyD e).bind fun q => lookK kvs q
  | none => itemD d e S
def gSubs : G2 := fun d e S => (subD d e S).map fun z => (z, S)
theorem e_sub (g : Gd X k) (ha : SndE X a ma) (hb : SndE X b mb) (hs : PlainIx b := by intro _ _; rfl) : SndE X (.Subscript a b pos) (m2 gSubs ma mb) := by
  refine ⟨?_⟩
  intro W tk en σ r H S Q er ro dn
  refine wE_of (pe_ix (ix_seq.or (ix_dict (by have := g.room.un; omega))) (pe_wE X a) (pe_wE X b) hs) (two ha hb (fun d e z x y r H S S' g1 k1 k2 o ed => ?_) tk er ro dn)
  obtain ⟨z', h1, h2⟩ := Option.map_eq_some_iff.mp g1
  cases h2
  unfold subD at h1
  cases q : dctD d S with
  | none => rw [q] at h1; exact .inl (itemD_ok o k1 k2 h1 fun v kv => ed.flat o kv)
  | some kvs =>
    rw [q] at h1
    obtain ⟨ky, h2, h3⟩ := Option.bind_eq_some_iff.mp h1
    obtain ⟨n, p, vs, rfl, _, rfl, hp, _, hv⟩ := dctD_ok o k1 q
    have hl := hv.look ky
    rw [h3] at hl
    obtain ⟨v, h4, h5⟩ := hl
    rw [keyD_ok h2 k2]
    exact .inr ⟨p, v, rfl, by rw [← h4]; exact DGet.k hp, ed.flat o h5⟩
/-! ### o[i] = v of a list, a dict -/
def storD (d e z : D) (S : Store) : Option Store := match d with
  | .ref n => match S[n]? with
    | some (.lst xs) => (intD e).bind fun i => (ixN xs.length i).map fun j => S.set n (.lst (xs.set j z))
    | some (.dct kvs) => (keyD e).bind fun q => if kvs.length < sizeLine then some (S.set n (.dct (putKD kvs q z))) else none
    | _ => none
  | _ => none
def mStoreP (o : Option Store) (en : En) : SRes := match o with
  | some S => .nx en S
  | none => .bad
def mStore (mo mi mv : ME) : MS := fun en S => (mv en S).stm en fun z S1 => (mo en S1).stm en fun d S2 => (mi en S2).stm en fun e S3 => mStoreP (storD d e z S3) en
theorem s_store (g : Gd X k) (ho : SndE X o mo) (hi : SndE X i mi) (hv : SndE X value mv) (hs : swapsWith value (some (.Subscript o i pos')) pos.line X.env = pure false := by rfl) :
    SndS X (.Assign [.Subscript o i pos'] value pos) (mStore mo mi mv) := by
  refine ⟨?_⟩
  intro W tk en σ r H S D er ro dn pins s I
  refine wpAny_Assign_Subscript (thn (hv.run W tk en σ r H S _ er ro (DnS.stm (R := VR X.K) er dn) pins s I) fun rv s1 ⟨v, H1, I1, rr, z, S1, r1, e1, t1, o1, k1, er1, d1⟩ => thn (ho.run W tk en σ r1 H1 S1 _ er1 o1 (DnS.stm (R := VR X.K) er1 d1) pins s1 I1) fun ov s2 ⟨x, H2, I2, rx, d, S2, r2, e2, t2, o2, k2, er2, d2⟩ =>
    thn (hi.run W tk en σ r2 H2 S2 _ er2 o2 (DnS.stm (R := VR X.K) er2 d2) pins s2 I2) fun iv s3 ⟨y, H3, I3, ry, e, S3, r3, e3, t3, o3, k3, er3, d3⟩ => ?_) hs
  have k1 := (k1.mono t2).mono t3
  have k2 := k2.mono t3
  cases q : storD d e z S3 with
  | none => rw [q] at d3; exact d3.elim
  | some S4 =>
    rw [q] at d3
    cases d with
    | ref n =>
      obtain ⟨p, hp, rfl⟩ := k2
      cases rx
      unfold storD at q
      dsimp only at q
      cases q' : S3[n]? with
      | none => rw [q'] at q; cases q
      | some ob =>
        rw [q'] at q
        have oo := o3.ob n ob p q' hp
        cases ob with
        | lst xs =>
          obtain ⟨vs, h1, h2⟩ := oo
          obtain ⟨ii, h3, q⟩ := Option.bind_eq_some_iff.mp q
          obtain ⟨j, h4, q⟩ := Option.map_eq_some_iff.mp q
          cases q
          have ss : Stp r3 H3 r3 (upd H3 p (.lst (vs.set j v))) := Stp.mut h1 trivial
          refine thn (set_list pins s3 σ H3 (.ref p) y v (.ref p) iv rv (fun H' => D.nx σ H') I3 rfl ry rr ⟨p, vs, ii, j, rfl, intD_ok h3 k3, h1, by rw [← h2.length]; exact h4, ?_⟩) fun _ s4 h => ?_
          · exact d3 r3 _ σ ss (o3.mut hp h1 trivial ⟨_, upd_same, (h2.mono ss).set j (k1.mono ss)⟩) (er3.mono ss)
          · obtain ⟨H4, I4, q4⟩ := h
            exact ⟨σ, H4, I4, q4⟩
        | dct kvs =>
          obtain ⟨vs, h1, h2⟩ := oo
          obtain ⟨ky, h3, q⟩ := Option.bind_eq_some_iff.mp q
          split at q
          · rename_i hz
            cases q
            have ss : Stp r3 H3 r3 (upd H3 p (.dK (putK vs ky v))) := Stp.mut h1 trivial
            rw [keyD_ok h3 k3] at ry
            refine d_setItem (by have := g.room.un; omega) I3 (DPut.k h1 (by rw [← h2.length]; exact hz)) ry rr fun s4 I4 => ⟨σ, _, I4, ?_⟩
            exact d3 r3 _ σ ss (o3.mut hp h1 trivial ⟨_, upd_same, (h2.mono ss).put (k1.mono ss)⟩) (er3.mono ss)
          · cases q
        | _ => cases q
    | _ => cases q
/-! ### methods of built-ins -/
abbrev GM := D → List D → Store → Option (D × Store)
structure MtD (X : Cx) (id : String) (g : GM) : Prop where
  run : ∀ (d : D) (ds : List D) (z : D) (x : V) (xs : List V) (r : List Addr) (H : Hp) (S S' : Store) (Q : VK), g d ds S = some (z, S') → VR X.K r H d x → VRs X.K r H ds xs → ROk X.K r H S → Ed X.K r H z S' Q →
  ∀ (pins : List (Addr × Obj)) (s : Shared) (σ : L2.St) (v : Value) (us : List Value), Inv X pins σ H s → RelV x v → Vals xs us → wpAny (model X.prog X.w) X.A (call (.builtin id) (v :: us)) (EP X pins σ Q) X.xe s
def wM (X : Cx) (id : String) : V → List V → Hp → VK → Prop := fun x xs H Q => ∀ (pins : List (Addr × Obj)) (s : Shared) (σ : L2.St) (v : Value) (us : List Value), Inv X pins σ H s → RelV x v → Vals xs us → wpAny (model X.prog X.w) X.A (call (.builtin id) (v :: us)) (EP X pins σ Q) X.xe s
theorem mt_wM (X : Cx) (id : String) : MtR X id (wM X id) := fun pins s σ _ _ _ v us _ I rx rs h => h pins s σ v us I rx rs
/-- the type's name, where methods are called on it -/
def tyD (d : D) (S : Store) : String := match d with
  | .str _ => "str"
  | .kl _ => "list"
  | .ref n => match S[n]? with
    | some (.lst _) => "list"
    | some (.dct _) => "dict"
    | _ => ""
  | _ => ""
theorem tyD_ok {r : List Addr} {H : Hp} {S : Store} {d : D} {x : V} {T : String} (ro : ROk X.K r H S) (h : VR X.K r H d x) (e : tyD d S = T) (hT : T ≠ "") : tyV X.K T x H := by
  cases d with
  | str y => have h : x = .str y := h; subst h; exact e.symm
  | kl xs => obtain ⟨p, vs, rfl, hs, hv⟩ := h; exact .inl ⟨e.symm, vs, hs.l⟩
  | ref n =>
    obtain ⟨p, hp, rfl⟩ := h
    unfold tyD at e
    dsimp only at e
    cases q : S[n]? with
    | none => rw [q] at e; exact absurd e.symm hT
    | some ob =>
      rw [q] at e
      have oo := ro.ob n ob p q hp
      cases ob with
      | lst xs => obtain ⟨vs, h1, h2⟩ := oo; exact .inl ⟨e.symm, vs, .of h1⟩
      | dct xs => obtain ⟨vs, h1, h2⟩ := oo; exact .inr (.inr (.inl ⟨e.symm, .inl ⟨vs, h1⟩⟩))
      | _ => exact absurd e.symm hT
  | _ => exact absurd e.symm hT
def mMeth (T : String) (g : GM) (mo : ME) (m : MA) : ME := fun en S => (mo en S).bind fun d S1 => if tyD d S1 = T then (m en S1).bind fun ds S2 => ofOpt (g d ds S2) else .bad
variable {e : Expr} {es : List Expr} {m : MA} {name : Str} {apos cpos : Pos} {T id : String} {gm : GM}
theorem e_meth (hm : MtD X id gm) (pa : PlainAttrs T) (slot : Slot T name id) (hty : typeOf (.builtin id) = pure (.type "method_descriptor")) (ho : SndE X o mo) (ha : SndA X (e :: es) m) (hT : T ≠ "" := by decide)
    (hbase : attributeBase o name X.env (eval o X.env) = eval o X.env := by rfl)
    (hfew : ((backTo cpos (starEach (e :: es) X.env)).all (fun x => !x.1) && (backToKw cpos (keywordEach [] X.env)).all (fun x => x.1.isSome)
      && decide ((e :: es).length + ([] : List Keyword).length + (if ([] : List Keyword).isEmpty then 0 else 1) < 30)) = true := by rfl)
    (hline : (apos.endLine == cpos.line) = true := by rfl) (hs : starEach (e :: es) X.env = (false, eval e X.env) :: starEach es X.env := by rfl) (hplain : (backTo cpos (starEach es X.env)).any (·.1) = false := by rfl) :
    SndE X (.Call (.Attribute o name apos) (e :: es) [] cpos) (mMeth T gm mo m) := by
  refine ⟨?_⟩
  intro W tk en σ r H S Q er ro dn
  refine wE_of (pe_bm pa slot hty (mt_wM X id) (pe_wE X o) (pa_wA X _) hbase hfew hline hs hplain) ?_
  refine ho.run W tk en σ r H S _ er ro (Dn.imp (Dn.bind dn) fun x H1 ⟨d, S1, r1, e1, s1, o1, k1, d1⟩ => ?_)
  obtain ⟨ht, d1⟩ := dn_if d1
  refine ⟨tyD_ok o1 k1 ht hT, ha.run W tk en σ r1 H1 S1 _ (er.mono s1) o1 (Dn.imp (Dn.bind d1) fun xs H2 ⟨ds, S2, r2, e2, s2, o2, k2, d2⟩ => ?_)⟩
  obtain ⟨z, S', g1, ed⟩ := dn_ofOpt d2
  exact hm.run d ds z x xs r2 H2 S2 S' Q g1 (k1.mono s2) k2 o2 ed
def gApp : GM := fun d ds S => match d, ds with
  | .ref n, [y] => match S[n]? with
    | some (.lst xs) => if xs.length < sizeLine then some (.non, S.set n (.lst (xs ++ [y]))) else none
    | _ => none
  | _, _ => none
theorem m_append : MtD X "list.append" gApp := by
  refine ⟨?_⟩
  intro d ds z x xs r H S S' Q g1 k1 k2 o ed pins s σ v us I rx rs
  unfold gApp at g1
  split at g1
  · rename_i n y
    obtain ⟨p, hp, rfl⟩ := k1
    obtain ⟨w, rfl, kw⟩ := k2.one_inv
    split at g1
    · rename_i ys hq
      split at g1
      · rename_i hz
        cases g1
        obtain ⟨vs, h1, h2⟩ := o.ob n _ p hq hp
        have ss : Stp r H r (upd H p (.lst (vs ++ [w]))) := Stp.mut h1 trivial
        refine mt_append pins s σ H (.ref p) [w] v us Q I rx rs ⟨p, vs, w, rfl, rfl, h1, by rw [← h2.length]; exact hz, ?_⟩
        exact ed r _ _ ss (o.mut hp h1 trivial ⟨_, upd_same, (h2.mono ss).append (VRs.one (kw.mono ss))⟩) rfl
      · cases g1
    · cases g1
  · cases g1
/-! ### {k: v, ..} -/
def PRs (K : PySem.W.Frag) (r : List Addr) (H : Hp) : List (D × D) → List (V × V) → Prop
  | [], vs => vs = []
  | p :: ds, vs => ∃ v w ws, vs = (v, w) :: ws ∧ VR K r H p.1 v ∧ VR K r H p.2 w ∧ PRs K r H ds ws
def trsE (X : Cx) : List Expr → List Expr → List (TE × TE)
  | k :: ks, v :: vs => (wE X k, wE X v) :: trsE X ks vs
  | _, _ => []
abbrev MP := En → Store → Res (List (D × D))
structure SndPs (X : Cx) (ks vs : List Expr) (m : MP) : Prop where
  run : ∀ (W : WX), Takes X W → ∀ (en : En) (σ : L2.St) (r : List Addr) (H : Hp) (S : Store) (Q : List (V × V) → Hp → Prop), ER X.K r H en σ → ROk X.K r H S → Dn X.K r H (PRs X.K) (m en S) Q (WE W σ) → tPairs (trsE X ks vs) σ H Q
def mPsN : MP := fun _ S => .ok [] S
def mPsC (mk mv : ME) (m : MP) : MP := fun en S => (mk en S).bind fun k S1 => (mv en S1).bind fun v S2 => (m en S2).bind fun ps S3 => .ok ((k, v) :: ps) S3
theorem ps_n : SndPs X [] [] mPsN := .mk fun W tk en σ r H S Q er ro dn => Dn.ok_here (R := PRs X.K) (a := []) (v := []) dn ro rfl
theorem PRs.mono {K : PySem.W.Frag} {r r' : List Addr} {H H' : Hp} (s : Stp r H r' H') : ∀ {ds : List (D × D)} {vs : List (V × V)}, PRs K r H ds vs → PRs K r' H' ds vs
  | [], _, h => h
  | _ :: _, _, ⟨v, w, ws, h1, h2, h3, h4⟩ => ⟨v, w, ws, h1, h2.mono s, h3.mono s, PRs.mono s h4⟩
theorem ps_c {kk vv : Expr} {ks vs : List Expr} {mk mw : ME} {m : MP} (hk : SndE X kk mk) (hv : SndE X vv mw) (hr : SndPs X ks vs m) : SndPs X (kk :: ks) (vv :: vs) (mPsC mk mw m) := by
  refine ⟨?_⟩
  intro W tk en σ r H S Q er ro dn
  refine hk.run W tk en σ r H S _ er ro (Dn.imp (Dn.bind dn) fun x H1 ⟨d, S1, r1, e1, s1, o1, k1, d1⟩ => ?_)
  refine hv.run W tk en σ r1 H1 S1 _ (er.mono s1) o1 (Dn.imp (Dn.bind d1) fun y H2 ⟨e, S2, r2, e2, s2, o2, k2, d2⟩ => ?_)
  refine hr.run W tk en σ r2 H2 S2 _ ((er.mono s1).mono s2) o2 (Dn.imp (Dn.bind d2) fun ps H3 ⟨ds, S3, r3, e3, s3, o3, k3, d3⟩ => ?_)
  exact Dn.ok_here (R := PRs X.K) d3 o3 ⟨x, y, ps, rfl, (k1.mono s2).mono s3, k2.mono s3, k3⟩
theorem pps_of : ∀ (ks vs : List Expr) (pos : Pos), ks.length = vs.length → PPs X pos (ks.map some) vs (trsE X ks vs)
  | [], [], pos, _ => pps_nil
  | k :: ks, v :: vs, pos, h => pps_cons (pe_wE X k) (pe_wE X v) (pps_of ks vs pos (by simpa using h))
def keysD : List (D × D) → Option (List (Key × D))
  | [] => some []
  | p :: r => (keyD p.1).bind fun k => (keysD r).map fun l => (k, p.2) :: l
def mergeD (kvs more : List (Key × D)) : List (Key × D) := more.foldl (fun acc kv => putKD acc kv.1 kv.2) kvs
theorem KR.merge {K : PySem.W.Frag} {r : List Addr} {H : Hp} : ∀ {more : List (Key × D)} {vm : List (Key × V)} {kvs : List (Key × D)} {vs : List (Key × V)}, KR K r H more vm → KR K r H kvs vs → KR K r H (mergeD kvs more) (mergeK vs vm)
  | [], vm, _, _, h, k => by have h : vm = [] := h; subst h; exact k
  | p :: ms, vm, _, _, h, k => by
    obtain ⟨v, ws, rfl, h1, h2⟩ := h
    show KR K r H (mergeD (putKD _ p.1 p.2) ms) (mergeK (putK _ p.1 v) ws)
    exact KR.merge h2 (KR.put k h1)
theorem keysD_ok {K : PySem.W.Frag} {r : List Addr} {H : Hp} : ∀ {ds : List (D × D)} {ps : List (V × V)} {kvs : List (Key × D)}, keysD ds = some kvs → PRs K r H ds ps → ∃ vk : List (Key × V), ps = vk.map (fun kv => (kV kv.1, kv.2)) ∧ KR K r H kvs vk ∧ vk.length = kvs.length
  | [], ps, _, e, h => by cases e; exact ⟨[], h, rfl, rfl⟩
  | p :: ds, ps, _, e, h => by
    obtain ⟨v, w, ws, rfl, h1, h2, h3⟩ := h
    obtain ⟨k, e1, e⟩ := Option.bind_eq_some_iff.mp e
    obtain ⟨l, e2, e⟩ := Option.map_eq_some_iff.mp e
    subst e
    obtain ⟨vk, rfl, q, ql⟩ := keysD_ok e2 h3
    exact ⟨(k, w) :: vk, by rw [keyD_ok e1 h1]; rfl, ⟨w, vk, rfl, h2, q⟩, by simp [ql]⟩
def mDispE (n : Nat) (ps : List (D × D)) (S : Store) : Option (D × Store) := match S[n]? with
  | some (.dct []) => (keysD ps).bind fun kvs => if kvs.length ≤ 15 then some (.ref n, S.set n (.dct (mergeD [] kvs))) else none
  | _ => none
def mDisp (m : MP) : ME := fun en S => (m en (S ++ [.dct []])).bind fun ps S1 => ofOpt (mDispE S.length ps S1)
theorem new_dct {r : List Addr} {H : Hp} {S : Store} {q : Addr} (o : ROk X.K r H S) (hq : H q = none) :
    Stp r H (r ++ [q]) (upd H q (.dK [])) ∧ ROk X.K (r ++ [q]) (upd H q (.dK [])) (S ++ [.dct []]) ∧ (r ++ [q])[S.length]? = some q :=
  ⟨Stp.new hq, o.new hq ⟨[], upd_same, rfl⟩, by rw [← o.len, List.getElem?_append_right (Nat.le_refl _), Nat.sub_self]; rfl⟩
theorem e_disp {ks vs : List Expr} {m : MP} (h : SndPs X ks vs m) (hl : ks.length = vs.length := by rfl) (h0 : ks ≠ [] := by simp) (h15 : ks.length ≤ 15 := by decide) (hall : (ks.map some).all (·.isSome) = true := by rfl) : SndE X (.Dict (ks.map some) vs pos) (mDisp m) := by
  refine ⟨?_⟩
  intro W tk en σ r H S Q er ro dn
  refine wE_of (pe_disp (pps_of ks vs pos hl) hall (by rw [List.length_map]; exact hl) (by simpa using h0) (by rw [List.length_map]; exact h15)) ?_
  intro p hp
  obtain ⟨n1, n2, n3⟩ := new_dct ro hp
  refine h.run W tk en σ _ _ _ _ (er.mono n1) n2 (Dn.imp (Dn.bind (Dn.mono n1 dn)) fun ps H2 ⟨ds, S2, r2, e2, s2, o2, k2, d2⟩ => ?_)
  obtain ⟨z, S', g1, ed⟩ := dn_ofOpt d2
  have hp2 := s2.pre _ _ n3
  unfold mDispE at g1
  split at g1
  · rename_i hq
    obtain ⟨vs0, h1, h2⟩ := o2.ob _ _ p hq hp2
    have h2 : vs0 = [] := h2
    subst h2
    obtain ⟨kvs, h3, g1⟩ := Option.bind_eq_some_iff.mp g1
    split at g1
    · rename_i hz
      cases g1
      obtain ⟨vk, rfl, q, ql⟩ := keysD_ok h3 k2
      refine ⟨h1, vk, rfl, by rw [ql]; exact hz, ?_⟩
      have ss : Stp r2 H2 r2 (upd H2 p (.dK (mergeK [] vk))) := Stp.mut h1 trivial
      exact ed r2 _ _ ss (o2.mut hp2 h1 trivial ⟨_, upd_same, KR.merge (q.mono ss) rfl⟩) ⟨p, hp2, rfl⟩
    · cases g1
  · cases g1
/-- {} -/
def mDnew : ME := fun _ S => .ok (.ref S.length) (S ++ [.dct []])
theorem e_dnew : SndE X (.Dict [] [] pos) mDnew := by
  refine ⟨?_⟩
  intro W tk en σ r H S Q er ro dn
  refine wE_of pe_dnewK fun p hp => ?_
  obtain ⟨n1, n2, n3⟩ := new_dct ro hp
  exact dn _ _ _ n1 n2 ⟨p, n3, rfl⟩
end
end Q

namespace Q
open PySem PySem.Spec PyProof.Rows L2
theorem Gd.blk [Gr : Grd] {X : Cx} {k : Nat} (g : Gd X k) {s : Shared} {H : Hp} {scope : Scope} {cenv : Env} {fp : List Addr} : Gd (X.blk s H scope cenv fp) k := ⟨g.calm, g.room, g.gd⟩
theorem Gd.mono [Gr : Grd] {X : Cx} {j k : Nat} (g : Gd X k) (h : j ≤ k) : Gd X j := ⟨g.calm, g.room.mono h, g.gd⟩
theorem Gd.eq [Gr : Grd] {X : Cx} {k : Nat} (g : Gd X k) : X.A.units + 64 < cLine := by have := g.room.un; omega
/-- the rounds that a loop of the text may take -/
@[irreducible] def bigN : Nat := 10000000
/-- a def that stands in K -/
theorem funD_mk {K : PySem.W.Frag} {x qual : Str} {st : Stmt} {f : Addr} {oc : Value} {od an : Option Addr} {osl : Array (Option Value)} {dV kV doc pm cdv ct : Value} {dvs : List V} (l : K.lookup f = some ⟨oc, od, .func (PySem.W.fnOf x qual (defArgs st) (defBody st) (defScope st) dV kV doc pm an cdv ct), osl⟩)
    (c : PySem.W.codeIn K cdv qual = true) (kp : PySem.W.keepIn K (.ref f) = true) (hd : DflV K dV dvs) : FunD K x qual (defArgs st) (defBody st) (defScope st) dvs [] f (PySem.W.fnOf x qual (defArgs st) (defBody st) (defScope st) dV kV doc pm an cdv ct) :=
  ⟨⟨oc, od, dV, kV, doc, pm, an, cdv, ct, osl, rfl, l, c, hd, .inl rfl⟩, kp⟩
theorem dfl0 {K : PySem.W.Frag} : DflV K .none [] := .inl ⟨rfl, rfl⟩
theorem dfl1 {K : PySem.W.Frag} {T : Addr} {o : Obj} {its : List Value} {n : Nat} {dvs : List V} (h0 : dvs ≠ []) (l : K.lookup T = some o) (hd : o.data = .seq its.toArray n) (r : Vals dvs its) : DflV K (.ref T) dvs := .inr ⟨h0, T, o, its, n, rfl, l, hd, r⟩
end Q

namespace Q
open PySem PySem.Spec PyProof.Rows L2
variable [Gh : Ghost] [Gr : Grd]
section
variable {X : Cx} {k : Nat}
/-! ### str(..) -/
def gStr : G1 := fun d S => match d with
  | .int i => if i.natAbs.log2 < 1920 then some (.str (toString i), S) else none
  | .str x => some (.str x, S)
  | _ => none
theorem c_str : Call1D X (.type "str") gStr := by
  refine ⟨?_⟩
  intro d z x r H S S' Q q k ro ed
  unfold gStr at q
  split at q
  · split at q
    · rename_i h
      cases q
      exact wC_of call_str_int ⟨_, by rw [show x = .int _ from k], h, ed.flat ro rfl⟩
    · cases q
  · cases q; exact wC_of SkE.call_str_str ⟨_, by rw [show x = .str _ from k], ed.flat ro rfl⟩
  · cases q
end
/-! ### a def that calls itself: so many levels -/
theorem FnM.zero {P : Program} {w : World} {K : PySem.W.Frag} {mg : Str → Option Value} {base : Heap} {k : Nat} {f : Addr} {fd : FuncData} {ps : List Str} : FnM P w K mg base k f fd ps (fun _ _ => .bad) :=
  ⟨fun _ _ _ _ _ _ _ _ _ _ _ _ _ _ _ _ _ _ _ _ dn => dn.elim⟩
end Q

namespace Q
open PySem PySem.Spec PyProof.Rows L2
section
variable {α β : Type} {a : α} {S : Store} {f : α → Store → Res β} {en : En}
@[simp] theorem bind_ok : (Res.ok a S).bind f = f a S := rfl
@[simp] theorem stm_ok {f : α → Store → SRes} : (Res.ok a S).stm en f = f a S := rfl
@[simp] theorem seq_nx {f : MS} : (SRes.nx en S).seq f = f en S := rfl
@[simp] theorem seq_rt {f : MS} {d : D} : (SRes.rt d S).seq f = .rt d S := rfl
@[simp] theorem ofOpt_some : ofOpt (some (a, S)) = .ok a S := rfl
@[simp] theorem endM_rt {d : D} : endM (.rt d S) = .ok d S := rfl
@[simp] theorem endM_nx : endM (.nx en S) = .ok .non S := rfl
@[simp] theorem mSeq_eq {a b : MS} : mSeq a b en S = (a en S).seq b := rfl
@[simp] theorem mSkip_eq : mSkip en S = .nx en S := rfl
@[simp] theorem mRet_eq {m : ME} : mRet m en S = (m en S).stm en fun d S1 => .rt d S1 := rfl
@[simp] theorem mExpr_eq {m : ME} : mExpr m en S = (m en S).stm en fun _ S1 => .nx en S1 := rfl
@[simp] theorem mSet_eq {i : Nat} {m : ME} : mSet i m en S = (m en S).stm en fun d S1 => .nx (en.set i (some d)) S1 := rfl
@[simp] theorem mC_eq {d : D} : mC d en S = .ok d S := rfl
@[simp] theorem m2_eq {g : G2} {x y : ME} : m2 g x y en S = (x en S).bind fun d S1 => (y en S1).bind fun e S2 => ofOpt (g d e S2) := rfl
@[simp] theorem m1_eq {g : G1} {x : ME} : m1 g x en S = (x en S).bind fun d S1 => ofOpt (g d S1) := rfl
@[simp] theorem mNil_eq : mNil en S = .ok [] S := rfl
@[simp] theorem mCons_eq {x : ME} {m : MA} : mCons x m en S = (x en S).bind fun d S1 => (m en S1).bind fun ds S2 => .ok (d :: ds) S2 := rfl
@[simp] theorem mCall_eq {g : GN} {m : MA} : mCall g m en S = (m en S).bind fun ds S1 => ofOpt (g ds S1) := rfl
@[simp] theorem g1N_eq {g : G1} {d : D} : g1N g [d] S = g d S := rfl
@[simp] theorem g2N_eq {g : G2} {d e : D} : g2N g [d, e] S = g d e S := rfl
@[simp] theorem mB_eq {m : ME} : mB m en S = (m en S).bind fun d S1 => asB (boolD d) S1 := rfl
@[simp] theorem boolD_bl {b : Bool} : boolD (.bl b) = some b := rfl
@[simp] theorem asB_some {b : Bool} : asB (some b) S = .ok b S := rfl
@[simp] theorem mNot_eq {m : MT} : mNot m en S = (m en S).bind fun b S1 => .ok (!b) S1 := rfl
@[simp] theorem mTr_eq {m : ME} : mTr m en S = (m en S).bind fun d S1 => asB (truD d S1) S1 := rfl
@[simp] theorem truD_bl {b : Bool} : truD (.bl b) S = some b := rfl
@[simp] theorem truD_int {i : Int} : truD (.int i) S = some (i != 0) := rfl
@[simp] theorem mStore_eq {mo mi mv : ME} : mStore mo mi mv en S = (mv en S).stm en fun z S1 => (mo en S1).stm en fun d S2 => (mi en S2).stm en fun e S3 => mStoreP (storD d e z S3) en := rfl
@[simp] theorem mStoreP_some : mStoreP (some S) en = .nx en S := rfl
theorem mVar_at {i : Nat} {d : D} (h : en[i]? = some (some d)) : mVar i en S = .ok d S := by unfold mVar; rw [h]
@[simp] theorem gI_int {c : Int → Int → Bool} {f : Int → Int → D} {i j : Int} : gI c f (.int i) (.int j) S = if c i j then some (f i j, S) else none := rfl
@[simp] theorem gAdd_int {i j : Int} : gAdd (.int i) (.int j) S = some (.int (i + j), S) := rfl
@[simp] theorem gSub_int {i j : Int} : gSub (.int i) (.int j) S = some (.int (i - j), S) := rfl
theorem gMul_int {i j : Int} (h : i.natAbs.log2 + j.natAbs.log2 < 1000000) : gMul (.int i) (.int j) S = some (.int (i * j), S) := by unfold gMul; dsimp only; rw [if_pos h]
theorem gMod_int {i j : Int} (h : 0 < j) : gMod (.int i) (.int j) S = some (.int (i % j), S) := by unfold gMod; rw [gI_int, if_pos (by simpa using h)]
theorem gDiv_int {i j : Int} (h : 0 < j) (h2 : j.natAbs.log2 < 9000) : gDiv (.int i) (.int j) S = some (.int (i / j), S) := by unfold gDiv; rw [gI_int, if_pos (by simp [h, h2])]
@[simp] theorem gInt_int {i : Int} : gInt (.int i) S = some (.int i, S) := rfl
@[simp] theorem gLt_int {i j : Int} : gLt (.int i) (.int j) S = some (.bl (decide (i < j)), S) := rfl
@[simp] theorem gLe_int {i j : Int} : gLe (.int i) (.int j) S = some (.bl (decide (i ≤ j)), S) := rfl
@[simp] theorem gGt_int {i j : Int} : gGt (.int i) (.int j) S = some (.bl (decide (j < i)), S) := rfl
@[simp] theorem gGe_int {i j : Int} : gGe (.int i) (.int j) S = some (.bl (decide (j ≤ i)), S) := rfl
@[simp] theorem gAbs_int {i : Int} : gAbs (.int i) S = some (.int (if i < 0 then -i else i), S) := rfl
@[simp] theorem gNeg_int {i : Int} : gNeg (.int i) S = some (.int (-i), S) := rfl
end
theorem natAbs_mod_lt {i m : Int} (h : 0 < m) : (i % m).natAbs < m.natAbs := by
  have h1 := Int.emod_nonneg i (by omega : m ≠ 0)
  have h2 := Int.emod_lt_of_pos i h
  omega
theorem log2_lt' {n k : Nat} (h : n < 2 ^ k) : n.log2 ≤ k := by
  rcases Nat.eq_zero_or_pos n with rfl | hp
  · simp
  · exact Nat.le_of_lt ((Nat.log2_lt (by omega)).mpr h)
/-! ### the pen -/
def penK (c : Nat) (t ρ : Int) : List (Key × D) := [(.inr "cells", .ref c), (.inr "next", .int t), (.inr "left", .int ρ)]
structure Pen (p c : Nat) (n : Nat) (S : Store) : Prop where
  ex : ∃ (ns : List Int) (t ρ : Int), S[p]? = some (.dct (penK c t ρ)) ∧ S[c]? = some (.lst (ns.map D.int)) ∧ ns.length ≤ 63 ∧ (∀ z ∈ ns, z.natAbs < 2 ^ 1048577) ∧ 0 ≤ t ∧ t ≤ n ∧ 0 ≤ ρ ∧ ρ.natAbs < 2 ^ 1048577
  ne : c ≠ p
/-- the store may have grown, the rest stands but for the pen -/
structure Grow (p : Nat) (S S' : Store) : Prop where
  len : S.length ≤ S'.length
  eq : ∀ i, i < S.length → i ≠ p → S'[i]? = S[i]?
theorem Grow.refl (p : Nat) (S : Store) : Grow p S S := ⟨Nat.le_refl _, fun _ _ _ => rfl⟩
theorem Grow.trans {p : Nat} {S S1 S2 : Store} (a : Grow p S S1) (b : Grow p S1 S2) : Grow p S S2 := ⟨Nat.le_trans a.len b.len, fun i h n => (b.eq i (Nat.lt_of_lt_of_le h a.len) n).trans (a.eq i h n)⟩
theorem Grow.set {p : Nat} {S : Store} {o : O} : Grow p S (S.set p o) := ⟨by rw [List.length_set]; exact Nat.le_refl _, fun i _ n => List.getElem?_set_ne (Ne.symm n)⟩
theorem Grow.push {p : Nat} {S T : Store} : Grow p S (S ++ T) := ⟨by rw [List.length_append]; exact Nat.le_add_right _ _, fun i h _ => List.getElem?_append_left h⟩
theorem lt_of_at {S : Store} {i : Nat} {o : O} (h : S[i]? = some o) : i < S.length := (List.getElem?_eq_some_iff.mp h).1
section
variable {p c : Nat} {t ρ : Int} {S : Store}
theorem sub_cells (h : S[p]? = some (.dct (penK c t ρ))) : gSubs (.ref p) (.str "cells") S = some (.ref c, S) := by
  unfold gSubs subD dctD
  dsimp only
  rw [h]
  rfl
theorem sub_turn (h : S[p]? = some (.dct (penK c t ρ))) : gSubs (.ref p) (.str "next") S = some (.int t, S) := by
  unfold gSubs subD dctD
  dsimp only
  rw [h]
  have : lookK (penK c t ρ) (.inr "next") = some (.int t) := by kernel_rfl
  show (lookK (penK c t ρ) (.inr "next")).map _ = _
  rw [this]
  rfl
theorem sub_rest (h : S[p]? = some (.dct (penK c t ρ))) : gSubs (.ref p) (.str "left") S = some (.int ρ, S) := by
  unfold gSubs subD dctD
  dsimp only
  rw [h]
  have : lookK (penK c t ρ) (.inr "left") = some (.int ρ) := by kernel_rfl
  show (lookK (penK c t ρ) (.inr "left")).map _ = _
  rw [this]
  rfl
theorem stor_turn (h : S[p]? = some (.dct (penK c t ρ))) (v : Int) : storD (.ref p) (.str "next") (.int v) S = some (S.set p (.dct (penK c v ρ))) := by
  unfold storD
  dsimp only
  rw [h]
  have e : putKD (penK c t ρ) (.inr "next") (.int v) = penK c v ρ := by kernel_rfl
  show (some (Sum.inr ("next" : Str))).bind _ = _
  simp only [Option.bind_some]
  rw [if_pos (by show 3 < sizeLine; decide)]
  exact congrArg (fun z => some (S.set p (.dct z))) e
theorem stor_rest (h : S[p]? = some (.dct (penK c t ρ))) (v : Int) : storD (.ref p) (.str "left") (.int v) S = some (S.set p (.dct (penK c t v))) := by
  unfold storD
  dsimp only
  rw [h]
  have e : putKD (penK c t ρ) (.inr "left") (.int v) = penK c t v := by kernel_rfl
  show (some (Sum.inr ("left" : Str))).bind _ = _
  simp only [Option.bind_some]
  rw [if_pos (by show 3 < sizeLine; decide)]
  exact congrArg (fun z => some (S.set p (.dct z))) e
end
end Q

namespace Q
open PySem PySem.Spec PyProof.Rows L2
theorem Pen.set {p c n : Nat} {S : Store} {ns : List Int} {t ρ : Int} (hp : p < S.length) (hc : S[c]? = some (.lst (ns.map D.int))) (ne : c ≠ p) (hl : ns.length ≤ 63) (hb : ∀ z ∈ ns, z.natAbs < 2 ^ 1048577) (h1 : 0 ≤ t) (h2 : t ≤ n) (h3 : 0 ≤ ρ) (h4 : ρ.natAbs < 2 ^ 1048577) :
    Pen p c n (S.set p (.dct (penK c t ρ))) :=
  ⟨⟨ns, t, ρ, by rw [List.getElem?_set_self hp], by rw [List.getElem?_set_ne (Ne.symm ne)]; exact hc, hl, hb, h1, h2, h3, h4⟩, ne⟩
end Q

namespace Q
open PySem PySem.Spec PyProof.Rows L2
theorem py_nil {S : Store} {m : Nat} (h : S[m]? = some (.lst [])) : pyD S (.ref m) = some (.list []) := by
  unfold pyD toPy
  rw [h]
  rfl
theorem eqP_nil {S : Store} {c m : Nat} {xs : List D} (h : S[c]? = some (.lst xs)) (h2 : S[m]? = some (.lst [])) : eqP (.ref c) (.ref m) S = some xs.isEmpty := by
  have e1 : seqOf (.ref c) S = some (false, xs.length) := by unfold seqOf; dsimp only; rw [h]
  have e2 : seqOf (.ref m) S = some (false, 0) := by unfold seqOf; dsimp only; rw [h2]; rfl
  unfold eqP
  dsimp only
  cases xs with
  | nil =>
    have e : eqLen (.ref c) (.ref m) S = none := by
      unfold eqLen
      rw [e1, e2]
      rfl
    rw [e]
    dsimp only
    unfold eqPD
    rw [py_nil h, py_nil h2]
    rfl
  | cons x l =>
    have e : eqLen (.ref c) (.ref m) S = some false := by
      unfold eqLen
      rw [e1, e2]
      show (if (false = false) ∧ (l.length + 1 ≠ 0) ∧ (false = false ∨ l.length + 1 = 0 ∨ 0 = 0) then some false else none) = some false
      exact if_pos ⟨rfl, by omega, .inl rfl⟩
    rw [e]
    rfl
theorem ne_nil' {S : Store} {c m : Nat} {xs : List D} (h : S[c]? = some (.lst xs)) (h2 : S[m]? = some (.lst [])) : gNe (.ref c) (.ref m) S = some (.bl (!xs.isEmpty), S) := by
  unfold gNe
  rw [eqP_nil h h2]
  rfl
theorem eq_nil' {S : Store} {c m : Nat} {xs : List D} (h : S[c]? = some (.lst xs)) (h2 : S[m]? = some (.lst [])) : gEq (.ref c) (.ref m) S = some (.bl xs.isEmpty, S) := by
  unfold gEq
  rw [eqP_nil h h2]
  rfl
theorem len_at {S : Store} {c : Nat} {xs : List D} (h : S[c]? = some (.lst xs)) : gLen (.ref c) S = some (.int xs.length, S) := by
  unfold gLen lenD
  dsimp only
  rw [h]
  rfl
theorem pow18 {S : Store} : gPow (.int 10) (.int 18) S = some (.int (10 ^ 18), S) := by
  unfold gPow
  rw [gI_int, if_pos (by decide)]
  rfl
end Q

namespace Q
open PySem PySem.Spec PyProof.Rows L2
end Q

namespace Q
open PySem PySem.Spec PyProof.Rows L2
end Q

namespace Q
open PySem PySem.Spec PyProof.Rows L2
/-! ### loops -/
/-! ### the length of a shown value -/
theorem textFrom_le : ∀ (ts : List Str) (k : Nat) (acc : Str), (textFrom k acc ts).length ≤ acc.length + (ts.map fun t => t.length + 2).sum
  | [], _, acc => by show acc.length ≤ _; simp
  | t :: r, k, acc => by
    have h := textFrom_le r (k + 1) (acc ++ (if k > 0 then ", " else "" : String) ++ t)
    have e : (acc ++ (if k > 0 then ", " else "" : String) ++ t).length = acc.length + (if k > 0 then 2 else 0) + t.length := by
      rw [strLen_append, strLen_append]
      split <;> rfl
    have e2 : textFrom k acc (t :: r) = textFrom (k + 1) (acc ++ (if k > 0 then ", " else "" : String) ++ t) r := rfl
    rw [e2]
    simp only [List.map_cons, List.sum_cons]
    have : (if k > 0 then 2 else 0) ≤ 2 := by split <;> omega
    omega
end Q

namespace Q
open PySem PySem.Spec PyProof.Rows L2
/-! ### pieces that only add to the store -/
theorem at_mid {S T : Store} {o : O} : (S ++ o :: T)[S.length]? = some o := by simp
theorem at_left {S T : Store} {i : Nat} {o : O} (h : S[i]? = some o) : (S ++ T)[i]? = some o := by rw [List.getElem?_append_left (lt_of_at h)]; exact h
theorem all_at {S : Store} {k : Nat} {bs : List Bool} (h : S[k]? = some (.lst (bs.map D.bl))) : gAll (.ref k) S = some (.bl (bs.all fun b => b), S) := by
  have e : ∀ l : List Bool, blsD (l.map D.bl) = some l := fun l => by
    induction l with
    | nil => rfl
    | cons a l ih => rw [List.map_cons, blsD, ih]; rfl
  unfold gAll lstD
  dsimp only
  rw [h]
  simp only [Option.bind_some]
  rw [e]
  rfl
theorem app_at {S : Store} {k : Nat} {ds : List D} {y : D} (h : S[k]? = some (.lst ds)) (hz : ds.length < sizeLine) : gApp (.ref k) [y] S = some (.non, S.set k (.lst (ds ++ [y]))) := by
  unfold gApp
  dsimp only
  rw [h]
  dsimp only
  rw [if_pos hz]
theorem next_vals {xs : List D} (i : Nat) (S : Store) : nextM (.vals xs) i S = some xs[i]? := rfl
theorem next_rng {n : Nat} (i : Nat) (S : Store) : nextM (.rng 0 n) i S = some ((List.range n).map fun k => D.int (k : Nat))[i]? := by
  unfold nextM
  by_cases hi : i < n
  · rw [if_pos hi, List.getElem?_map, List.getElem?_range hi]
    simp
  · rw [if_neg hi, List.getElem?_eq_none (by simp; omega)]
theorem Pen.to {p c n m : Nat} {S S' : Store} (P : Pen p c n S) (h1 : S'[p]? = S[p]?) (h2 : S'[c]? = S[c]?) (h : n ≤ m) : Pen p c m S' := by
  obtain ⟨⟨ns, t, ρ, q1, q2, q3, q4, q5, q6, q7, q8⟩, ne⟩ := P
  exact ⟨⟨ns, t, ρ, h1.trans q1, h2.trans q2, q3, q4, q5, by omega, q7, q8⟩, ne⟩
theorem Pen.app {p c n : Nat} {S T : Store} (P : Pen p c n S) : Pen p c n (S ++ T) := by
  obtain ⟨ns, t, ρ, q1, q2, _⟩ := P.ex
  exact P.to ((at_left q1).trans q1.symm) ((at_left q2).trans q2.symm) (Nat.le_refl _)
end Q

namespace Q
open PySem PySem.Spec PyProof.Rows L2
/-! ### what is wished of a mirror's result, told ahead -/
abbrev EK := Addr → Option Nat → Store → Prop
def wpE {α : Type} (m : Res α) (P : α → Store → Prop) (E : EK) : Prop := match m with
  | .ok a S => P a S
  | .err C n S => E C n S
  | .bad => False
abbrev XKs := Addr → Option Nat → En → Store → Prop
def wpS (m : SRes) (N : En → Store → Prop) (R : D → Store → Prop) (B C : En → Store → Prop) (X : XKs) : Prop := match m with
  | .nx e S => N e S
  | .rt d S => R d S
  | .bk e S => B e S
  | .ct e S => C e S
  | .err c n e S => X c n e S
  | .bad => False
def wpO (o : Option (D × Store)) (P : D → Store → Prop) : Prop := match o with
  | some p => P p.1 p.2
  | none => False
/-- what stood stands -/
abbrev Kp (S T : Store) : Prop := ∀ (n : Nat) (o : O), S[n]? = some o → T[n]? = some o
theorem Kp.refl (S : Store) : Kp S S := fun _ _ h => h
theorem Kp.trans {S T U : Store} (a : Kp S T) (b : Kp T U) : Kp S U := fun n o h => b n o (a n o h)
theorem Kp.app {S T : Store} : Kp S (S ++ T) := fun _ _ h => at_left h
theorem Kp.len {S T : Store} (h : Kp S T) : S.length ≤ T.length := by
  rcases Nat.eq_zero_or_pos S.length with e | e
  · omega
  · have := lt_of_at (h (S.length - 1) _ (List.getElem?_eq_getElem (by omega)))
    omega
theorem Kp.setN {S T : Store} {n : Nat} {o : O} (h : Kp S T) (hn : S.length ≤ n) : Kp S (T.set n o) := fun m q e => by
  have := lt_of_at e
  rw [List.getElem?_set_ne (by omega)]
  exact h m q e
theorem Kp.no {S T : Store} {n : Nat} {o : O} (h : Kp S T) (e : T[n]? = none) : S[n]? = none := by
  cases q : S[n]? with
  | none => rfl
  | some o => rw [h _ _ q] at e; cases e
/-- .. but for the object p -/
structure KpX (p : Nat) (S T : Store) : Prop where
  k : ∀ (n : Nat) (o : O), n ≠ p → S[n]? = some o → T[n]? = some o
  len : S.length ≤ T.length
theorem KpX.refl (p : Nat) (S : Store) : KpX p S S := ⟨fun _ _ _ h => h, Nat.le_refl _⟩
theorem KpX.trans {p : Nat} {S T U : Store} (a : KpX p S T) (b : KpX p T U) : KpX p S U := ⟨fun n o q h => b.k n o q (a.k n o q h), Nat.le_trans a.len b.len⟩
theorem Kp.x {p : Nat} {S T : Store} (h : Kp S T) : KpX p S T := ⟨fun n o _ e => h n o e, h.len⟩
theorem KpX.setN {S T : Store} {n p : Nat} {o : O} (h : KpX p S T) (hn : S.length ≤ n) : KpX p S (T.set n o) := ⟨fun m q hm e => by
  have := lt_of_at e
  rw [List.getElem?_set_ne (by omega)]
  exact h.k m q hm e, by rw [List.length_set]; exact h.len⟩
theorem Grow.kx {p : Nat} {S T : Store} (g : Grow p S T) : KpX p S T := ⟨fun n o h e => (g.eq n (lt_of_at e) h).trans e, g.len⟩
theorem Pen.kp {p c n : Nat} {S T : Store} (P : Pen p c n S) (k : Kp S T) : Pen p c n T := by
  obtain ⟨⟨ns, t, ρ, q1, q2, q⟩, ne⟩ := P
  exact ⟨⟨ns, t, ρ, k _ _ q1, k _ _ q2, q⟩, ne⟩
theorem Pen.le {p c n m : Nat} {S : Store} (P : Pen p c n S) (h : n ≤ m) : Pen p c m S := by
  obtain ⟨⟨ns, t, ρ, q1, q2, q3, q4, q5, q6, q7, q8⟩, ne⟩ := P
  exact ⟨⟨ns, t, ρ, q1, q2, q3, q4, q5, by omega, q7, q8⟩, ne⟩
section
variable {α β : Type} {en : En} {S : Store} {E : EK} {P : D → Store → Prop} {PB : Bool → Store → Prop} {PL : List D → Store → Prop} {N : En → Store → Prop} {R : D → Store → Prop} {B C : En → Store → Prop} {X : XKs}
theorem wpE_mono {m : Res α} {Q Q' : α → Store → Prop} {E' : EK} (h : wpE m Q E) (q : ∀ a T, Q a T → Q' a T) (e : ∀ C n T, E C n T → E' C n T) : wpE m Q' E' := by
  cases m with
  | ok a T => exact q _ _ h
  | err C n T => exact e _ _ _ h
  | bad => exact h
theorem wpE_eq {m : Res α} {Q : α → Store → Prop} {a : α} {T : Store} (h : m = .ok a T) (q : Q a T) : wpE m Q E := by rw [h]; exact q
theorem wpE_ex {m : Res α} {Q : α → Store → Prop} (h : wpE m Q (fun _ _ _ => False)) : ∃ a T, m = .ok a T ∧ Q a T := by
  cases m with
  | ok a T => exact ⟨a, T, rfl, h⟩
  | err C n T => exact h.elim
  | bad => exact h.elim
theorem wpE_bind {m : Res α} {f : α → Store → Res β} {Q : β → Store → Prop} (h : wpE m (fun a T => wpE (f a T) Q E) E) : wpE (m.bind f) Q E := by
  cases m with
  | ok a T => exact h
  | err C n T => exact h
  | bad => exact h
theorem wpO_of {o : Option (D × Store)} {d : D} {T : Store} (h : o = some (d, T)) (p : P d T) : wpO o P := by rw [h]; exact p
theorem wpE_o {o : Option (D × Store)} (h : wpO o P) : wpE (ofOpt o) P E := by
  cases o with
  | none => exact h
  | some p => exact h
theorem wpS_stm {m : Res α} {f : α → Store → SRes} (h : wpE m (fun a T => wpS (f a T) N R B C X) (fun c n T => X c n en T)) : wpS (m.stm en f) N R B C X := by
  cases m with
  | ok a T => exact h
  | err c n T => exact h
  | bad => exact h
/-! expressions -/
theorem wpE_c {d : D} (p : P d S) : wpE (mC d en S) P E := p
theorem wpE_nil (p : PL [] S) : wpE (mNil en S) PL E := p
theorem wpE_cons {m : ME} {r : MA} (h : wpE (m en S) (fun d T => wpE (r en T) (fun ds U => PL (d :: ds) U) E) E) : wpE (mCons m r en S) PL E := wpE_bind (wpE_mono h (fun _ _ q => wpE_bind q) fun _ _ _ q => q)
theorem wpE_star {m : ME} {r : MA} (h : wpE (m en S) (fun d T => ∃ xs, itemsD d T = some xs ∧ wpE (r en T) (fun ds U => PL (xs ++ ds) U) E) E) : wpE (mStar m r en S) PL E :=
  wpE_bind (wpE_mono h (fun d T ⟨xs, e, q⟩ => by rw [e]; exact wpE_bind q) fun _ _ _ q => q)
theorem wpE_m2 {g : G2} {a b : ME} (h : wpE (a en S) (fun d T => wpE (b en T) (fun e U => wpO (g d e U) P) E) E) : wpE (m2 g a b en S) P E := wpE_bind (wpE_mono h (fun _ _ q => wpE_bind (wpE_mono q (fun _ _ z => wpE_o z) fun _ _ _ z => z)) fun _ _ _ q => q)
theorem wpE_m1 {g : G1} {a : ME} (h : wpE (a en S) (fun d T => wpO (g d T) P) E) : wpE (m1 g a en S) P E := wpE_bind (wpE_mono h (fun _ _ q => wpE_o q) fun _ _ _ q => q)
theorem wpE_call {g : GN} {m : MA} (h : wpE (m en S) (fun ds T => wpO (g ds T) P) E) : wpE (mCall g m en S) P E := wpE_bind (wpE_mono h (fun _ _ q => wpE_o q) fun _ _ _ q => q)
theorem wpO_g1 {g : G1} {d : D} (h : wpO (g d S) P) : wpO (g1N g [d] S) P := h
theorem wpO_g2 {g : G2} {d e : D} (h : wpO (g d e S) P) : wpO (g2N g [d, e] S) P := h
theorem wpE_tup {m : MA} (h : wpE (m en S) (fun ds T => ds.length ≤ sizeLine ∧ P (.tup ds) T) E) : wpE (mTup m en S) P E := wpE_bind (wpE_mono h (fun ds T q => by rw [if_pos q.1]; exact q.2) fun _ _ _ q => q)
theorem wpE_lst {m : MA} (h : wpE (m en S) (fun ds T => ds.length ≤ sizeLine ∧ ∀ n U, Kp T U → T.length ≤ n → U[n]? = some (.lst ds) → P (.ref n) U) E) : wpE (mLst m en S) P E :=
  wpE_bind (wpE_mono h (fun ds T q => by rw [if_pos q.1]; exact q.2 _ _ Kp.app (Nat.le_refl _) at_mid) fun _ _ _ q => q)
theorem wpE_callF {M : MF} {n : Nat} {dds : List D} {m : MA} (h : wpE (m en S) (fun ds T => (ds ++ dds).length = n ∧ wpE (M (ds ++ dds) T) P E) E) : wpE (mCallF M n dds m en S) P E :=
  wpE_bind (wpE_mono h (fun ds T q => by rw [if_pos q.1]; exact q.2) fun _ _ _ q => q)
theorem wpE_meth {t : String} {g : GM} {mo : ME} {m : MA} (h : wpE (mo en S) (fun d T => tyD d T = t ∧ wpE (m en T) (fun ds U => wpO (g d ds U) P) E) E) : wpE (mMeth t g mo m en S) P E :=
  wpE_bind (wpE_mono h (fun d T q => by rw [if_pos q.1]; exact wpE_bind (wpE_mono q.2 (fun _ _ z => wpE_o z) fun _ _ _ z => z)) fun _ _ _ q => q)
theorem wpE_if {t : MT} {a b : ME} (h : wpE (t en S) (fun k T => (k = true → wpE (a en T) P E) ∧ (k = false → wpE (b en T) P E)) E) : wpE (mIf t a b en S) P E :=
  wpE_bind (wpE_mono h (fun k T q => by cases k; exact q.2 rfl; exact q.1 rfl) fun _ _ _ q => q)
theorem wpE_andV {a b : ME} (h : wpE (a en S) (fun d T => ∃ k, truD d T = some k ∧ (k = true → wpE (b en T) P E) ∧ (k = false → P d T)) E) : wpE (mAndV a b en S) P E :=
  wpE_bind (wpE_mono h (fun d T ⟨k, e, q⟩ => by rw [e]; cases k; exact q.2 rfl; exact q.1 rfl) fun _ _ _ q => q)
theorem wpE_orV {a b : ME} (h : wpE (a en S) (fun d T => ∃ k, truD d T = some k ∧ (k = true → P d T) ∧ (k = false → wpE (b en T) P E)) E) : wpE (mOrV a b en S) P E :=
  wpE_bind (wpE_mono h (fun d T ⟨k, e, q⟩ => by rw [e]; cases k; exact q.2 rfl; exact q.1 rfl) fun _ _ _ q => q)
theorem wpE_notV {a : ME} (h : wpE (a en S) (fun d T => ∃ k, truD d T = some k ∧ P (.bl (!k)) T) E) : wpE (mNotV a en S) P E :=
  wpE_bind (wpE_mono h (fun d T ⟨k, e, q⟩ => by rw [e]; exact q) fun _ _ _ q => q)
theorem wpE_chain {g g' : G2} {a b c : ME} (h : wpE (a en S) (fun d T => wpE (b en T) (fun e U => wpO (g d e U) fun z V => ∃ k, z = .bl k ∧ (k = true → wpE (c en V) (fun f W => wpO (g' e f W) P) E) ∧ (k = false → P (.bl false) V)) E) E) : wpE (mChain g g' a b c en S) P E :=
  wpE_bind (wpE_mono h (fun d T q => wpE_bind (wpE_mono q (fun e U q => wpE_bind (wpE_mono (wpE_o q) (fun z V ⟨k, ez, q⟩ => by
    subst ez
    cases k
    · exact q.2 rfl
    · exact wpE_bind (wpE_mono (q.1 rfl) (fun _ _ z => wpE_o z) fun _ _ _ z => z)) fun _ _ _ q => q)) fun _ _ _ q => q)) fun _ _ _ q => q)
theorem wpE_dnew (h : ∀ n U, Kp S U → S.length ≤ n → U[n]? = some (.dct []) → P (.ref n) U) : wpE (mDnew en S) P E := h _ _ Kp.app (Nat.le_refl _) at_mid
/-! tests -/
theorem wpT_B {m : ME} (h : wpE (m en S) (fun d T => ∃ k, d = .bl k ∧ PB k T) E) : wpE (mB m en S) PB E := wpE_bind (wpE_mono h (fun d T ⟨k, e, q⟩ => by subst e; exact q) fun _ _ _ q => q)
theorem wpT_Tr {m : ME} (h : wpE (m en S) (fun d T => ∃ k, truD d T = some k ∧ PB k T) E) : wpE (mTr m en S) PB E := wpE_bind (wpE_mono h (fun d T ⟨k, e, q⟩ => by rw [e]; exact q) fun _ _ _ q => q)
theorem wpT_not {m : MT} (h : wpE (m en S) (fun k T => PB (!k) T) E) : wpE (mNot m en S) PB E := wpE_bind h
theorem wpT_and {a b : MT} (h : wpE (a en S) (fun k T => (k = true → wpE (b en T) PB E) ∧ (k = false → PB false T)) E) : wpE (mAnd a b en S) PB E := wpE_bind (wpE_mono h (fun k T q => by cases k; exact q.2 rfl; exact q.1 rfl) fun _ _ _ q => q)
theorem wpT_or {a b : MT} (h : wpE (a en S) (fun k T => (k = true → PB true T) ∧ (k = false → wpE (b en T) PB E)) E) : wpE (mOr a b en S) PB E := wpE_bind (wpE_mono h (fun k T q => by cases k; exact q.2 rfl; exact q.1 rfl) fun _ _ _ q => q)
theorem wpT_yes (h : PB true S) : wpE (mYes en S) PB E := h
/-! statements -/
theorem wpS_seq {a b : MS} (h : wpS (a en S) (fun e T => wpS (b e T) N R B C X) R B C X) : wpS (mSeq a b en S) N R B C X := by
  show wpS ((a en S).seq b) N R B C X
  cases q : a en S with
  | _ => rw [q] at h; exact h
theorem wpS_set {i : Nat} {m : ME} (h : wpE (m en S) (fun d T => N (en.set i (some d)) T) (fun c n T => X c n en T)) : wpS (mSet i m en S) N R B C X := wpS_stm h
theorem wpS_ret {m : ME} (h : wpE (m en S) R (fun c n T => X c n en T)) : wpS (mRet m en S) N R B C X := wpS_stm h
theorem wpS_expr {m : ME} (h : wpE (m en S) (fun _ T => N en T) (fun c n T => X c n en T)) : wpS (mExpr m en S) N R B C X := wpS_stm h
theorem wpS_skip (h : N en S) : wpS (mSkip en S) N R B C X := h
theorem wpS_if {t : MT} {a b : MS} (h : wpE (t en S) (fun k T => (k = true → wpS (a en T) N R B C X) ∧ (k = false → wpS (b en T) N R B C X)) (fun c n T => X c n en T)) : wpS (mIfS t a b en S) N R B C X :=
  wpS_stm (wpE_mono h (fun k T q => by cases k; exact q.2 rfl; exact q.1 rfl) fun _ _ _ q => q)
theorem wpS_asg {g : Pat} {m : ME} (h : wpE (m en S) (fun d T => ∃ ps, g d T = some ps ∧ N (setsE en ps) T) (fun c n T => X c n en T)) : wpS (mAsg g m en S) N R B C X :=
  wpS_stm (wpE_mono h (fun d T ⟨ps, e, q⟩ => by rw [e]; exact q) fun _ _ _ q => q)
theorem wpS_par {i j : Nat} {m : MA} (h : wpE (m en S) (fun ds T => ∃ d e, ds = [d, e] ∧ N ((en.set i (some d)).set j (some e)) T) (fun c n T => X c n en T)) : wpS (mPar i j m en S) N R B C X :=
  wpS_stm (wpE_mono h (fun ds T ⟨d, e, eq, q⟩ => by subst eq; exact q) fun _ _ _ q => q)
theorem wpS_store {mo mi mv : ME} (h : wpE (mv en S) (fun z T => wpE (mo en T) (fun d U => wpE (mi en U) (fun e V => ∃ W, storD d e z V = some W ∧ N en W) (fun c n T => X c n en T)) (fun c n T => X c n en T)) (fun c n T => X c n en T)) : wpS (mStore mo mi mv en S) N R B C X :=
  wpS_stm (wpE_mono h (fun z T q => wpS_stm (wpE_mono q (fun d U q => wpS_stm (wpE_mono q (fun e V ⟨W, eq, q⟩ => by rw [eq]; exact q) fun _ _ _ q => q)) fun _ _ _ q => q)) fun _ _ _ q => q)
/-! a def -/
theorem wpE_def {n : Nat} {b : MS} {ds : List D} (h : wpS (b (startE n ds) S) (fun _ T => P .non T) P (fun _ _ => False) (fun _ _ => False) (fun c n _ T => E c n T)) : wpE (mDef n b ds S) P E := by
  show wpE (endM (b (startE n ds) S)) P E
  cases q : b (startE n ds) S with
  | _ => rw [q] at h; exact h
/-! loops -/
theorem wpS_for {m : MIt} {g : Pat} {mb : MS} {n : Nat} (h : wpE (m en S) (fun mi T => wpS (forL mi g mb n 0 en T) N R B C X) (fun c k T => X c k en T)) : wpS (mFor m g mb n en S) N R B C X := wpS_stm h
theorem wp_forL {mi : MI} {g : Pat} {mb : MS} (xs : List D) (I : Nat → En → Store → Prop) (hx : ∀ i e T, I i e T → nextM mi i T = some xs[i]?)
    (step : ∀ i d e T, xs[i]? = some d → I i e T → ∃ ps, g d T = some ps ∧ wpS (mb (setsE e ps) T) (I (i + 1)) R N (I (i + 1)) X) (fin : ∀ e T, I xs.length e T → N e T) :
    ∀ (k n i : Nat) (e : En) (T : Store), i + k = xs.length → k < n → I i e T → wpS (forL mi g mb n i e T) N R B C X
  | 0, n, i, e, T, h1, h2, h => by
    obtain ⟨n', rfl⟩ : ∃ q, n = q + 1 := ⟨n - 1, by omega⟩
    have hi : i = xs.length := by omega
    unfold forL
    rw [hx i e T h, List.getElem?_eq_none (by omega)]
    exact fin e T (hi ▸ h)
  | k + 1, n, i, e, T, h1, h2, h => by
    obtain ⟨n', rfl⟩ : ∃ q, n = q + 1 := ⟨n - 1, by omega⟩
    have hi : i < xs.length := by omega
    unfold forL
    rw [hx i e T h, List.getElem?_eq_getElem hi]
    dsimp only
    obtain ⟨ps, e1, w⟩ := step i xs[i] e T (List.getElem?_eq_getElem hi) h
    rw [e1]
    dsimp only
    cases q : mb (setsE e ps) T with
    | nx e' T' => rw [q] at w; exact wp_forL xs I hx step fin k n' (i + 1) e' T' (by omega) (by omega) w
    | ct e' T' => rw [q] at w; exact wp_forL xs I hx step fin k n' (i + 1) e' T' (by omega) (by omega) w
    | bk e' T' => rw [q] at w; exact w
    | rt d T' => rw [q] at w; exact w
    | err c z e' T' => rw [q] at w; exact w
    | bad => rw [q] at w; exact w
/-- comprehensions -/
theorem wpE_comp {m : MIt} {g : Pat} {mt : MT} {me : ME} {own : List Nat} {n : Nat} (h : wpE (m en S) (fun mi T => wpE (compL mi g mt me T.length n 0 (wipeD en own) (T ++ [.lst []])) P E) E) : wpE (mComp m g mt me own n en S) P E := wpE_bind h
theorem wp_compL {mi : MI} {g : Pat} {mt : MT} {me : ME} {n0 : Nat} (xs : List D) (I : Nat → List D → Store → Prop) (hx : ∀ i a T, I i a T → T[n0]? = some (.lst a) → nextM mi i T = some xs[i]?)
    (step : ∀ i d a T, xs[i]? = some d → I i a T → T[n0]? = some (.lst a) → a.length ≤ i → ∃ ps, g d T = some ps ∧ wpE (mt (setsE en ps) T) (fun b U => (b = false → U[n0]? = some (.lst a) ∧ I (i + 1) a U) ∧
      (b = true → wpE (me (setsE en ps) U) (fun z V => V[n0]? = some (.lst a) ∧ I (i + 1) (a ++ [z]) (V.set n0 (.lst (a ++ [z])))) (fun _ _ _ => False))) (fun _ _ _ => False))
    (hz : xs.length < sizeLine) (fin : ∀ a T, I xs.length a T → T[n0]? = some (.lst a) → P (.ref n0) T) :
    ∀ (k n i : Nat) (a : List D) (T : Store), i + k = xs.length → k < n → a.length ≤ i → I i a T → T[n0]? = some (.lst a) → wpE (compL mi g mt me n0 n i en T) P E
  | 0, n, i, a, T, h1, h2, hl, h, ha => by
    obtain ⟨n', rfl⟩ : ∃ q, n = q + 1 := ⟨n - 1, by omega⟩
    have hi : i = xs.length := by omega
    unfold compL
    rw [hx i a T h ha, List.getElem?_eq_none (by omega)]
    exact fin a T (hi ▸ h) ha
  | k + 1, n, i, a, T, h1, h2, hl, h, ha => by
    obtain ⟨n', rfl⟩ : ∃ q, n = q + 1 := ⟨n - 1, by omega⟩
    have hi : i < xs.length := by omega
    unfold compL
    rw [hx i a T h ha, List.getElem?_eq_getElem hi]
    dsimp only
    obtain ⟨ps, e1, w⟩ := step i xs[i] a T (List.getElem?_eq_getElem hi) h ha hl
    rw [e1]
    dsimp only
    cases q : mt (setsE en ps) T with
    | err c z T' => rw [q] at w; exact w.elim
    | bad => rw [q] at w; exact w.elim
    | ok b U =>
      rw [q] at w
      show wpE (match b with | false => _ | true => _) P E
      cases b with
      | false =>
        obtain ⟨w1, w2⟩ := w.1 rfl
        exact wp_compL xs I hx step hz fin k n' (i + 1) a U (by omega) (by omega) (by omega) w2 w1
      | true =>
        have w := w.2 rfl
        dsimp only
        cases q2 : me (setsE en ps) U with
        | err c z T' => rw [q2] at w; exact w.elim
        | bad => rw [q2] at w; exact w.elim
        | ok z V =>
          rw [q2] at w
          obtain ⟨w1, w2⟩ := w
          show wpE (match V[n0]? with | some (.lst acc) => _ | _ => _) P E
          rw [w1]
          dsimp only
          rw [if_pos (by omega)]
          exact wp_compL xs I hx step hz fin k n' (i + 1) (a ++ [z]) _ (by omega) (by omega) (by simp; omega) w2 (by rw [List.getElem?_set_self (lt_of_at w1)])
end
end Q

namespace Q
open PySem PySem.Spec PyProof.Rows L2
section
variable {α β : Type} {en : En} {S : Store} {E : EK} {P : D → Store → Prop} {PB : Bool → Store → Prop} {PL : List D → Store → Prop} {N : En → Store → Prop} {R : D → Store → Prop} {B C : En → Store → Prop} {X : XKs}
theorem wpE_isvar {i : Nat} (h : wpE (mVar i en S) P E) : wpE (mVar i en S) P E := h
theorem wpE_callF0 {M : MF} {n : Nat} {m : MA} (h : wpE (m en S) (fun ds T => ds.length = n ∧ wpE (M ds T) P E) E) : wpE (mCallF M n [] m en S) P E :=
  wpE_callF (wpE_mono h (fun ds T q => by rw [List.append_nil]; exact q) fun _ _ _ q => q)
/-! operations by value -/
theorem wpO_add {i j : Int} (h : P (.int (i + j)) S) : wpO (gAdd (.int i) (.int j) S) P := h
theorem wpO_sub {i j : Int} (h : P (.int (i - j)) S) : wpO (gSub (.int i) (.int j) S) P := h
theorem wpO_neg {i : Int} (h : P (.int (-i)) S) : wpO (gNeg (.int i) S) P := h
theorem wpO_lt {i j : Int} (h : P (.bl (decide (i < j))) S) : wpO (gLt (.int i) (.int j) S) P := h
theorem wpO_le {i j : Int} (h : P (.bl (decide (i ≤ j))) S) : wpO (gLe (.int i) (.int j) S) P := h
theorem wpO_gt {i j : Int} (h : P (.bl (decide (j < i))) S) : wpO (gGt (.int i) (.int j) S) P := h
theorem wpO_ge {i j : Int} (h : P (.bl (decide (j ≤ i))) S) : wpO (gGe (.int i) (.int j) S) P := h
theorem wpO_mod {i j : Int} (h0 : 0 < j) (h : P (.int (i % j)) S) : wpO (gMod (.int i) (.int j) S) P := wpO_of (gMod_int h0) h
theorem wpO_div {i j : Int} (h0 : 0 < j) (h1 : j.natAbs.log2 < 9000) (h : P (.int (i / j)) S) : wpO (gDiv (.int i) (.int j) S) P := wpO_of (gDiv_int h0 h1) h
theorem wpO_mul {i j : Int} (h0 : i.natAbs.log2 + j.natAbs.log2 < 1000000) (h : P (.int (i * j)) S) : wpO (gMul (.int i) (.int j) S) P := wpO_of (gMul_int h0) h
theorem wpO_int {i : Int} (h : P (.int i) S) : wpO (gInt (.int i) S) P := h
theorem wpO_abs {i : Int} (h : P (.int (if i < 0 then -i else i)) S) : wpO (gAbs (.int i) S) P := h
theorem wpO_lenT {xs : List D} (h : P (.int (xs.length : Nat)) S) : wpO (gLen (.tup xs) S) P := h
theorem wpO_lenL {n : Nat} {xs : List D} (h0 : S[n]? = some (.lst xs)) (h : P (.int (xs.length : Nat)) S) : wpO (gLen (.ref n) S) P := wpO_of (len_at h0) h
def isNonB : D → Bool
  | .non => true
  | _ => false
theorem wpO_isN {d : D} (h : P (.bl (isNonB d)) S) : wpO (gIs d .non S) P := by cases d <;> exact h
theorem wpO_isNotN {d : D} (h : P (.bl (!isNonB d)) S) : wpO (gIsNot d .non S) P := by cases d <;> exact h
theorem wpO_isi {t : Bt} {d : D} {q : Kd} (h0 : kindD d S = some q) (h : P (.bl (isKd q t)) S) : wpO (gIsi t d S) P := wpO_of (by unfold gIsi; rw [h0]; rfl) h
theorem wpO_isiA {ts : List Bt} {d : D} {q : Kd} (h0 : kindD d S = some q) (h : P (.bl (ts.any (isKd q))) S) : wpO (gIsiA ts d S) P := wpO_of (by unfold gIsiA; rw [h0]; rfl) h
theorem wpO_subL {n : Nat} {xs : List D} {i : Int} {d : D} (h1 : S[n]? = some (.lst xs)) (h0 : L2.atI xs i = some d) (h : P d S) : wpO (gSubs (.ref n) (.int i) S) P := by
  refine wpO_of (d := d) (T := S) ?_ h
  unfold gSubs subD dctD
  dsimp only
  rw [h1]
  show (itemD (.ref n) (.int i) S).map _ = _
  unfold itemD
  dsimp only
  rw [h1]
  dsimp only
  rw [h0]
  rfl
theorem wpO_tupleT {xs : List D} (h : P (.tup xs) S) : wpO (gTuple (.tup xs) S) P := h
theorem wpO_listI {d : D} {xs : List D} (h0 : itemsD d S = some xs) (h : ∀ n U, Kp S U → S.length ≤ n → U[n]? = some (.lst xs) → P (.ref n) U) : wpO (gList d S) P := by
  refine wpO_of (d := .ref S.length) (T := S ++ [.lst xs]) (by unfold gList; rw [h0]; rfl) (h _ _ Kp.app (Nat.le_refl _) at_mid)
theorem wpO_all {n : Nat} {bs : List Bool} (h0 : S[n]? = some (.lst (bs.map D.bl))) (h : P (.bl (bs.all fun b => b)) S) : wpO (gAll (.ref n) S) P := wpO_of (all_at h0) h
theorem wpO_addT {xs ys : List D} (h0 : xs.length + ys.length ≤ sizeLine) (h : P (.tup (xs ++ ys)) S) : wpO (gAdd (.tup xs) (.tup ys) S) P := by
  refine wpO_of (d := .tup (xs ++ ys)) (T := S) ?_ h
  unfold gAdd
  exact if_pos h0
theorem wpO_addL {m n : Nat} {xs ys : List D} (h1 : S[m]? = some (.lst xs)) (h2 : S[n]? = some (.lst ys)) (h0 : xs.length + ys.length ≤ sizeLine) (h : ∀ k U, Kp S U → S.length ≤ k → U[k]? = some (.lst (xs ++ ys)) → P (.ref k) U) : wpO (gAdd (.ref m) (.ref n) S) P := by
  refine wpO_of (d := .ref S.length) (T := S ++ [.lst (xs ++ ys)]) ?_ (h _ _ Kp.app (Nat.le_refl _) at_mid)
  unfold gAdd lstD
  dsimp only
  rw [h1, h2]
  exact if_pos h0
theorem wpO_eqI {i j : Int} (h : P (.bl (decide (i = j))) S) : wpO (gEq (.int i) (.int j) S) P := by
  refine wpO_of (d := .bl (decide (i = j))) (T := S) ?_ h
  show some (D.bl (PyData.eqv (.int i) (.int j)), S) = _
  rw [show PyData.eqv (.int i) (.int j) = decide (i = j) from by
    have : PyData.eqv (.int i) (.int j) = (i == j) := rfl
    rw [this, Bool.beq_eq_decide_eq]]
theorem wpO_neI {i j : Int} (h : P (.bl (!decide (i = j))) S) : wpO (gNe (.int i) (.int j) S) P := by
  refine wpO_of (d := .bl (!decide (i = j))) (T := S) ?_ h
  show some (D.bl (!PyData.eqv (.int i) (.int j)), S) = _
  rw [show PyData.eqv (.int i) (.int j) = decide (i = j) from by
    have : PyData.eqv (.int i) (.int j) = (i == j) := rfl
    rw [this, Bool.beq_eq_decide_eq]]
theorem wpO_eqS {x y : Str} (h : P (.bl (decide (x = y))) S) : wpO (gEq (.str x) (.str y) S) P := h
theorem wpO_neS {x y : Str} (h : P (.bl (!decide (x = y))) S) : wpO (gNe (.str x) (.str y) S) P := h
theorem wpO_eqNil {n m : Nat} {xs : List D} (h0 : S[n]? = some (.lst xs)) (h1 : S[m]? = some (.lst [])) (h : P (.bl xs.isEmpty) S) : wpO (gEq (.ref n) (.ref m) S) P := wpO_of (eq_nil' h0 h1) h
theorem wpO_neNil {n m : Nat} {xs : List D} (h0 : S[n]? = some (.lst xs)) (h1 : S[m]? = some (.lst [])) (h : P (.bl (!xs.isEmpty)) S) : wpO (gNe (.ref n) (.ref m) S) P := wpO_of (ne_nil' h0 h1) h
theorem wpO_app {n : Nat} {xs : List D} {y : D} (h0 : S[n]? = some (.lst xs)) (h1 : xs.length < sizeLine) (h : P .non (S.set n (.lst (xs ++ [y])))) : wpO (gApp (.ref n) [y] S) P := wpO_of (app_at h0 h1) h
theorem wpO_cutT {xs : List D} {lo hi : Option Int} (h : P (.tup (cutD xs lo hi)) S) : wpO (cutP (.tup xs) lo hi S) P := h
theorem wpO_reprS {d : D} {x : Str} (h0 : reprP d S = some x) (h : P (.str x) S) : wpO (gRepr d S) P := wpO_of (by unfold gRepr; rw [h0]; rfl) h
/-! slices -/
theorem wpE_sl {ma : ME} {ml mh : MO} (h : wpE (ma en S) (fun d T => wpE (ml en T) (fun lo U => wpE (mh en U) (fun hi V => wpO (cutP d lo hi V) P) E) E) E) : wpE (mSl ma ml mh en S) P E :=
  wpE_bind (wpE_mono h (fun d T q => wpE_bind (wpE_mono q (fun lo U q => wpE_bind (wpE_mono q (fun hi V q => wpE_o q) fun _ _ _ q => q)) fun _ _ _ q => q)) fun _ _ _ q => q)
theorem wpE_none {Q : Option Int → Store → Prop} (h : Q none S) : wpE (mNone en S) Q E := h
theorem wpE_some {m : ME} {Q : Option Int → Store → Prop} (h : wpE (m en S) (fun d T => ∃ i, d = .int i ∧ Q (some i) T) E) : wpE (mSome m en S) Q E :=
  wpE_bind (wpE_mono h (fun d T ⟨i, e, q⟩ => by subst e; exact q) fun _ _ _ q => q)
/-! what is walked -/
theorem wpE_iSeq {m : ME} {Q : MI → Store → Prop} (h : wpE (m en S) (fun d T => ∃ i, itD d T = some i ∧ Q i T) E) : wpE (iSeq m en S) Q E :=
  wpE_bind (wpE_mono h (fun d T ⟨i, e, q⟩ => by rw [e]; exact q) fun _ _ _ q => q)
theorem itD_ref {n : Nat} {xs : List D} (h : S[n]? = some (.lst xs)) : itD (.ref n) S = some (.lst n) := by
  unfold itD
  dsimp only
  rw [h]
theorem wpE_rng1 {m : MA} {Q : MI → Store → Prop} (h : wpE (m en S) (fun ds T => ∃ j, ds = [.int j] ∧ smallI j = true ∧ Q (.rng 0 j.toNat) T) E) : wpE (iRng1M m en S) Q E :=
  wpE_bind (wpE_mono h (fun ds T ⟨j, e, hj, q⟩ => by
    subst e
    show wpE (match rng1 [.int j] with | some i => .ok i T | none => .bad) Q E
    rw [show rng1 [.int j] = some (.rng 0 j.toNat) from if_pos hj]
    exact q) fun _ _ _ q => q)
theorem wpE_rng2 {m : MA} {Q : MI → Store → Prop} (h : wpE (m en S) (fun ds T => ∃ i j, ds = [.int i, .int j] ∧ smallI i = true ∧ smallI j = true ∧ Q (.rng i (j - i).toNat) T) E) : wpE (iRng2M m en S) Q E :=
  wpE_bind (wpE_mono h (fun ds T ⟨i, j, e, hi, hj, q⟩ => by
    subst e
    show wpE (match rng2 [.int i, .int j] with | some i => .ok i T | none => .bad) Q E
    rw [show rng2 [.int i, .int j] = some (.rng i (j - i).toNat) from if_pos ⟨hi, hj⟩]
    exact q) fun _ _ _ q => q)
theorem smallI_of {i : Int} (h1 : -(2 ^ 62) ≤ i) (h2 : i < 2 ^ 62) : smallI i = true := by unfold smallI; rw [decide_eq_true h1, decide_eq_true h2]; rfl
/-- a mirror that only adds to the store: a comprehension's list -/
theorem wp_compP {mi : MI} {g : Pat} {mt : MT} {me : ME} {n : Nat} (xs : List D) (f : D → Option D) (hx : ∀ (i : Nat) (T : Store), Kp S T → nextM mi i T = some xs[i]?) (hz : xs.length < n) (hz2 : xs.length < sizeLine)
    (step : ∀ (i : Nat) (d : D) (T : Store), xs[i]? = some d → Kp S T → ∃ ps, g d T = some ps ∧ wpE (mt (setsE en ps) T) (fun b U => Kp T U ∧ (b = false → f d = none) ∧ (b = true → wpE (me (setsE en ps) U) (fun z V => Kp U V ∧ f d = some z) (fun _ _ _ => False))) (fun _ _ _ => False))
    (fin : ∀ k T, Kp S T → S.length ≤ k → T[k]? = some (.lst (xs.filterMap f)) → P (.ref k) T) : wpE (compL mi g mt me S.length n 0 en (S ++ [.lst []])) P E := by
  refine wp_compL xs (fun i a T => Kp S T ∧ a = (xs.take i).filterMap f) (fun i a T h _ => hx i T h.1) (fun i d a T hd ⟨h1, h2⟩ ha hl => ?_) hz2 (fun a T ⟨h1, h2⟩ ha => ?_) xs.length n 0 [] _ (by omega) hz (Nat.le_refl _) ⟨Kp.app, rfl⟩ at_mid
  · obtain ⟨ps, e, w⟩ := step i d T hd h1
    have tk : xs.take (i + 1) = xs.take i ++ [d] := by rw [List.take_add_one, hd]; rfl
    refine ⟨ps, e, wpE_mono w (fun b U ⟨k1, q1, q2⟩ => ⟨fun hb => ⟨k1 _ _ ha, h1.trans k1, ?_⟩, fun hb => wpE_mono (q2 hb) (fun z V ⟨k2, q3⟩ => ⟨k2 _ _ (k1 _ _ ha), ?_, ?_⟩) fun _ _ _ q => q⟩) fun _ _ _ q => q⟩
    · rw [tk, List.filterMap_append, ← h2, List.filterMap_cons, q1 hb]; simp
    · have h3 := (h1.trans k1).trans k2
      refine h3.setN ?_
      exact Nat.le_refl _
    · rw [tk, List.filterMap_append, ← h2, List.filterMap_cons, q3]; simp
  · rw [List.take_length] at h2
    subst h2
    exact fin _ T h1 (Nat.le_refl _) ha
/-- without a test -/
theorem wp_compM {mi : MI} {g : Pat} {me : ME} {n : Nat} (xs : List D) (f : D → D) (hx : ∀ (i : Nat) (T : Store), Kp S T → nextM mi i T = some xs[i]?) (hz : xs.length < n) (hz2 : xs.length < sizeLine)
    (step : ∀ (i : Nat) (d : D) (T : Store), xs[i]? = some d → Kp S T → ∃ ps, g d T = some ps ∧ wpE (me (setsE en ps) T) (fun z V => Kp T V ∧ z = f d) (fun _ _ _ => False))
    (fin : ∀ k T, Kp S T → S.length ≤ k → T[k]? = some (.lst (xs.map f)) → P (.ref k) T) : wpE (compL mi g mYes me S.length n 0 en (S ++ [.lst []])) P E := by
  refine wp_compP xs (fun d => some (f d)) hx hz hz2 (fun i d T hd hk => ?_) (fun k T h1 h2 h3 => fin k T h1 h2 ?_)
  · obtain ⟨ps, e, w⟩ := step i d T hd hk
    exact ⟨ps, e, Kp.refl _, fun hb => (by cases hb), fun _ => wpE_mono w (fun z V ⟨q1, q2⟩ => ⟨q1, by rw [q2]⟩) fun _ _ _ q => q⟩
  · rw [List.filterMap_eq_map'] at h3
    exact h3
end
theorem brT {A B : Prop} (h : A) : (true = true → A) ∧ (true = false → B) := ⟨fun _ => h, fun z => Bool.noConfusion z⟩
theorem brF {A B : Prop} (h : B) : (false = true → A) ∧ (false = false → B) := ⟨fun z => Bool.noConfusion z, fun _ => h⟩
theorem brT2 {A B : Prop} (h : B) : (true = false → A) ∧ (true = true → B) := ⟨fun z => Bool.noConfusion z, fun _ => h⟩
theorem brF2 {A B : Prop} (h : A) : (false = false → A) ∧ (false = true → B) := ⟨fun _ => h, fun z => Bool.noConfusion z⟩
theorem brNT {A B : Prop} (h : B) : ((!true) = true → A) ∧ ((!true) = false → B) := ⟨fun z => Bool.noConfusion z, fun _ => h⟩
theorem brNF {A B : Prop} (h : A) : ((!false) = true → A) ∧ ((!false) = false → B) := ⟨fun _ => h, fun z => Bool.noConfusion z⟩
theorem exBl {b : Bool} {F : Bool → Prop} (h : F b) : ∃ k, D.bl b = D.bl k ∧ F k := ⟨b, rfl, h⟩
theorem exInt {i : Int} {F : Int → Prop} (h : F i) : ∃ k, D.int i = D.int k ∧ F k := ⟨i, rfl, h⟩
theorem exTrB {b : Bool} {S : Store} {F : Bool → Prop} (h : F b) : ∃ k, truD (.bl b) S = some k ∧ F k := ⟨b, rfl, h⟩
theorem exTrI {i : Int} {S : Store} {F : Bool → Prop} (h : F (i != 0)) : ∃ k, truD (.int i) S = some k ∧ F k := ⟨_, rfl, h⟩
theorem exTrN {S : Store} {F : Bool → Prop} (h : F false) : ∃ k, truD .non S = some k ∧ F k := ⟨_, rfl, h⟩
theorem exIt {xs : List D} {S : Store} {F : MI → Prop} (h : F (.vals xs)) : ∃ k, itD (.tup xs) S = some k ∧ F k := ⟨_, rfl, h⟩
theorem exPar {a b : D} {F : D → D → Prop} (h : F a b) : ∃ d e, [a, b] = [d, e] ∧ F d e := ⟨a, b, rfl, h⟩
theorem exName {i : Nat} {d : D} {S : Store} {F : List (Nat × D) → Prop} (h : F [(i, d)]) : ∃ ps, pName i d S = some ps ∧ F ps := ⟨_, rfl, h⟩
theorem exR1 {i : Int} {F : Int → Prop} (h0 : smallI i = true) (h : F i) : ∃ j, [D.int i] = [.int j] ∧ smallI j = true ∧ F j := ⟨i, rfl, h0, h⟩
theorem exR2 {i j : Int} {F : Int → Int → Prop} (h0 : smallI i = true) (h1 : smallI j = true) (h : F i j) : ∃ a b, [D.int i, D.int j] = [.int a, .int b] ∧ smallI a = true ∧ smallI b = true ∧ F a b := ⟨i, j, rfl, h0, h1, h⟩
theorem lenE {ds : List D} {n : Nat} {F : Prop} (h0 : ds.length = n) (h : F) : ds.length = n ∧ F := ⟨h0, h⟩
theorem lenS {ds : List D} {F : Prop} (h0 : ds.length ≤ sizeLine) (h : F) : ds.length ≤ sizeLine ∧ F := ⟨h0, h⟩
/-! ### data that shows -/
theorem mapM_kp {f g : D → Option PyData} (h : ∀ d p, f d = some p → g d = some p) : ∀ {xs : List D} {ps : List PyData}, xs.mapM f = some ps → xs.mapM g = some ps
  | [], ps, e => e
  | d :: xs, ps, e => by
    rw [List.mapM_cons] at e ⊢
    cases q : f d with
    | none => rw [q] at e; cases e
    | some p =>
      rw [q] at e
      cases q2 : xs.mapM f with
      | none => rw [q2] at e; cases e
      | some qs =>
        rw [q2] at e
        cases e
        rw [h d p q, mapM_kp h q2]
        rfl
theorem toPy_kp {S T : Store} (k : Kp S T) : ∀ (n : Nat) {d : D} {p : PyData}, toPy S n d = some p → toPy T n d = some p
  | 0, d, p, e => by cases d <;> exact e
  | n + 1, d, p, e => by
    have key : ∀ {xs : List D} {F : List PyData → PyData}, (xs.mapM (toPy S n)).map F = some p → (xs.mapM (toPy T n)).map F = some p := fun {xs F} e => by
      obtain ⟨ps, e1, e2⟩ := Option.map_eq_some_iff.mp e
      rw [mapM_kp (fun d p q => toPy_kp k n q) e1]
      exact congrArg some e2
    cases d with
    | tup xs => exact key e
    | kl xs =>
      have e : (if 63 ≤ n then (xs.mapM (toPy S n)).map PyData.list else none) = some p := e
      show (if 63 ≤ n then (xs.mapM (toPy T n)).map PyData.list else none) = some p
      by_cases hn : 63 ≤ n
      · rw [if_pos hn] at e ⊢
        exact key e
      · rw [if_neg hn] at e
        cases e
    | ref m =>
      unfold toPy at e ⊢
      cases q : S[m]? with
      | none => rw [q] at e; cases e
      | some o =>
        rw [q] at e
        rw [k _ _ q]
        cases o with
        | lst xs => exact key e
        | dct kvs => exact key e
        | _ => cases e
    | _ => exact e
end Q

namespace Q
open PySem PySem.Spec PyProof.Rows L2
/-! ### values of any kind, not too large -/
def okS (x : Str) : Prop := x.length ≤ 2000 ∧ ∀ c ∈ x.cps.toList, c < 16 ^ 8
mutual
def okP (b : Nat) : PyData → Prop
  | .none => True
  | .bool _ => True
  | .int i => i.natAbs < 2 ^ b
  | .str x => okS x
  | .list xs => okPs b xs
  | .tuple xs => okPs b xs
  | .dict kvs => okPk b kvs
def okPs (b : Nat) : List PyData → Prop
  | [] => True
  | x :: xs => okP b x ∧ okPs b xs
def okPk (b : Nat) : List (PyData × PyData) → Prop
  | [] => True
  | p :: r => okP b p.1 ∧ okP b p.2 ∧ okPk b r
end
mutual
def nd : PyData → Nat
  | .none => 1
  | .bool _ => 1
  | .int _ => 1
  | .str _ => 1
  | .list xs => 1 + nds xs
  | .tuple xs => 1 + nds xs
  | .dict kvs => 1 + ndk kvs
def nds : List PyData → Nat
  | [] => 0
  | x :: xs => nd x + nds xs
def ndk : List (PyData × PyData) → Nat
  | [] => 0
  | p :: r => nd p.1 + nd p.2 + ndk r
end
mutual
theorem okP.showable {b : Nat} (hb : b ≤ 1900) : ∀ {p : PyData}, okP b p → p.showable = true
  | .none, _ => by simp only [PyData.showable]
  | .bool _, _ => by simp only [PyData.showable]
  | .int i, h => by
    have h : i.natAbs < 2 ^ b := h
    have := log2_lt' h
    simp only [PyData.showable]
    exact decide_eq_true (by omega)
  | .str _, _ => by simp only [PyData.showable]
  | .list xs, h => by simp only [PyData.showable]; exact okPs.showable hb h
  | .tuple xs, h => by simp only [PyData.showable]; exact okPs.showable hb h
  | .dict kvs, h => by simp only [PyData.showable]; exact okPk.showable hb h
theorem okPs.showable {b : Nat} (hb : b ≤ 1900) : ∀ {p : List PyData}, okPs b p → PyData.showableAll p = true
  | [], _ => by simp only [PyData.showableAll]
  | x :: xs, ⟨h1, h2⟩ => by simp only [PyData.showableAll, okP.showable hb h1, okPs.showable hb h2, Bool.and_self]
theorem okPk.showable {b : Nat} (hb : b ≤ 1900) : ∀ {p : List (PyData × PyData)}, okPk b p → PyData.showableKv p = true
  | [], _ => by simp only [PyData.showableKv]
  | p :: xs, ⟨h1, h2, h3⟩ => by simp only [PyData.showableKv, okP.showable hb h1, okP.showable hb h2, okPk.showable hb h3, Bool.and_self]
end
theorem join_le : ∀ ts : List Str, (Str.join ", " ts).length ≤ (ts.map fun t => t.length + 2).sum
  | [] => by show (0 : Nat) ≤ _; exact Nat.zero_le _
  | t :: r => by
    have h := join_length_add (t :: r) (by simp)
    have e : ∀ l : List Str, piled l = (l.map fun t => t.length + 2).sum := fun l => by
      induction l with
      | nil => rfl
      | cons a l ih => simp only [piled, List.map_cons, List.sum_cons, ih]
    rw [← e]
    omega
mutual
theorem shown_len {b : Nat} (hb : b ≤ 1900) : ∀ {p : PyData}, okP b p → p.shown.length + 2 ≤ 20010 * nd p
  | .none, _ => by simp only [PyData.shown, nd]; decide
  | .bool c, _ => by simp only [PyData.shown, nd]; cases c <;> decide
  | .int i, h => by
    have h : i.natAbs < 2 ^ b := h
    have := log2_lt' h
    simp only [PyData.shown, nd]
    have := int_text_len_1921 (i := i) (by omega)
    show (Str.ofString (toString i)).length + 2 ≤ _
    omega
  | .str x, h => by
    obtain ⟨h1, h2⟩ := h
    simp only [PyData.shown, nd]
    have := PySem.StrLaws.reprText_len x h2
    omega
  | .list xs, h => by
    have ih := shown_lens hb h
    simp only [PyData.shown, nd]
    unfold listText
    rw [strLen_append]
    have h1 := textFrom_le (PyData.shownAll xs) 0 "["
    have e1 : (Str.ofString "[").length = 1 := rfl
    have e2 : (Str.ofString "]").length = 1 := rfl
    have h1 : (textFrom 0 (Str.ofString "[") (PyData.shownAll xs)).length ≤ _ := h1
    show (textFrom 0 (Str.ofString "[") (PyData.shownAll xs)).length + (Str.ofString "]").length + 2 ≤ _
    omega
  | .tuple xs, h => by
    have ih := shown_lens hb h
    simp only [PyData.shown, nd]
    unfold tupleText
    rw [strLen_append, strLen_append]
    have h1 := join_le (PyData.shownAll xs)
    have e1 : (Str.ofString "(").length = 1 := rfl
    have e2 : (Str.ofString (if ((PyData.shownAll xs).length == 1) = true then ",)" else ")")).length ≤ 2 := by split <;> decide
    show (Str.ofString "(").length + (Str.join (Str.ofString ", ") _).length + (Str.ofString _).length + 2 ≤ _
    have h1 : (Str.join (Str.ofString ", ") (PyData.shownAll xs)).length ≤ _ := h1
    omega
  | .dict kvs, h => by
    have ih := shown_lenk hb h
    simp only [PyData.shown, nd]
    unfold dictText
    rw [strLen_append, strLen_append]
    have h1 := join_le (PyData.shownKv kvs)
    have e1 : (Str.ofString "{").length = 1 := rfl
    have e2 : (Str.ofString "}").length = 1 := rfl
    show (Str.ofString "{").length + (Str.join (Str.ofString ", ") _).length + (Str.ofString "}").length + 2 ≤ _
    have h1 : (Str.join (Str.ofString ", ") (PyData.shownKv kvs)).length ≤ _ := h1
    omega
theorem shown_lens {b : Nat} (hb : b ≤ 1900) : ∀ {p : List PyData}, okPs b p → ((PyData.shownAll p).map fun t => t.length + 2).sum ≤ 20010 * nds p
  | [], _ => by simp [PyData.shownAll, nds]
  | x :: xs, ⟨h1, h2⟩ => by
    have a := shown_len hb h1
    have c := shown_lens hb h2
    have d : 1 ≤ nd x := by cases x <;> simp only [nd] <;> omega
    simp only [PyData.shownAll, nds, List.map_cons, List.sum_cons]
    omega
theorem shown_lenk {b : Nat} (hb : b ≤ 1900) : ∀ {p : List (PyData × PyData)}, okPk b p → ((PyData.shownKv p).map fun t => t.length + 2).sum ≤ 20010 * ndk p
  | [], _ => by simp [PyData.shownKv, ndk]
  | p :: xs, ⟨h1, h2, h3⟩ => by
    have a := shown_len hb h1
    have a' := shown_len hb h2
    have c := shown_lenk hb h3
    have d : ∀ x : PyData, 1 ≤ nd x := fun x => by cases x <;> simp only [nd] <;> omega
    have d1 := d p.1
    have d2 := d p.2
    obtain ⟨k, v⟩ := p
    simp only [PyData.shownKv, ndk, List.map_cons, List.sum_cons, strLen_append]
    have e : (Str.ofString ": ").length = 2 := rfl
    show _ + (Str.ofString ": ").length + _ + 2 + _ ≤ _
    simp only at a a' d1 d2
    omega
end

/-! ### on the mirror's values -/
mutual
theorem okP.up {b c : Nat} (h : b ≤ c) : ∀ {p : PyData}, okP b p → okP c p
  | .none, _ => trivial
  | .bool _, _ => trivial
  | .int i, q => Nat.lt_of_lt_of_le (show i.natAbs < 2 ^ b from q) (Nat.pow_le_pow_right (by decide) h)
  | .str _, q => q
  | .list xs, q => okPs.up h q
  | .tuple xs, q => okPs.up h q
  | .dict kvs, q => okPk.up h q
theorem okPs.up {b c : Nat} (h : b ≤ c) : ∀ {p : List PyData}, okPs b p → okPs c p
  | [], _ => trivial
  | _ :: _, ⟨h1, h2⟩ => ⟨okP.up h h1, okPs.up h h2⟩
theorem okPk.up {b c : Nat} (h : b ≤ c) : ∀ {p : List (PyData × PyData)}, okPk b p → okPk c p
  | [], _ => trivial
  | _ :: _, ⟨h1, h2, h3⟩ => ⟨okP.up h h1, okP.up h h2, okPk.up h h3⟩
end
theorem mapM_cons_some {f : D → Option PyData} {d : D} {xs : List D} {ps : List PyData} (h : (d :: xs).mapM f = some ps) : ∃ p qs, ps = p :: qs ∧ f d = some p ∧ xs.mapM f = some qs := by
  rw [List.mapM_cons] at h
  cases q : f d with
  | none => rw [q] at h; cases h
  | some p =>
    rw [q] at h
    cases q2 : xs.mapM f with
    | none => rw [q2] at h; cases h
    | some qs => rw [q2] at h; cases h; exact ⟨p, qs, rfl, rfl, rfl⟩
theorem mapM_cons_of {f : D → Option PyData} {d : D} {xs : List D} {p : PyData} {qs : List PyData} (h1 : f d = some p) (h2 : xs.mapM f = some qs) : (d :: xs).mapM f = some (p :: qs) := by
  rw [List.mapM_cons, h1, h2]
  rfl
theorem mapM_len {f : D → Option PyData} : ∀ {xs : List D} {ps : List PyData}, xs.mapM f = some ps → ps.length = xs.length
  | [], ps, h => by cases h; rfl
  | d :: xs, ps, h => by
    obtain ⟨p, qs, rfl, _, h2⟩ := mapM_cons_some h
    rw [List.length_cons, List.length_cons, mapM_len h2]
theorem toPy_up {S : Store} : ∀ (n : Nat) {d : D} {p : PyData}, toPy S n d = some p → toPy S (n + 1) d = some p
  | 0, d, p, e => by cases d <;> first | exact e | cases e
  | n + 1, d, p, e => by
    have key : ∀ {xs : List D} {F : List PyData → PyData}, (xs.mapM (toPy S n)).map F = some p → (xs.mapM (toPy S (n + 1))).map F = some p := fun {xs F} e => by
      obtain ⟨ps, e1, e2⟩ := Option.map_eq_some_iff.mp e
      rw [mapM_kp (fun d p q => toPy_up n q) e1]
      exact congrArg some e2
    cases d with
    | tup xs => exact key e
    | kl xs =>
      have e : (if 63 ≤ n then (xs.mapM (toPy S n)).map PyData.list else none) = some p := e
      show (if 63 ≤ n + 1 then (xs.mapM (toPy S (n + 1))).map PyData.list else none) = some p
      by_cases hn : 63 ≤ n
      · rw [if_pos hn] at e
        rw [if_pos (Nat.le_succ_of_le hn)]
        exact key e
      · rw [if_neg hn] at e
        cases e
    | ref m =>
      unfold toPy at e ⊢
      cases q : S[m]? with
      | none => rw [q] at e; cases e
      | some o =>
        rw [q] at e
        cases o with
        | lst xs => exact key e
        | dct kvs => exact key e
        | _ => cases e
    | _ => exact e
theorem toPy_le {S : Store} {n m : Nat} (h : n ≤ m) {d : D} {p : PyData} (e : toPy S n d = some p) : toPy S m d = some p := by
  obtain ⟨k, rfl⟩ : ∃ k, m = n + k := ⟨m - n, by omega⟩
  induction k with
  | zero => exact e
  | succ k ih => exact toPy_up _ (ih (by omega))
theorem depthAll_le {S : Store} {f : D → Option PyData} {n : Nat} (hf : ∀ d p, f d = some p → p.depth ≤ n) : ∀ {xs : List D} {ps : List PyData}, xs.mapM f = some ps → PyData.depthAll ps ≤ n
  | [], ps, h => by cases h; simp [PyData.depthAll]
  | d :: xs, ps, h => by
    obtain ⟨p, qs, rfl, h1, h2⟩ := mapM_cons_some h
    have a := hf d p h1
    have b := depthAll_le (S := S) hf h2
    simp only [PyData.depthAll]
    omega
theorem depthKv_le (n : Nat) : ∀ (ks : List Key) (ps : List PyData), PyData.depthAll ps ≤ n → PyData.depthKv ((ks.map keyPy).zip ps) ≤ n
  | [], ps, h => by simp [PyData.depthKv]
  | k :: ks, [], h => by simp [PyData.depthKv]
  | k :: ks, p :: ps, h => by
    simp only [PyData.depthAll] at h
    have ih := depthKv_le n ks ps (by omega)
    have e : (keyPy k).depth = 0 := by cases k <;> rfl
    simp only [List.map_cons, List.zip_cons_cons, PyData.depthKv, e]
    omega
theorem toPy_depth {S : Store} : ∀ (n : Nat) {d : D} {p : PyData}, toPy S n d = some p → p.depth ≤ n
  | 0, d, p, e => by cases d <;> first | (cases e; simp [PyData.depth]; done) | cases e
  | n + 1, d, p, e => by
    have key : ∀ {xs : List D} {F : List PyData → PyData}, (∀ ps, (F ps).depth = PyData.depthAll ps + 1) → (xs.mapM (toPy S n)).map F = some p → p.depth ≤ n + 1 := fun {xs F} hF e => by
      obtain ⟨ps, e1, e2⟩ := Option.map_eq_some_iff.mp e
      subst e2
      have := depthAll_le (S := S) (n := n) (fun d p q => toPy_depth n q) e1
      rw [hF]
      omega
    cases d with
    | tup xs => exact key (fun _ => by simp only [PyData.depth]) e
    | kl xs =>
      have e : (if 63 ≤ n then (xs.mapM (toPy S n)).map PyData.list else none) = some p := e
      by_cases hn : 63 ≤ n
      · rw [if_pos hn] at e
        exact key (fun _ => by simp only [PyData.depth]) e
      · rw [if_neg hn] at e
        cases e
    | ref m =>
      unfold toPy at e
      cases q : S[m]? with
      | none => rw [q] at e; cases e
      | some o =>
        rw [q] at e
        cases o with
        | lst xs => exact key (fun _ => by simp only [PyData.depth]) e
        | dct kvs =>
          obtain ⟨ps, e1, e2⟩ := Option.map_eq_some_iff.mp e
          subst e2
          have h1 : PyData.depthAll ps ≤ n := depthAll_le (S := S) (n := n) (fun d p q => toPy_depth n q) e1
          have h2 := depthKv_le n (kvs.map (·.1)) ps h1
          rw [List.map_map] at h2
          simp only [PyData.depth]
          have h3 : PyData.depthKv ((kvs.map fun kv => keyPy kv.1).zip ps) ≤ n := h2
          omega
        | _ => cases e
    | non => cases e; simp [PyData.depth]
    | bl c => cases e; simp [PyData.depth]
    | int i => cases e; simp [PyData.depth]
    | str i => cases e; simp [PyData.depth]
    | _ => cases e
/-- a value: at most n deep, of at most m parts, ints below 2 ^ b -/
structure Nc (n m b : Nat) (S : Store) (d : D) : Prop where
  ex : ∃ p, toPy S n d = some p ∧ okP b p ∧ nd p ≤ m
structure NcL (n m b : Nat) (S : Store) (xs : List D) : Prop where
  ex : ∃ ps, xs.mapM (toPy S n) = some ps ∧ okPs b ps ∧ nds ps ≤ m
section
variable {n m b n' m' b' : Nat} {S T : Store} {d : D} {xs ys : List D}
theorem Nc.kp (h : Nc n m b S d) (k : Kp S T) : Nc n m b T d := let ⟨p, h1, h2, h3⟩ := h.ex; ⟨p, toPy_kp k n h1, h2, h3⟩
theorem NcL.kp (h : NcL n m b S xs) (k : Kp S T) : NcL n m b T xs := let ⟨p, h1, h2, h3⟩ := h.ex; ⟨p, mapM_kp (fun _ _ q => toPy_kp k n q) h1, h2, h3⟩
theorem Nc.up (h : Nc n m b S d) (h1 : n ≤ n') (h2 : m ≤ m') (h3 : b ≤ b') : Nc n' m' b' S d := let ⟨p, q1, q2, q3⟩ := h.ex; ⟨p, toPy_le h1 q1, okP.up h3 q2, by omega⟩
theorem NcL.up (h : NcL n m b S xs) (h1 : n ≤ n') (h2 : m ≤ m') (h3 : b ≤ b') : NcL n' m' b' S xs := let ⟨p, q1, q2, q3⟩ := h.ex; ⟨p, mapM_kp (fun _ _ q => toPy_le h1 q) q1, okPs.up h3 q2, by omega⟩
theorem NcL.nil : NcL n m b S [] := ⟨[], rfl, trivial, by simp [nds]⟩
theorem NcL.cons (h1 : Nc n m b S d) (h2 : NcL n m' b S xs) : NcL n (m + m') b S (d :: xs) := by
  obtain ⟨p, a1, a2, a3⟩ := h1.ex
  obtain ⟨ps, b1, b2, b3⟩ := h2.ex
  exact ⟨p :: ps, mapM_cons_of a1 b1, ⟨a2, b2⟩, by simp only [nds]; omega⟩
theorem NcL.uncons (h : NcL n m b S (d :: xs)) : Nc n m b S d ∧ NcL n m b S xs := by
  obtain ⟨ps, h1, h2, h3⟩ := h.ex
  obtain ⟨p, qs, rfl, a1, a2⟩ := mapM_cons_some h1
  simp only [nds] at h3
  exact ⟨⟨p, a1, h2.1, by omega⟩, ⟨qs, a2, h2.2, by omega⟩⟩
theorem NcL.append : ∀ {xs ys : List D} {m m' : Nat}, NcL n m b S xs → NcL n m' b S ys → NcL n (m + m') b S (xs ++ ys)
  | [], ys, m, m', _, h => h.up (Nat.le_refl _) (by omega) (Nat.le_refl _)
  | d :: xs, ys, m, m', h, h' => by
    obtain ⟨ps, h1, h2, h3⟩ := h.ex
    obtain ⟨p, qs, rfl, a1, a2⟩ := mapM_cons_some h1
    simp only [nds] at h3
    have ih := NcL.append (m := nds qs) ⟨qs, a2, h2.2, Nat.le_refl _⟩ h'
    have := NcL.cons (m := nd p) ⟨p, a1, h2.1, Nat.le_refl _⟩ ih
    exact this.up (Nat.le_refl _) (by omega) (Nat.le_refl _)
theorem NcL.split : ∀ {xs ys : List D} {m : Nat}, NcL n m b S (xs ++ ys) → ∃ m1 m2, m1 + m2 ≤ m ∧ NcL n m1 b S xs ∧ NcL n m2 b S ys
  | [], ys, m, h => ⟨0, m, by omega, NcL.nil, h⟩
  | d :: xs, ys, m, h => by
    obtain ⟨ps, h1, h2, h3⟩ := h.ex
    obtain ⟨p, qs, rfl, a1, a2⟩ := mapM_cons_some h1
    simp only [nds] at h3
    obtain ⟨m1, m2, q1, q2, q3⟩ := NcL.split (xs := xs) (ys := ys) (m := nds qs) ⟨qs, a2, h2.2, Nat.le_refl _⟩
    exact ⟨nd p + m1, m2, by omega, NcL.cons ⟨p, a1, h2.1, Nat.le_refl _⟩ q2, q3⟩
theorem NcL.get {i : Nat} (h : NcL n m b S xs) (e : xs[i]? = some d) : Nc n m b S d := by
  induction xs generalizing i with
  | nil => simp at e
  | cons x xs ih =>
    obtain ⟨h1, h2⟩ := h.uncons
    cases i with
    | zero => simp at e; subst e; exact h1
    | succ i => exact ih h2 (by simpa using e)
theorem Nc.of_tup (h : Nc (n + 1) m b S (.tup xs)) : NcL n (m - 1) b S xs := by
  obtain ⟨p, h1, h2, h3⟩ := h.ex
  obtain ⟨ps, e1, e2⟩ := Option.map_eq_some_iff.mp (show (xs.mapM (toPy S n)).map .tuple = some p from h1)
  subst e2
  simp only [nd] at h3
  exact ⟨ps, e1, h2, by omega⟩
theorem Nc.tup (h : NcL n m b S xs) : Nc (n + 1) (m + 1) b S (.tup xs) := by
  obtain ⟨ps, h1, h2, h3⟩ := h.ex
  refine ⟨.tuple ps, ?_, h2, by simp only [nd]; omega⟩
  show (xs.mapM (toPy S n)).map PyData.tuple = _
  rw [h1]
  rfl
theorem Nc.lst {k : Nat} (e : S[k]? = some (.lst xs)) (h : NcL n m b S xs) : Nc (n + 1) (m + 1) b S (.ref k) := by
  obtain ⟨ps, h1, h2, h3⟩ := h.ex
  refine ⟨.list ps, ?_, h2, by simp only [nd]; omega⟩
  unfold toPy
  rw [e]
  show (xs.mapM (toPy S n)).map PyData.list = _
  rw [h1]
  rfl
theorem Nc.dct {k : Nat} {kvs : List (Key × D)} (e : S[k]? = some (.dct kvs)) (hk : ∀ p ∈ kvs, okP b (keyPy p.1)) (h : NcL n m b S (kvs.map (·.2))) : Nc (n + 1) (m + kvs.length + 1) b S (.ref k) := by
  obtain ⟨ps, h1, h2, h3⟩ := h.ex
  have key : ∀ (l : List (Key × D)) (ps : List PyData), (∀ p ∈ l, okP b (keyPy p.1)) → okPs b ps → okPk b ((l.map fun kv => keyPy kv.1).zip ps) ∧ ndk ((l.map fun kv => keyPy kv.1).zip ps) ≤ l.length + nds ps := fun l => by
    induction l with
    | nil => intro ps _ _; exact ⟨trivial, by simp [ndk]⟩
    | cons a l ih =>
      intro ps q1 q2
      cases ps with
      | nil => exact ⟨trivial, by simp [ndk]⟩
      | cons p ps =>
        obtain ⟨a1, a2⟩ := ih ps (fun x hx => q1 x (List.mem_cons_of_mem _ hx)) q2.2
        have e1 : nd (keyPy a.1) = 1 := by cases a.1 <;> rfl
        refine ⟨⟨q1 a List.mem_cons_self, q2.1, a1⟩, ?_⟩
        simp only [List.map_cons, List.zip_cons_cons, ndk, nds, List.length_cons, e1]
        omega
  obtain ⟨k1, k2⟩ := key kvs ps hk h2
  refine ⟨.dict ((kvs.map fun kv => keyPy kv.1).zip ps), ?_, (show okPk b _ from k1), by simp only [nd]; omega⟩
  unfold toPy
  rw [e]
  show ((kvs.map (·.2)).mapM (toPy S n)).map _ = _
  rw [h1]
  rfl
theorem Nc.non : Nc n 1 b S .non := ⟨.none, by cases n <;> rfl, trivial, by simp [nd]⟩
theorem Nc.bl {c : Bool} : Nc n 1 b S (.bl c) := ⟨.bool c, by cases n <;> rfl, trivial, by simp [nd]⟩
theorem Nc.int {i : Int} (h : i.natAbs < 2 ^ b) : Nc n 1 b S (.int i) := ⟨.int i, by cases n <;> rfl, h, by simp [nd]⟩
theorem Nc.str {x : Str} (h : okS x) : Nc n 1 b S (.str x) := ⟨.str x, by cases n <;> rfl, h, by simp [nd]⟩
/-- it shows, and shows the same wherever it stands -/
theorem Nc.repr (h : Nc n m b S d) (hn : n ≤ 64) (hm : m ≤ 800) (hb : b ≤ 1900) : ∃ x, ∀ T, Kp S T → reprP d T = some x := by
  obtain ⟨p, h1, h2, h3⟩ := h.ex
  have a := shown_len hb h2
  have sm : 20010 * 800 ≤ sizeLine := by decide
  refine ⟨p.shown, fun T k => ?_⟩
  unfold reprP
  have e : pyD T d = some p := toPy_le hn (toPy_kp k n h1)
  rw [e]
  have e2 := toPy_depth n h1
  exact if_pos ⟨okP.showable hb h2, by omega, by omega⟩
/-- no list that is only read stands deep within a value -/
theorem Nc.nkl (h : Nc n m b S d) (hn : n ≤ 63) : ∀ ys, d ≠ .kl ys := fun ys e => by
  subst e
  obtain ⟨p, h1, _, _⟩ := h.ex
  cases n with
  | zero => cases h1
  | succ k =>
    have h1 : (if 63 ≤ k then (ys.mapM (toPy S k)).map PyData.list else none) = some p := h1
    rw [if_neg (by omega)] at h1
    cases h1
/-- its kind -/
theorem Nc.kind (h : Nc n m b S d) : ∃ q, kindD d S = some q := by
  obtain ⟨p, h1, _, _⟩ := h.ex
  cases d with
  | non => exact ⟨_, rfl⟩
  | bl c => exact ⟨_, rfl⟩
  | int i => exact ⟨_, rfl⟩
  | str i => exact ⟨_, rfl⟩
  | tup xs => exact ⟨_, rfl⟩
  | kl xs => exact ⟨_, rfl⟩
  | ref k =>
    cases n with
    | zero => cases h1
    | succ n =>
      unfold toPy at h1
      cases q : S[k]? with
      | none => rw [q] at h1; cases h1
      | some o =>
        rw [q] at h1
        cases o with
        | lst xs => exact ⟨.lst, by unfold kindD; dsimp only; rw [q]⟩
        | dct xs => exact ⟨.dct, by unfold kindD; dsimp only; rw [q]⟩
        | _ => cases h1
  | _ => cases n <;> cases h1
end
theorem kindD_tup {S : Store} {d : D} (h : kindD d S = some .tup) : ∃ xs, d = .tup xs := by
  cases d with
  | tup xs => exact ⟨xs, rfl⟩
  | ref k =>
    unfold kindD at h
    dsimp only at h
    cases q : S[k]? with
    | none => rw [q] at h; cases h
    | some o => rw [q] at h; cases o <;> cases h
  | _ => cases h
theorem kindD_int {S : Store} {d : D} (h : kindD d S = some .int) : ∃ i, d = .int i := by
  cases d with
  | int i => exact ⟨i, rfl⟩
  | ref k =>
    unfold kindD at h
    dsimp only at h
    cases q : S[k]? with
    | none => rw [q] at h; cases h
    | some o => rw [q] at h; cases o <;> cases h
  | _ => cases h
theorem okS_of {x : String} (h : x.length ≤ 2000) : okS (Str.ofString x) := by
  have e := signs_ofString x
  refine ⟨?_, fun c hc => ?_⟩
  · show (Str.ofString x).cps.size ≤ 2000
    rw [← Array.length_toList, e, List.length_map]
    exact h
  · rw [e] at hc
    obtain ⟨z, _, rfl⟩ := List.mem_map.mp hc
    have := z.valid
    have hz : z.toNat < 1114112 := by
      rcases this with h | ⟨_, h⟩
      · exact Nat.lt_trans h (by decide)
      · exact h
    exact Nat.lt_trans hz (by decide)
end Q

namespace Q
open PySem PySem.Spec PyProof.Rows L2
/-! ### bounds of numbers -/
def Bd (k : Nat) (i : Int) : Prop := i.natAbs < 2 ^ k
theorem Bd.up {k l : Nat} {i : Int} (h : Bd k i) (hl : k ≤ l) : Bd l i := Nat.lt_of_lt_of_le h (Nat.pow_le_pow_right (by decide) hl)
theorem Bd.add {k l : Nat} {i j : Int} (h1 : Bd k i) (h2 : Bd l j) : Bd (k + l + 1) (i + j) := by
  have a : i.natAbs < 2 ^ (k + l) := h1.up (Nat.le_add_right k l)
  have b : j.natAbs < 2 ^ (k + l) := h2.up (Nat.le_add_left l k)
  have c := Int.natAbs_add_le i j
  show (i + j).natAbs < 2 ^ (k + l + 1)
  rw [Nat.pow_succ]
  omega
theorem Bd.mul {k l : Nat} {i j : Int} (h1 : Bd k i) (h2 : Bd l j) : Bd (k + l) (i * j) := by
  show (i * j).natAbs < 2 ^ (k + l)
  rw [Int.natAbs_mul, Nat.pow_add]
  exact Nat.mul_lt_mul'' h1 h2
theorem Bd.mod {k : Nat} {i j : Int} (h0 : 0 < j) (h : Bd k j) : Bd k (i % j) := Nat.lt_trans (natAbs_mod_lt h0) h
theorem Bd.lit {k : Nat} {i : Int} (h : i.natAbs < 2 ^ k := by decide) : Bd k i := h
theorem Bd.prod {k l : Nat} {i j : Int} (h1 : Bd k i) (h2 : Bd l j) (h : k + l < 1000000 := by decide) : i.natAbs.log2 + j.natAbs.log2 < 1000000 := by
  have a := log2_lt' h1
  have b := log2_lt' h2
  omega
section
variable {S : Store} {E : EK} {P : D → Store → Prop} {p c : Nat} {t ρ : Int}
theorem Pen.lt {p c n : Nat} {S : Store} (P : Pen p c n S) : p < S.length ∧ c < S.length := by
  obtain ⟨ns, t, ρ, q1, q2, _⟩ := P.ex
  exact ⟨lt_of_at q1, lt_of_at q2⟩
theorem wpO_cells (h0 : S[p]? = some (.dct (penK c t ρ))) (h : P (.ref c) S) : wpO (gSubs (.ref p) (.str "cells") S) P := wpO_of (sub_cells h0) h
theorem wpO_turn (h0 : S[p]? = some (.dct (penK c t ρ))) (h : P (.int t) S) : wpO (gSubs (.ref p) (.str "next") S) P := wpO_of (sub_turn h0) h
theorem wpO_rest (h0 : S[p]? = some (.dct (penK c t ρ))) (h : P (.int ρ) S) : wpO (gSubs (.ref p) (.str "left") S) P := wpO_of (sub_rest h0) h
theorem st_turn {v : Int} {F : Store → Prop} (h0 : S[p]? = some (.dct (penK c t ρ))) (h : F (S.set p (.dct (penK c v ρ)))) : ∃ W, storD (.ref p) (.str "next") (.int v) S = some W ∧ F W := ⟨_, stor_turn h0 v, h⟩
theorem st_rest {v : Int} {F : Store → Prop} (h0 : S[p]? = some (.dct (penK c t ρ))) (h : F (S.set p (.dct (penK c t v)))) : ∃ W, storD (.ref p) (.str "left") (.int v) S = some W ∧ F W := ⟨_, stor_rest h0 v, h⟩
theorem wpO_neSame {x : Str} (h : P (.bl false) S) : wpO (gNe (.str x) (.str x) S) P := by
  refine wpO_neS ?_
  rw [decide_eq_true rfl]
  exact h
theorem wpO_pow18 (h : P (.int (10 ^ 18)) S) : wpO (gPow (.int 10) (.int 18) S) P := wpO_of pow18 h
end
theorem KpX.set {p : Nat} {S : Store} {o : O} : KpX p S (S.set p o) := ⟨fun n q h e => by rw [List.getElem?_set_ne (Ne.symm h)]; exact e, by rw [List.length_set]; exact Nat.le_refl _⟩
/-- the pen's parts -/
theorem Pen.open {p c n : Nat} {S : Store} (P : Pen p c n S) : ∃ (ns : List Int) (t ρ : Int), S[p]? = some (.dct (penK c t ρ)) ∧ S[c]? = some (.lst (ns.map D.int)) ∧ ns.length ≤ 63 ∧ (∀ z ∈ ns, z.natAbs < 2 ^ 1048577) ∧ 0 ≤ t ∧ t ≤ n ∧ 0 ≤ ρ ∧ ρ.natAbs < 2 ^ 1048577 ∧ c ≠ p := by
  obtain ⟨⟨ns, t, ρ, h1, h2, h3, h4, h5, h6, h7, h8⟩, hn⟩ := P
  exact ⟨ns, t, ρ, h1, h2, h3, h4, h5, h6, h7, h8, hn⟩
theorem Pen.mk' {p c n : Nat} {S : Store} {ns : List Int} {t ρ : Int} (h1 : S[p]? = some (.dct (penK c t ρ))) (h2 : S[c]? = some (.lst (ns.map D.int))) (h3 : ns.length ≤ 63) (h4 : ∀ z ∈ ns, z.natAbs < 2 ^ 1048577) (h5 : 0 ≤ t) (h6 : t ≤ n) (h7 : 0 ≤ ρ) (h8 : ρ.natAbs < 2 ^ 1048577) (hn : c ≠ p) : Pen p c n S :=
  ⟨⟨ns, t, ρ, h1, h2, h3, h4, h5, h6, h7, h8⟩, hn⟩
theorem rest_small {i q : Int} (h : i.natAbs < 2 ^ 1048577) (h2 : 10 ^ 18 ≤ (if i < 0 then -i else i)) (h0 : 0 < q) : 0 ≤ ((if i < 0 then -i else i) - 10 ^ 18) / q ∧ (((if i < 0 then -i else i) - 10 ^ 18) / q).natAbs < 2 ^ 1048577 := by
  have a : ((if i < 0 then -i else i) - 10 ^ 18) ≥ 0 := by omega
  have b : (((if i < 0 then -i else i) - 10 ^ 18) / q) ≤ ((if i < 0 then -i else i) - 10 ^ 18) := Int.ediv_le_self _ a
  have d : 0 ≤ (((if i < 0 then -i else i) - 10 ^ 18) / q) := Int.ediv_nonneg a (by omega)
  refine ⟨d, ?_⟩
  generalize (((if i < 0 then -i else i) - 10 ^ 18) / q) = y at b d
  generalize (2 : Nat) ^ 1048577 = M at h
  have : (10 : Int) ^ 18 = 1000000000000000000 := by decide
  split at b <;> omega
theorem atI_in {xs : List Int} {i : Int} (h0 : 0 ≤ i) (h1 : i < xs.length) : ∃ z ∈ xs, L2.atI (xs.map D.int) i = some (.int z) := by
  have hk : i.toNat < xs.length := by omega
  refine ⟨xs[i.toNat], List.getElem_mem hk, ?_⟩
  have : L2.atI (xs.map D.int) ((i.toNat : Nat) : Int) = some (.int xs[i.toNat]) := L2.atI_nat (by rw [List.getElem?_map, List.getElem?_eq_getElem hk]; rfl)
  rw [show ((i.toNat : Nat) : Int) = i by omega] at this
  exact this

section
variable {N J : En → Store → Prop} {R R' : D → Store → Prop} {B C B' C' : En → Store → Prop} {X X' : XKs}
theorem wpS_mono {m : SRes} (h : wpS m J R' B' C' X') (n : ∀ e T, J e T → N e T) (r : ∀ d T, R' d T → R d T) (b : ∀ e T, B' e T → B e T) (c : ∀ e T, C' e T → C e T) (x : ∀ a i e T, X' a i e T → X a i e T) : wpS m N R B C X := by
  cases m with
  | nx e T => exact n _ _ h
  | rt d T => exact r _ _ h
  | bk e T => exact b _ _ h
  | ct e T => exact c _ _ h
  | err a i e T => exact x _ _ _ _ h
  | bad => exact h
/-- two ways that meet again -/
theorem wp_split {k : Bool} {a b : SRes} (J : En → Store → Prop) (h : ∀ e T, J e T → N e T) (q : (k = true → wpS a J R B C X) ∧ (k = false → wpS b J R B C X)) : (k = true → wpS a N R B C X) ∧ (k = false → wpS b N R B C X) :=
  ⟨fun e => wpS_mono (q.1 e) h (fun _ _ z => z) (fun _ _ z => z) (fun _ _ z => z) fun _ _ _ _ z => z, fun e => wpS_mono (q.2 e) h (fun _ _ z => z) (fun _ _ z => z) (fun _ _ z => z) fun _ _ _ _ z => z⟩
theorem wpS_seqJ {a b : MS} {en : En} {S : Store} (J : En → Store → Prop) (h1 : wpS (a en S) J R B C X) (h2 : ∀ e T, J e T → wpS (b e T) N R B C X) : wpS (mSeq a b en S) N R B C X := wpS_seq (wpS_mono h1 h2 (fun _ _ z => z) (fun _ _ z => z) (fun _ _ z => z) fun _ _ _ _ z => z)
end

/-! ### values beside the things that change (f says which) -/
def mask (f : Nat → Bool) (S : Store) : Store := S.mapIdx fun i o => if f i = true then .xd [] else o
theorem mask_at {f : Nat → Bool} {k : Nat} {S : Store} {o : O} (h : f k = false) (e : S[k]? = some o) : (mask f S)[k]? = some o := by
  unfold mask
  rw [List.getElem?_mapIdx, e, Option.map_some, if_neg (by rw [h]; decide)]
theorem mask_yes {f : Nat → Bool} {k : Nat} {S : Store} (h : f k = true) (l : k < S.length) : (mask f S)[k]? = some (.xd []) := by
  unfold mask
  rw [List.getElem?_mapIdx, List.getElem?_eq_getElem l, Option.map_some, if_pos h]
theorem mask_len {f : Nat → Bool} {S : Store} : (mask f S).length = S.length := by unfold mask; rw [List.length_mapIdx]
theorem mask_inv {f : Nat → Bool} {S : Store} {k : Nat} {o : O} (e : (mask f S)[k]? = some o) (h : o ≠ .xd []) : f k = false ∧ S[k]? = some o := by
  have hl := lt_of_at e
  rw [mask_len] at hl
  by_cases hk : f k = true
  · rw [mask_yes hk hl] at e; exact absurd (Option.some.inj e).symm h
  · have hk : f k = false := by cases z : f k <;> first | rfl | exact absurd z hk
    refine ⟨hk, ?_⟩
    rw [mask_at hk (List.getElem?_eq_getElem hl)] at e
    rw [List.getElem?_eq_getElem hl]
    exact e
/-- all but the things that change stand -/
structure KpF (f : Nat → Bool) (S T : Store) : Prop where
  k : ∀ (n : Nat) (o : O), f n = false → S[n]? = some o → T[n]? = some o
  len : S.length ≤ T.length
theorem KpX.f {f : Nat → Bool} {p : Nat} {S T : Store} (k : KpX p S T) (h : f p = true) : KpF f S T := ⟨fun n o hn e => k.k n o (fun z => by rw [z, h] at hn; cases hn) e, k.len⟩
theorem KpF.set {f : Nat → Bool} {v : Nat} {S : Store} {o : O} (h : f v = true) : KpF f S (S.set v o) := ⟨fun n q hn e => by rw [List.getElem?_set_ne (fun z => by rw [← z, h] at hn; cases hn)]; exact e, by rw [List.length_set]; exact Nat.le_refl _⟩
theorem mask_kf {f : Nat → Bool} {S T : Store} (k : KpF f S T) : Kp (mask f S) (mask f T) := fun n o e => by
  have hl := lt_of_at e
  rw [mask_len] at hl
  by_cases h : f n = true
  · rw [mask_yes h hl] at e
    rw [mask_yes h (Nat.lt_of_lt_of_le hl k.len)]
    exact e
  · have h : f n = false := by cases z : f n <;> first | rfl | exact absurd z h
    rw [mask_at h (List.getElem?_eq_getElem hl)] at e
    exact mask_at h (k.k n o h (by rw [List.getElem?_eq_getElem hl]; exact e))
theorem Kp.f {f : Nat → Bool} {S T : Store} (k : Kp S T) : KpF f S T := ⟨fun n o _ e => k n o e, k.len⟩
theorem KpF.trans {f : Nat → Bool} {S T U : Store} (a : KpF f S T) (b : KpF f T U) : KpF f S U := ⟨fun n o h e => b.k n o h (a.k n o h e), Nat.le_trans a.len b.len⟩
theorem Pen.st {p c n v : Nat} {S : Store} {o : O} (P : Pen p c n S) (h1 : v ≠ p) (h2 : v ≠ c) : Pen p c n (S.set v o) := by
  obtain ⟨⟨ns, t, ρ, q1, q2, q⟩, ne⟩ := P
  exact ⟨⟨ns, t, ρ, by rw [List.getElem?_set_ne h1]; exact q1, by rw [List.getElem?_set_ne h2]; exact q2, q⟩, ne⟩
theorem toPy_mask {f : Nat → Bool} {S : Store} : ∀ (n : Nat) {d : D} {q : PyData}, toPy (mask f S) n d = some q → toPy S n d = some q
  | 0, d, q, e => by cases d <;> exact e
  | n + 1, d, q, e => by
    have key : ∀ {xs : List D} {F : List PyData → PyData}, (xs.mapM (toPy (mask f S) n)).map F = some q → (xs.mapM (toPy S n)).map F = some q := fun {xs F} e => by
      obtain ⟨ps, e1, e2⟩ := Option.map_eq_some_iff.mp e
      rw [mapM_kp (fun d r z => toPy_mask n z) e1]
      exact congrArg some e2
    cases d with
    | tup xs => exact key e
    | kl xs =>
      have e : (if 63 ≤ n then (xs.mapM (toPy (mask f S) n)).map PyData.list else none) = some q := e
      show (if 63 ≤ n then (xs.mapM (toPy S n)).map PyData.list else none) = some q
      by_cases hn : 63 ≤ n
      · rw [if_pos hn] at e ⊢
        exact key e
      · rw [if_neg hn] at e
        cases e
    | ref m =>
      unfold toPy at e ⊢
      cases z : (mask f S)[m]? with
      | none => rw [z] at e; cases e
      | some o =>
        rw [z] at e
        cases o with
        | lst xs => rw [(mask_inv z (fun w => nomatch w)).2]; exact key e
        | dct kvs => rw [(mask_inv z (fun w => nomatch w)).2]; exact key e
        | _ => cases e
    | _ => exact e
section
variable {f : Nat → Bool} {p n m b : Nat} {S T : Store} {d : D} {xs : List D}
theorem Nc.un (h : Nc n m b (mask f S) d) : Nc n m b S d := let ⟨q, h1, h2, h3⟩ := h.ex; ⟨q, toPy_mask n h1, h2, h3⟩
theorem Nc.kf (h : Nc n m b (mask f S) d) (k : KpF f S T) : Nc n m b (mask f T) d := h.kp (mask_kf k)
theorem NcL.kf (h : NcL n m b (mask f S) xs) (k : KpF f S T) : NcL n m b (mask f T) xs := h.kp (mask_kf k)
/-- its kind, wherever it stands -/
theorem Nc.kindX (h : Nc n m b (mask f S) d) : ∃ q, ∀ T, KpF f S T → kindD d T = some q := by
  obtain ⟨py, h1, _, _⟩ := h.ex
  cases d with
  | non => exact ⟨_, fun _ _ => rfl⟩
  | bl c => exact ⟨_, fun _ _ => rfl⟩
  | int i => exact ⟨_, fun _ _ => rfl⟩
  | str i => exact ⟨_, fun _ _ => rfl⟩
  | tup xs => exact ⟨_, fun _ _ => rfl⟩
  | kl xs => exact ⟨_, fun _ _ => rfl⟩
  | ref k =>
    cases n with
    | zero => cases h1
    | succ n =>
      unfold toPy at h1
      cases q : (mask f S)[k]? with
      | none => rw [q] at h1; cases h1
      | some o =>
        rw [q] at h1
        cases o with
        | lst xs =>
          obtain ⟨q1, q2⟩ := mask_inv q (fun z => nomatch z)
          exact ⟨.lst, fun T kx => by unfold kindD; dsimp only; rw [kx.k _ _ q1 q2]⟩
        | dct xs =>
          obtain ⟨q1, q2⟩ := mask_inv q (fun z => nomatch z)
          exact ⟨.dct, fun T kx => by unfold kindD; dsimp only; rw [kx.k _ _ q1 q2]⟩
        | _ => cases h1
  | _ => cases n <;> cases h1
/-- it shows, and shows the same wherever it stands -/
theorem Nc.reprX (h : Nc n m b (mask f S) d) (hn : n ≤ 64) (hm : m ≤ 800) (hb : b ≤ 1900) : ∃ x, ∀ T, KpF f S T → reprP d T = some x := by
  obtain ⟨py, h1, h2, h3⟩ := h.ex
  have a := shown_len hb h2
  have sm : 20010 * 800 ≤ sizeLine := by decide
  refine ⟨py.shown, fun T k => ?_⟩
  unfold reprP
  have e : pyD T d = some py := toPy_le hn (toPy_mask n (toPy_kp (mask_kf k) n h1))
  rw [e]
  have e2 := toPy_depth n h1
  exact if_pos ⟨okP.showable hb h2, by omega, by omega⟩
end
/-! ### a dict display -/
section
variable {en : En} {S : Store} {E : EK} {P : D → Store → Prop} {Q : List (D × D) → Store → Prop}
theorem wpE_psN (h : Q [] S) : wpE (mPsN en S) Q E := h
theorem wpE_psC {mk mv : ME} {m : MP} (h : wpE (mk en S) (fun k T => wpE (mv en T) (fun v U => wpE (m en U) (fun ps V => Q ((k, v) :: ps) V) E) E) E) : wpE (mPsC mk mv m en S) Q E :=
  wpE_bind (wpE_mono h (fun _ _ q => wpE_bind (wpE_mono q (fun _ _ q => wpE_bind q) fun _ _ _ q => q)) fun _ _ _ q => q)
theorem wpE_disp {m : MP} (h : ∀ n T, Kp S T → S.length ≤ n → T[n]? = some (.dct []) → wpE (m en T) (fun ps U => U[n]? = some (.dct []) ∧ ∃ kvs, keysD ps = some kvs ∧ kvs.length ≤ 15 ∧ ∀ V, KpX n U V → V[n]? = some (.dct (mergeD [] kvs)) → P (.ref n) V) E) : wpE (mDisp m en S) P E := by
  refine wpE_bind (wpE_mono (h S.length (S ++ [.dct []]) Kp.app (Nat.le_refl _) at_mid) (fun ps U ⟨h1, kvs, h2, h3, h4⟩ => ?_) fun _ _ _ q => q)
  refine wpE_o (wpO_of (d := .ref S.length) (T := U.set S.length (.dct (mergeD [] kvs))) ?_ (h4 _ KpX.set (List.getElem?_set_self (lt_of_at h1))))
  unfold mDispE
  rw [h1]
  dsimp only
  rw [h2]
  exact if_pos h3
theorem Kp.disp {S T V : Store} {n : Nat} (k : Kp S T) (l : S.length ≤ n) (x : KpX n T V) : Kp S V := fun m o e => x.k m o (by have := lt_of_at e; omega) (k m o e)
end
end Q

namespace Q
open PySem PySem.Spec PyProof.Rows L2
variable [Gh : Ghost]
/-! ### errors of the text over any built-in one, each with an __init__ of its own -/
structure EB (B newId initId : String) (bb : List Value) : Prop where
  f : ExcBaseFacts B newId initId bb
  st : StoreFacts B bb "object.__setattr__" "object"
  ob : bb.contains (.type "object") = true
  nr : ∀ a, bb.contains (.ref a) = false
  ty : typeOf (.type B) = pure (.type "type")
  stub : Manifest.isStub B = false
  hand : PySem.W.handedIn (.builtin initId) = true
theorem eb_ValueError : EB "ValueError" "ValueError.__new__" "ValueError.__init__" [.type "ValueError", .type "Exception", .type "BaseException", .type "object"] :=
  ⟨F.excBase_ValueError, F.store_ValueError, by decide +kernel, fun a => by simp, by kernel_rfl, by decide +kernel, by decide +kernel⟩
/-- what the written part says of such a class -/
structure EcOk (K : PySem.W.Frag) (B newId initId : String) (bb : List Value) (C : Addr) : Prop where
  eb : EB B newId initId bb
  cls : ∃ nm q N bs sn sub ab col dd k0 k1 k2 k3 k5, K.lookup C = some (excClassObj nm q C N bs bb true sn sub ab col dd k0 k1 k2 k3 k5 newId)
  sa : PySem.W.findIn K (.ref C) "__setattr__" = some (some (.builtin "object.__setattr__"))
  exC : PySem.W.subIn K (.ref C) (.type "BaseException") = some true
  tyC : PySem.W.typeIn K (.ref C) = some (.type "type")
  kC : PySem.W.keepIn K (.ref C) = true
  ga : PySem.W.findIn K (.ref C) "__getattribute__" = some (some (.builtin "BaseException.__getattribute__"))
  gg : PySem.W.findIn K (.ref C) "__getattr__" = some none
  ca : PySem.W.findIn K (.ref C) "__class__" = some (some (.builtin "object.__class__"))
  cn : PySem.W.specialIn K (.builtin "object.__class__") "__get__" = some (some (.builtin "getset_descriptor.__get__"))
  ct : PySem.W.takesIn K (.builtin "object.__class__") = some true
variable {K : PySem.W.Frag} {B newId initId : String} {bb : List Value} {C : Addr}
theorem EcOk.cd (T : EcOk K B newId initId bb C) : ∃ cd : ClassData, PySem.W.clsIn K C = some cd ∧ cd.mro = .ref C :: bb ∧ cd.hasDict = true := by
  obtain ⟨nm, q, N, bs, sn, sub, ab, col, dd, k0, k1, k2, k3, k5, h⟩ := T.cls
  refine ⟨{ name := nm, bases := bs, mro := .ref C :: bb, ns := N, qualname := q, hasDict := true, slotNames := sn, subclasses := sub, abstract := ab, collection := col, hasDel := false }, ?_, rfl, rfl⟩
  unfold PySem.W.clsIn
  rw [h] <;> rfl
theorem EcOk.hd (T : EcOk K B newId initId bb C) : PySem.W.hasDictIn K C = true := by
  obtain ⟨cd, h1, _, h3⟩ := T.cd
  unfold PySem.W.hasDictIn
  rw [h1]
  exact h3
/-- one of two such classes below the other: only itself -/
theorem EcOk.sub {B' newId' initId' : String} {bb' : List Value} {C' : Addr} (T : EcOk K B newId initId bb C) (T' : EcOk K B' newId' initId' bb' C') : PySem.W.subIn K (.ref C) (.ref C') = some (decide (C = C')) := by
  obtain ⟨cd, h1, h2, _⟩ := T.cd
  show PySem.W.mroIn K C (.ref C') = _
  unfold PySem.W.mroIn
  rw [h1, Option.bind_some, h2]
  rw [if_neg (by simp)]
  congr 1
  rw [List.contains_cons, T.eb.nr, Bool.or_false]
  by_cases e : C = C'
  · subst e
    simp
  · rw [decide_eq_false e]
    simpa using fun z => e z.symm
theorem EcOk.exm {B' newId' initId' : String} {bb' : List Value} {C' : Addr} (T : EcOk K B newId initId bb C) (T' : EcOk K B' newId' initId' bb' C') : PySem.W.exmOne K (.ref C) (.ref C') = some (decide (C = C')) :=
  PySem.W.exm_ref T'.exC T'.hd T'.tyC (T.sub T')
theorem EcOk.mro (T : EcOk K B newId initId bb C) (v : Value) : PySem.W.mroIn K C v = some ((Value.ref C :: bb).contains v) := by
  obtain ⟨cd, h1, h2, _⟩ := T.cd
  unfold PySem.W.mroIn
  rw [h1, Option.bind_some, h2]
  rw [if_neg (by simp)]
theorem EcOk.raises {X : Cx} (T : EcOk X.K B newId initId bb C) : Raises X (.ref C) := raises_own T.exC T.tyC
/-! #### storing a field -/
section
open PySem.W PySem.Calls PySem.HandSPX Builtin Builtin.ObjectAttr
variable {prog : Program} {w : World} {A : Around} {E : Value → Shared → Prop} {R : Result → Shared → Prop} {hp : Heap} {g : Array GenState} {d : Drawn} {t : Nat} {os : OsState}
/-- an error's first field -/
theorem put_first {e0 : Addr} {fv : Array Value} {fld : Str} {tk : Tok} {v : Value} (T : EcOk K B newId initId bb C) (KI : K.In hp) (he0 : hp.get? e0 = some { cls := .ref C, data := .fields fv }) (hno : W.findIn K (.ref C) fld = some none)
    (fin : ∀ h2 tk2 dx, (∀ b o, b ≠ e0 → hp.get? b = some o → h2.get? b = some o) → hp.objs.size ≤ dx → dx ≠ e0 → h2.get? e0 = some { cls := .ref C, dict := some dx, data := .fields fv } → h2.Ns1 dx (fun y => if y = fld then some v else none) → R (.ok (.ret .none)) ⟨h2, g, d, tk2, os⟩) :
    codeAny (model prog w) A (.call (.builtin "object.__setattr__") ⟨[.ref e0, .str fld tk, v], []⟩) R ⟨hp, g, d, t, os⟩ := by
  obtain ⟨cd, hcd, hmr, hdt⟩ := T.cd
  have IA : W.InstAt hp e0 { cls := .ref C, data := .fields fv } C none := ⟨he0, rfl, rfl, trivial⟩
  have S0 := F.store_object
  have isObj : W.mroIn K C (.type "object") = some true := by
    unfold W.mroIn
    rw [hcd, Option.bind_some, hmr, if_neg (by simp), List.contains_cons, T.eb.ob, Bool.or_true]
  have apart : e0 ≠ hp.objs.size := Nat.ne_of_lt (Heap.lt_size he0)
  refine codeAny_call_builtin S0.slot.plain S0.entry (@W.check_slot (model prog w) _ _ ⟨hp, g, d, t, os⟩ "object.__setattr__" "object" "__setattr__" (.ref e0) [.str fld tk, v] [] _ S0.kind S0.split (IA.type.andThen (W.looks_mroIn KI isObj)) (S0.args (.ref e0) (.str fld tk) v) ?_)
  have lMro : W.Looks (model prog w) hp (mroOf (.ref C)) (.ref C :: bb) := by
    rw [← hmr]
    exact (W.looks_clsIn KI hcd).andThen .now
  have lTake : W.Looks (model prog w) hp (storeTaker? none) none := .now
  have lCls : W.Looks (model prog w) hp (classData C) cd := W.looks_clsIn KI hcd
  rw [W.osa_eq, refuse_eq]
  refine wpAny_bind (wpAny_bind (IA.type.at (wpAny_bind (lMro.at ?_))))
  rw [refuseLoop_ref, T.eb.st.passes]
  refine wpAny_pure (wpAny_bind (IA.type.at (wpAny_bind ((W.looks_findIn KI hno).at (wpAny_bind (lTake.at ?_))))))
  show wpAny _ _ (storeInOwnDict (.ref e0) (.ref C) (.str fld tk) fld v false) _ _ _
  obtain ⟨n1, n2, n3, n4, n5, n6, n7, n8, n9, n10, n11⟩ := cd
  dsimp only at hdt
  subst hdt
  unfold storeInOwnDict ownDictForStores
  repeat (first | with_reducible refine store_in_new ?_ ?_ | with_reducible refine wpAny_loadPart_at he0 ?_ | with_reducible refine lCls.at ?_ | wp_step)
  · exact ⟨_, #[], _, (Heap.get?_update_ne _ _ _ _ apart.symm).trans (Heap.get?_push_at rfl rfl), rfl, fun z hz => absurd hz (by simp), fun _ => rfl⟩
  · intro h2 tk2 ns sb
    have p1 : (hp.push { cls := .type "dict", data := .dict #[] }).get? e0 = some { cls := .ref C, data := .fields fv } := Heap.get?_push_of_some _ he0
    refine fin h2 tk2 hp.objs.size (fun b o hb ho => ?_) (Nat.le_refl _) apart.symm ?_ ns
    · exact (sb.2 b (Nat.ne_of_lt (Heap.lt_size ho))).trans ((Heap.get?_update_ne _ _ _ _ hb).trans (Heap.get?_push_of_some _ ho))
    · exact (sb.2 e0 apart).trans (Heap.get?_update_self _ p1 rfl)
/-- .. a further one -/
theorem put_more {e0 dx : Addr} {fv : Array Value} {fld : Str} {tk : Tok} {v : Value} {m0 : Str → Option Value} {nl : List Str} (T : EcOk K B newId initId bb C) (KI : K.In hp) (he0 : hp.get? e0 = some { cls := .ref C, dict := some dx, data := .fields fv })
    (hns : hp.Ns1 dx m0) (hw : Within m0 nl) (hz : nl.length ≤ 1000) (hno : W.findIn K (.ref C) fld = some none)
    (fin : ∀ h2 tk2, (∀ b o, b ≠ dx → hp.get? b = some o → h2.get? b = some o) → h2.Ns1 dx (fun y => if y = fld then some v else m0 y) → R (.ok (.ret .none)) ⟨h2, g, d, tk2, os⟩) :
    codeAny (model prog w) A (.call (.builtin "object.__setattr__") ⟨[.ref e0, .str fld tk, v], []⟩) R ⟨hp, g, d, t, os⟩ := by
  obtain ⟨cd, hcd, hmr, hdt⟩ := T.cd
  obtain ⟨oD, eD, pD, hoD, dD, _⟩ := hns.count hw
  have IA : W.InstAt hp e0 { cls := .ref C, dict := some dx, data := .fields fv } C (some oD) := ⟨he0, rfl, rfl, hoD⟩
  have S0 := F.store_object
  have isObj : W.mroIn K C (.type "object") = some true := by
    unfold W.mroIn
    rw [hcd, Option.bind_some, hmr, if_neg (by simp), List.contains_cons, T.eb.ob, Bool.or_true]
  refine codeAny_call_builtin S0.slot.plain S0.entry (@W.check_slot (model prog w) _ _ ⟨hp, g, d, t, os⟩ "object.__setattr__" "object" "__setattr__" (.ref e0) [.str fld tk, v] [] _ S0.kind S0.split (IA.type.andThen (W.looks_mroIn KI isObj)) (S0.args (.ref e0) (.str fld tk) v) ?_)
  have lMro : W.Looks (model prog w) hp (mroOf (.ref C)) (.ref C :: bb) := by
    rw [← hmr]
    exact (W.looks_clsIn KI hcd).andThen .now
  have lTake : W.Looks (model prog w) hp (storeTaker? none) none := .now
  have lCls : W.Looks (model prog w) hp (classData C) cd := W.looks_clsIn KI hcd
  rw [W.osa_eq, refuse_eq]
  refine wpAny_bind (wpAny_bind (IA.type.at (wpAny_bind (lMro.at ?_))))
  rw [refuseLoop_ref, T.eb.st.passes]
  refine wpAny_pure (wpAny_bind (IA.type.at (wpAny_bind ((W.looks_findIn KI hno).at (wpAny_bind (lTake.at ?_))))))
  show wpAny _ _ (storeInOwnDict (.ref e0) (.ref C) (.str fld tk) fld v false) _ _ _
  obtain ⟨n1, n2, n3, n4, n5, n6, n7, n8, n9, n10, n11⟩ := cd
  dsimp only at hdt
  subst hdt
  unfold storeInOwnDict ownDictForStores
  repeat (first | with_reducible refine PySem.OEX.store_in_old hns hw hz ?_ | with_reducible refine wpAny_loadPart_at he0 ?_ | with_reducible refine lCls.at ?_ | wp_step)
  intro h2 tk2 ns sb
  exact fin h2 tk2 (fun b o hb ho => (sb.2 b hb).trans ho) ns
end
end Q

namespace Q
open PySem PySem.Spec PyProof.Rows L2
variable [Gh : Ghost]
/-! ### an error of the text being made -/
variable {B newId initId : String} {bb : List Value} {C : Addr}
section
variable {X : Cx} {pins : List (Addr × Obj)} {σ : L2.St} {H : Hp} {s : Shared} {a dx : Addr} {fl : Str} {y : V} {u : Value} {fs : List (Str × V)} {Q : Unit → Shared → Prop} {E : Value → Shared → Prop} {A : Around}
theorem fld_first (T : EcOk X.K B newId initId bb C) (I : Inv X pins σ H s) (ha : H a = some (exo a C none)) (hno : PySem.W.findIn X.K (.ref C) fl = some none) (ry : RelV y u)
    (go : ∀ dx s', H dx = none → dx ≠ a → Inv X pins σ (upd (upd H dx (exd dx [(fl, y)])) a (exo a C (some dx))) s' → Q () s') : wpAny (model X.prog X.w) A (setAttr (.ref a) fl u) Q E s := by
  obtain ⟨t1, ob⟩ := exo_at I.hok ha
  obtain ⟨hp, g, d, t, os⟩ := s
  refine PySem.W.set_plain I.kIn (ox := { cls := .ref C, dict := none, data := .fields #[.ref t1, .none, .none, .none, .bool false, .none] }) (od := none) ⟨ob, rfl, rfl, trivial⟩ T.sa ?_
  refine put_first T I.kIn ob hno fun h2 tk2 dx kept new far at2 ns => ?_
  have free : H dx = none := I.hok.fresh new
  have old : ∀ {b : Addr} {o : Obj}, hp.get? b = some o → b ≠ dx := fun {b o} z => Nat.ne_of_lt (Nat.lt_of_lt_of_le (Heap.lt_size z) new)
  have nota : ∀ {b : Addr}, H b = none → b ≠ a := fun {b} n z => by
    rw [z, ha] at n
    cases n
  have U : Un X.fs [] H (upd (upd H dx (exd dx [(fl, y)])) a (exo a C (some dx))) hp h2 := {
    keep := fun b o z n _ _ => kept b o (nota n) z
    slot := fun b o z n _ _ => ⟨o.slots, kept b o (nota n) z⟩
    free := fun b o z n _ => by rw [upd_ne (nota n), upd_ne (old z)]; exact n
    there := fun b o z _ => by
      by_cases hb : b = a
      · exact ⟨_, by rw [hb]; exact at2⟩
      · exact ⟨o, kept b o hb z⟩
    tups := fun b xs z => by rw [upd_ne (at_ne ha z exo_tup), upd_ne (ne_of_none z free)]; exact z
    frzs := fun b o v z => by rw [upd_ne (at_ne ha z exo_frz), upd_ne (ne_of_none z free)]; exact z
    tbls := fun b ps z => ⟨#[], by rw [upd_ne (at_ne ha z exo_tbl), upd_ne (ne_of_none z free), z]; simp⟩ }
  refine go dx _ free far (I.un (t' := tk2) U fun b o z => ?_)
  by_cases hb : b = a
  · subst hb
    rw [upd_same] at z
    cases z
    exact exo_ok at2
  · rw [upd_ne hb] at z
    by_cases hd : b = dx
    · subst hd
      rw [upd_same] at z
      cases z
      exact exd_ok ns (relO_put (fs := []) ry fun _ => True.intro)
    · rw [upd_ne hd] at z
      exact (I.hok b o z).stay (fun c v hc q => kept c v (by
          rcases hc with hc | hc
          · rw [hc]
            exact hb
          · exact at_ne ha hc exo_own) q)
        (fun c hc => by rw [upd_ne (at_ne ha hc exo_own), upd_ne (ne_of_none hc free)]; exact hc) (fun c xs hc => by rw [upd_ne (at_ne ha hc exo_tup), upd_ne (ne_of_none hc free)]; exact hc)
theorem fld_more (T : EcOk X.K B newId initId bb C) (I : Inv X pins σ H s) (ha : H a = some (exo a C (some dx))) (hd : H dx = some (exd dx fs)) (hl : fs.length ≤ 900) (hno : PySem.W.findIn X.K (.ref C) fl = some none) (ry : RelV y u)
    (go : ∀ s', Inv X pins σ (upd H dx (exd dx ((fl, y) :: fs))) s' → Q () s') : wpAny (model X.prog X.w) A (setAttr (.ref a) fl u) Q E s := by
  obtain ⟨t1, ob⟩ := exo_at I.hok ha
  obtain ⟨mA, ns, rel⟩ := exd_at I.hok hd
  have wi := within_of rel
  obtain ⟨hp, g, d, t, os⟩ := s
  obtain ⟨oD, _, _, hoD, _, _⟩ := ns.count wi
  refine PySem.W.set_plain I.kIn (ox := { cls := .ref C, dict := some dx, data := .fields #[.ref t1, .none, .none, .none, .bool false, .none] }) (od := some oD) ⟨ob, rfl, rfl, hoD⟩ T.sa ?_
  refine put_more T I.kIn ob ns wi (by rw [List.length_map]; omega) hno fun h2 tk2 kept ns2 => ?_
  have there : ∃ o, h2.get? dx = some o := by
    obtain ⟨o, _, _, z, _⟩ := ns2
    exact ⟨o, z⟩
  exact go _ (I.write (t' := tk2) (x := dx) (e := dx) (o := exd dx ((fl, y) :: fs)) (by rw [hd]; exact True.intro) (.inl rfl) kept there (exd_ok ns2 (relO_put ry rel)))
/-- the built-in __init__ -/
theorem base_init {us : List Value} {Q : Value → Shared → Prop} (T : EcOk X.K B newId initId bb C) (I : Inv X pins σ H s) (ha : H a = some (exo a C none)) (hl : us.length ≤ sizeLine) (go : ∀ s', Inv X pins σ H s' → Q .none s') :
    wpAny (model X.prog X.w) A (call (.builtin initId) (.ref a :: us)) Q E s := by
  obtain ⟨nm, q, N, bs, sn, sub, ab, col, dd, k0, k1, k2, k3, k5, hC⟩ := T.cls
  obtain ⟨t1, ob⟩ := exo_at I.hok ha
  obtain ⟨hp, g, d, t, os⟩ := s
  refine wpAny_call (PySem.HandSPX.init_base T.eb.f (fun _ => rfl) (I.kIn _ _ hC) ob hl fun h2 t2 kept at2 => ?_)
  have J := I.write (t' := t) (x := a) (e := a) (o := exo a C none) (by rw [ha]; exact True.intro) (.inl rfl) kept ⟨_, at2⟩ (exo_ok at2)
  have same : upd H a (exo a C none) = H := by
    funext b
    by_cases hb : b = a
    · rw [hb, upd_same, ha]
    · rw [upd_ne hb]
  rw [same] at J
  exact go _ J
end
/-! #### as rules -/
/-- the first argument stands for itself; none is starred -/
abbrev Heads (X : Cx) (e : Expr) (es : List Expr) : Prop := starEach (e :: es) X.env = (false, eval e X.env) :: starEach es X.env
abbrev Plain_ (X : Cx) (es : List Expr) (pos : Pos) : Prop := (backTo pos (starEach es X.env)).any (fun a => a.1) = false
/-- B.__init__(self, ..) -/
def tBI (K : PySem.W.Frag) (B newId initId : String) (bb : List Value) (ta : TA) : TE := fun σ H Q => ta σ H fun vs H1 => ∃ (a C : Addr) (ws : List V), vs = .ref a :: ws ∧ ws.length ≤ 1000 ∧ EcOk K B newId initId bb C ∧ H1 a = some (exo a C none) ∧ Q .non H1
/-- the error has no fields yet: it gets a dict of this one -/
def FldNew (D : Ends) (σ : L2.St) (H : Hp) (a C : Addr) (f : Str) (y : V) : Prop := H a = some (exo a C none) ∧ ∀ n, n ≠ a → H n = none → D.nx σ (upd (upd H n (exd n [(f, y)])) a (exo a C (some n)))
/-- it has some -/
def FldMore (D : Ends) (σ : L2.St) (H : Hp) (a C : Addr) (f : Str) (y : V) : Prop := ∃ (n : Addr) (l : List (Str × V)), l.length ≤ 900 ∧ H a = some (exo a C (some n)) ∧ H n = some (exd n l) ∧ D.nx σ (upd H n (exd n ((f, y) :: l)))
/-- self.f = e -/
def tFl (K : PySem.W.Frag) (B newId initId : String) (bb : List Value) (f : Str) (to te : TE) : TS := fun D σ H => te σ H fun y H1 => to σ H1 fun x H2 => ∃ a C : Addr, x = .ref a ∧ EcOk K B newId initId bb C ∧ PySem.W.findIn K (.ref C) f = some none ∧
  (FldNew D σ H2 a C f y ∨ FldMore D σ H2 a C f y)
section
variable {X : Cx} {o e : Expr} {es : List Expr} {to te : TE} {ta : TA} {f x : Str} {p p' p1 p2 pos : Pos}
theorem pe_bi {pl : Sem Bool} (eb : EB B newId initId bb) (hg : Gl X x) (hm : X.mg x = none) (hbo : bootBuiltins x = some (.type B)) (vV : PySem.W.findCls X.K (.type B) (.type "type") "__init__" = some (.val (.builtin initId)))
    (ha : PA X (e :: es) ta) (hdb : (x == ("__debug__" : Str)) = false := by decide) (hnn : x ≠ "__name__" := by decide)
    (hc : eval (.Call (.Attribute (.Name x p1) "__init__" p2) (e :: es) [] pos) X.env = (do let ov ← eval (.Name x p1) X.env; standAt p2.atName; let (f, first) ← holding [ov] (getMethod ov "__init__" pl); callWith pos f first (backTo pos (starEach (e :: es) X.env)) (backToKw pos (keywordEach [] X.env))) := by rfl)
    (he : Heads X e es := by rfl) (hpl : Plain_ X es pos := by rfl) :
    PE X (.Call (.Attribute (.Name x p1) "__init__" p2) (e :: es) [] pos) (tBI X.K B newId initId bb ta) := by
  refine ⟨fun pins s σ H Q I h => ?_⟩
  refine PySem.W.methodCall_KW (ld_blt I hg hm hbo ?_ hnn hdb) hc
  obtain ⟨m, fr⟩ := I.fr
  refine PySem.W.method_type fr I.ok.mod.kin eb.ty eb.stub vV eb.hand ?_
  show wpAny _ _ (callWith pos (Value.builtin initId) [] (backTo pos (starEach (e :: es) X.env)) []) _ _ _
  refine PyProof.Rows.callWith_method1 (thn (ha.run pos pins _ σ H _ (I.tok _) h) fun us s1 ⟨vs, H1, I1, rs, a, C, ws, ev, hl, T, ea, q⟩ => ?_) he hpl
  subst ev
  cases rs with
  | @cons _ u0 _ ur ra rw' =>
    obtain rfl : u0 = Value.ref a := ra
    have small : ur.length ≤ sizeLine := by
      rw [← Paired.length rw', sizeLine_eq]
      omega
    exact base_init T I1 ea small fun s' J => ⟨.non, H1, J, rfl, q⟩
theorem ps_fl (ho : PE X o to) (he : PE X e te) (hs : swapsWith e (some (.Attribute o f p')) pos.line X.env = pure false := by rfl) : PS X (.Assign [.Attribute o f p'] e pos) (tFl X.K B newId initId bb f to te) := by
  refine ⟨fun pins s σ H D I h => ?_⟩
  refine plainObj_wpAny_Assign_Attribute (wpAny_mono (he.run pins s σ H _ I h) (fun v s1 got => ?_) fun _ _ z => z) hs
  obtain ⟨y, H1, I1, r1, q1⟩ := got
  refine wpAny_mono (ho.run pins s1 σ H1 _ I1 q1) (fun u s2 got => ?_) fun _ _ z => z
  obtain ⟨x, H2, I2, r2, a, C, ex, T, hno, q⟩ := got
  subst ex
  obtain rfl : u = Value.ref a := r2
  rcases q with ⟨ea, q⟩ | ⟨dx, fs, hl, ea, ed, q⟩
  · exact fld_first T I2 ea hno r1 fun dx s' n far J => ⟨σ, _, J, q dx far n⟩
  · exact fld_more T I2 ea ed hl hno r1 fun s' J => ⟨σ, _, J, q⟩
end
/-- what such an __init__ does: the fields are the arguments (the last one first) -/
def spI (C : Addr) (fs : List Str) : Sp := fun vs H Q _ => ∃ (a : Addr) (ws : List V), vs = .ref a :: ws ∧ ws.length = fs.length ∧ H a = some (exo a C none) ∧
  (fs = [] → Q .non H) ∧ (fs ≠ [] → ∀ (d : Addr) (H2 : Hp), H d = none → d ≠ a → H2 a = some (exo a C (some d)) → H2 d = some (exd d (fs.zip ws).reverse) → (∀ b, b ≠ a → b ≠ d → H2 b = H b) → Q .non H2)
/-- C(e, ..) -/
def tMkC (C : Addr) (fs : List Str) (ta : TA) : L2.St → Hp → XK → Prop := fun σ H Q => ta σ H fun vs H1 => vs.length = fs.length ∧ vs.length ≤ 1000 ∧ (fs = [] → Q (.ref C) none H1) ∧ (fs ≠ [] → ∀ d, H1 d = none → Q (.ref C) (some d) (upd H1 d (.xd (fs.zip vs).reverse)))
theorem pmk_ec {X : Cx} {e : Expr} {es : List Expr} {ta : TA} {x : Str} {fI : Addr} {k : Nat} {fd : FuncData} {ps fs : List Str} {p pos : Pos} (T : EcOk X.K B newId initId bb C) (iC : PySem.W.findIn X.K (.ref C) "__init__" = some (some (.ref fI))) (tI : PySem.W.typeIn X.K (.ref fI) = some (.type "function"))
    (F1 : FnOk X.prog X.w X.K X.mg X.base (fun _ _ _ _ _ _ => False) k fI fd ps (spI C fs)) (hr : Room (k + 1) X.A) (hb : Binds X.K fd ps []) (hg : Gl X x) (hm : X.mg x = some (.ref C)) (ha : PA X (e :: es) ta) (h0 : fs ≠ [])
    (hdb : (x == ("__debug__" : Str)) = false := by decide) (he : Heads X e es := by rfl) (hpl : Plain_ X es pos := by rfl) :
    PMk X (.Call (.Name x p) (e :: es) [] pos) (tMkC C fs ta) := by
  intro pins s σ H Q I h
  obtain ⟨nm, q, N, bs, sn, sub, ab, col, dd, k0, k1, k2, k3, k5, hC⟩ := T.cls
  refine wpAny_Call_Name_kw (ld_glob I hg hm ?_ hdb)
  refine PySem.W.callWith_K (h₀ := X.base) I.ok.mod.kin T.kC (thn (ha.run pos pins s σ H _ I h) fun us s1 ⟨vs, H1, I1, rv, hlen, hz, _, q1⟩ => ⟨I1.kIn, ?_⟩) he hpl
  show wpAny _ _ (call (.ref C) us) _ _ _
  obtain ⟨hp, g, dr, tk, os⟩ := s1
  have above : hp.objs.size ≤ hp.objs.size + 1 := Nat.le_succ _
  have hn : H1 (hp.objs.size + 1) = none := I1.hok.fresh above
  have kk : ∀ b o, hp.get? b = some o → ((hp.push (PySem.W.kdv_tup us)).push (PySem.HandSPX.excO C hp.objs.size)).get? b = some o := fun b o z => Heap.get?_push_of_some _ (Heap.get?_push_of_some _ z)
  have at0 : ((hp.push (PySem.W.kdv_tup us)).push (PySem.HandSPX.excO C hp.objs.size)).get? (hp.objs.size + 1) = some (PySem.HandSPX.excO C hp.objs.size) := by heap_get
  have I2 := I1.laid (t' := tk) (a := hp.objs.size + 1) (o := exo (hp.objs.size + 1) C none) (h' := (hp.push (PySem.W.kdv_tup us)).push (PySem.HandSPX.excO C hp.objs.size)) kk above (exo_ok at0)
  have r2 : Vals (V.ref (hp.objs.size + 1) :: vs) (Value.ref (hp.objs.size + 1) :: us) := .cons rfl rv
  -- what the __init__ is asked for
  have hq : spI C fs (.ref (hp.objs.size + 1) :: vs) (upd H1 (hp.objs.size + 1) (exo (hp.objs.size + 1) C none))
      (fun v H2 => v = .non ∧ ∃ (d : Addr) (l : List (Str × V)), H2 (hp.objs.size + 1) = some (exo (hp.objs.size + 1) C (some d)) ∧ H2 d = some (exd d l) ∧ H1 d = none ∧ Q (.ref C) (some d) (upd (del H2 (hp.objs.size + 1)) d (.xd l))) (fun _ _ _ => False) := by
    refine ⟨_, vs, rfl, hlen, upd_same, fun z => absurd z h0, fun _ d H2 hd far e1 e2 e3 => ⟨rfl, d, _, e1, e2, by rw [upd_ne far] at hd; exact hd, ?_⟩⟩
    rw [upd_ne far] at hd
    have same : upd (del H2 (hp.objs.size + 1)) d (.xd (fs.zip vs).reverse) = upd H1 d (.xd (fs.zip vs).reverse) := by
      funext b
      by_cases hb : b = d
      · rw [hb, upd_same, upd_same]
      · rw [upd_ne hb, upd_ne hb]
        by_cases hb2 : b = hp.objs.size + 1
        · rw [hb2, del_same, hn]
        · rw [del_ne hb2, e3 b hb2 hb, upd_ne hb2]
    rw [same]
    exact q1 h0 d hd
  have hl := F1.len _ _ _ _ hq
  rw [r2.length, ← List.append_nil (Value.ref (hp.objs.size + 1) :: us)] at hl
  have hus : us.length ≤ sizeLine := by
    rw [← Paired.length rv, sizeLine_eq]
    omega
  refine wpAny_call (PySem.HandSPX.call_own T.eb.f (fun _ => rfl) (I1.kIn _ _ hC) (PySem.W.looks_findIn I1.kIn iC) (fun self => PySem.W.bind_fn I1.kIn self tI) hus
    (codeAny_mono (F1.run _ X.stack _ _ ⟨Value.ref (hp.objs.size + 1) :: us, []⟩ (Value.ref (hp.objs.size + 1) :: us ++ []) _ _ (fun _ _ _ => False) (hr.make C us []) (I2.env0.make C us []) (hb _ (Value.ref (hp.objs.size + 1) :: us) I2.kIn hl) (by rw [List.append_nil]; exact r2) hq) fun r s' hq' => ?_))
  cases r with
  | error er => exact False.elim hq'
  | ok fl =>
    cases fl with
    | ret u =>
      obtain ⟨v, H2, os2, bare2, un2, hok2, rv2, ev, d, l, ea, ed, hd1, q2⟩ := hq'
      subst ev
      obtain ⟨h2, g2, d2, t2, os'⟩ := s'
      exact ⟨rv2, mk_end T.raises I1 above kk un2 hok2 os2 bare2 ea ed hd1 q2⟩
    | next => exact False.elim hq'
    | brk => exact False.elim hq'
    | cont => exact False.elim hq'
end Q

namespace Q
open PySem PySem.Spec PyProof.Rows L2
variable [Gh : Ghost]
/-! ### try with several clauses, each «except C as e» -/
/-- a clause's wish: its class, its name's slot, its suite's reading -/
structure Clause where
  c : Value
  i : Nat
  ts : Addr → Value → Option Addr → TS
def Ends.less (D : Ends) (i : Nat) : Ends := { nx := fun σ H => D.nx (σ.set i none) H, rt := D.rt, bk := fun σ H => D.bk (σ.set i none) H, ct := fun σ H => D.ct (σ.set i none) H }
def wCl (K : PySem.W.Frag) (Wo : WX) (D : Ends) : List Clause → WX
  | [] => Wo
  | k :: r => fun cls d σ H => ∃ b, PySem.W.exmOne K cls k.c = some b ∧ (b = true → ∀ a, H a = none → k.ts a cls d (Ends.less D k.i) (σ.set k.i (some (.ref a))) H) ∧ (b = false → wCl K Wo D r cls d σ H)
inductive ClOk (X : Cx) : List ExceptHandler → List Clause → Prop
  | nil : ClOk X [] []
  | cons {x nm : Str} {k : Clause} {b0 : Stmt} {su : List Stmt} {np hp : Pos} {hds : List ExceptHandler} {l : List Clause} (hc : Names X x k.c) (hi : X.N[k.i]? = some nm) (hl : X.env.kindOf nm = some .local)
      (hs : ∀ (a : Addr) (oe : Obj) (cls : Value) (d : Option Addr) (pn : List (Addr × Obj)), Zc cls d oe → (∃ vs, oe.data = .fields vs) → PSs (X.suite a ((a, oe) :: pn)) (b0 :: su) (k.ts a cls d)) (r : ClOk X hds l) :
      ClOk X (.ExceptHandler (some (.Name x np)) (some nm) (b0 :: su) hp :: hds) (k :: l)
  | consN {x : Str} {k : Clause} {b0 : Stmt} {su : List Stmt} {np hp : Pos} {hds : List ExceptHandler} {l : List Clause} (hc : Names X x k.c) (hi : X.N.length ≤ k.i)
      (hs : ∀ (a : Addr) (oe : Obj) (cls : Value) (d : Option Addr) (pn : List (Addr × Obj)), Zc cls d oe → (∃ vs, oe.data = .fields vs) → PSs (X.suite a ((a, oe) :: pn)) (b0 :: su) (k.ts a cls d)) (r : ClOk X hds l) :
      ClOk X (.ExceptHandler (some (.Name x np)) none (b0 :: su) hp :: hds) (k :: l)
section
variable {X : Cx} {body : List Stmt} {h0 : ExceptHandler} {hds : List ExceptHandler} {l : List Clause} {pos : Pos} {tb : WX → TS} {Wo : WX}
theorem ps_try_cl (hs : X.stack = X.env :: X.outer) (hfr : X.env.frame = some X.env.locals) (nd : X.N.Nodup) (tk : Takes X Wo)
    (hb : ∀ (W : WX) (pn : List (Addr × Obj)) (xe : Value → Shared → Prop), Takes (X.tr pn xe) W → PassesOwn (model X.prog X.w) X.A X.env xe → PSs (X.tr pn xe) body (tb W))
    (hh : ClOk X (h0 :: hds) l) : PS X (.Try body (h0 :: hds) [] [] pos) (fun D σ H => tb (wCl X.K Wo D l) D σ H) := by
  refine ⟨fun pins s σ H D I h => ?_⟩
  have ok := I.ok
  have frames : X.A.frames = some (X.env :: X.outer) := by rw [ok.frames, hs]
  refine wpAny_Try_except ?_
  let catch_ : Value → Shared → Prop := fun e s₁ => wpAny (model X.prog X.w) X.A (noteFrame e X.env) (fun _ s₂ => wpAny (model X.prog X.w) X.A (setFlight e none) (fun _ s₃ => wpAny (model X.prog X.w) X.A (handleBy e X.env (h0 :: hds)) (SP X pins D) X.xe s₃) X.xe s₂) X.xe s₁
  refine wpAny_mono ((hb (wCl X.K Wo D l) (X.pn ++ pins) catch_ (fun u s' x => ?_) PassesOwn.looking).run [] s σ H D (I.toTry _) h) (fun f s1 hsp => ?_) (fun e s1 he => he)
  · obtain ⟨a, G, sI, pI, σ1, H1, cls, d, rfl, J', ng, up, sky, na, os, bare, wish⟩ := x
    have J : Inv X pins σ1 H1 sI := J'.ofTry ok
    have sky2 : Sky G (X.env :: X.outer) a (Zc cls d) X.env.locals s'.heap := by rw [← hs]; exact sky
    show wpAny (model X.prog X.w) X.A (noteFrame (.ref a) X.env) _ _ _
    refine Sky.land Zc.steady frames hfr sky2 fun g3 fly3 up3 => ?_
    have J3 : Inv X pins σ1 H1 { s' with heap := g3 } := J.landed ng fly3.1 (up.trans up3) os bare
    obtain ⟨oe3, v3, at3, z3, d3⟩ := fly3.there
    have noFrame : ∀ {g : Heap} {o : Obj} {vs : Array Value}, g.FunFrames G (X.env :: X.outer) → g.get? a = some o → o.data = .fields vs → a ∉ frs (X.env :: X.outer) := fun {g o vs} ff ea ed hm => by
      obtain ⟨_, o2, e2, hno⟩ := ff.mem hm
      rw [ea] at e2
      cases e2
      exact hno _ ed
    have nfr := noFrame fly3.2.2.1 at3 d3
    have notL : a ≠ X.env.locals := fun z => nfr (List.mem_filterMap.mpr ⟨X.env, List.mem_cons_self, by rw [hfr, z]⟩)
    have notF : a ∉ X.fs := fun hm => by
      obtain ⟨e, he, q⟩ := List.mem_filterMap.mp hm
      exact nfr (List.mem_filterMap.mpr ⟨e, List.mem_cons_of_mem _ he, q⟩)
    have S3 := J3.suite at3 d3 na notL notF
    have go : ∀ {hl : List ExceptHandler} {ll : List Clause}, ClOk X hl ll → wCl X.K Wo D ll cls d σ1 H1 → wpAny (model X.prog X.w) X.A (handleBy (.ref a) X.env hl) (SP X pins D) X.xe { s' with heap := g3 } := by
      intro hl ll hk
      induction hk with
      | nil =>
        intro wo
        refine wpAny_handleBy_nil ?_
        obtain ⟨_, _, _, oe, vs, T, oT, tv, ea, ez, ed, ev, _⟩ := id fly3
        unfold PySem.passOn
        refine wpAny_bind (wpAny_field ea ed ev ?_)
        rw [if_neg (show ¬ ((Value.ref T == Value.none) = true) from by simp)]
        have away : wpAny (model X.prog X.w) X.A (setFlight (.ref a) X.env.frame) (fun _ s4 => wpAny (model X.prog X.w) X.A (throw (.ref a) : Sem Flow) (SP X pins D) X.xe s4) X.xe { s' with heap := g3 } := by
          rw [hfr]
          refine HandSPX.setFlight_upZ fly3 fun g4 held4 up4 => wpAny_throw (tk _ _ ?_)
          exact ⟨a, G, sI, pins, σ1, H1, cls, d, rfl, J, ng, (up.trans up3).trans up4, .inr (.inr (by rw [hs]; exact held4)), na, os, bare, wo⟩
        first
          | exact wpAny_bind (wpAny_pure (wpAny_bind away))
          | exact wpAny_bind away
      | @cons x nm k b0 su np hp hds2 l2 hc hi hln hsu r ih =>
        intro wo
        obtain ⟨b, hb1, yes, no⟩ := wo
        refine wpAny_handleBy_cons (codeAny_handlers_test ?_) (by intro q; cases q)
        have lT : PySem.W.Looks (model X.prog X.w) g3 (typeOf (.ref a)) cls := fun A Q E s k q => wpAny_typeOf_ref (k _ _ at3) (by rw [z3.1]; exact q)
        have lM := PySem.W.exm_one (M := model X.prog X.w) (J3.kIn) lT hb1
        have clsRead : ∀ {Q : Value → Shared → Prop} {E : Value → Shared → Prop}, Q k.c { s' with heap := g3 } → wpAny (model X.prog X.w) (X.A.mark (some (.ref a))) (eval (.Name x np) X.env) Q E { s' with heap := g3 } := fun {Q E} q => by
          obtain ⟨hg, hdb, hm | ⟨hm, hv, hnn⟩⟩ := hc
          · exact ld_glob (X := X.suite a ((a, oe3) :: (X.pn ++ pins))) S3 hg hm q hdb
          · exact ld_blt (X := X.suite a ((a, oe3) :: (X.pn ++ pins))) S3 hg hm hv q hnn hdb
        refine clsRead (lM.here ?_)
        cases b with
        | true =>
          refine codeAny_handlers_suite_as ?_
          refine HandSPX.lands_againZ fly3 fun g4 fly4 up4 => ?_
          have J4 : Inv X pins σ1 H1 { s' with heap := g4 } := J.landed ng fly4.1 ((up.trans up3).trans up4) os bare
          obtain ⟨oe4, v4, at4, z4, d4⟩ := fly4.there
          have S4 := J4.suite at4 d4 na notL notF
          refine store_ok (X := X.suite a ((a, oe4) :: (X.pn ++ pins))) (v := .ref a) S4 nd hi (.inl hln) rfl (fun s5 S5 => ?_) (.inr hln)
          refine wpAny_mono ((hsu a oe4 cls d (X.pn ++ pins) z4 ⟨_, d4⟩).run [] s5 _ H1 _ S5 (yes rfl a na)) (fun f s6 hsp => ?_) (fun _ _ z => False.elim z)
          have unname : ∀ {σ6 : L2.St} {H6 : Hp} {Q : Shared → Prop}, Inv (X.suite a ((a, oe4) :: (X.pn ++ pins))) [] σ6 H6 s6 → (∀ s7, Inv X pins (σ6.set k.i none) H6 s7 → Q s7) →
              wpAny (model X.prog X.w) X.A (do bindName X.env nm .none; unbindBehindTheSuite X.env nm hp) (fun _ s7 => Q s7) X.xe s6 := fun {σ6 H6 Q} S6 hq => gone_ok (S6.unsuite ok) nd hi hln hq
          cases f with
          | next =>
            obtain ⟨σ6, H6, S6, w6⟩ := hsp
            exact unname S6 fun s7 J7 => ⟨_, _, J7, w6⟩
          | brk =>
            obtain ⟨σ6, H6, S6, w6⟩ := hsp
            exact unname S6 fun s7 J7 => ⟨_, _, J7, w6⟩
          | cont =>
            obtain ⟨σ6, H6, S6, w6⟩ := hsp
            exact unname S6 fun s7 J7 => ⟨_, _, J7, w6⟩
          | ret u =>
            obtain ⟨v6, σ6, H6, S6, r6, w6⟩ := hsp
            exact unname S6 fun s7 J7 => ⟨_, _, _, J7, r6, w6⟩
        | false =>
          show wpAny _ X.A (handleBy (.ref a) X.env hds2) _ _ _
          exact ih (no rfl)
      | @consN x k b0 su np hp hds2 l2 hc hi hsu r ih =>
        intro wo
        obtain ⟨b, hb1, yes, no⟩ := wo
        refine wpAny_handleBy_cons (codeAny_handlers_test ?_) (by intro q; cases q)
        have lT : PySem.W.Looks (model X.prog X.w) g3 (typeOf (.ref a)) cls := fun A Q E s k q => wpAny_typeOf_ref (k _ _ at3) (by rw [z3.1]; exact q)
        have lM := PySem.W.exm_one (M := model X.prog X.w) (J3.kIn) lT hb1
        have clsRead : ∀ {Q : Value → Shared → Prop} {E : Value → Shared → Prop}, Q k.c { s' with heap := g3 } → wpAny (model X.prog X.w) (X.A.mark (some (.ref a))) (eval (.Name x np) X.env) Q E { s' with heap := g3 } := fun {Q E} q => by
          obtain ⟨hg, hdb, hm | ⟨hm, hv, hnn⟩⟩ := hc
          · exact ld_glob (X := X.suite a ((a, oe3) :: (X.pn ++ pins))) S3 hg hm q hdb
          · exact ld_blt (X := X.suite a ((a, oe3) :: (X.pn ++ pins))) S3 hg hm hv q hnn hdb
        refine clsRead (lM.here ?_)
        cases b with
        | true =>
          refine codeAny_handlers_suite ?_
          refine HandSPX.lands_againZ fly3 fun g4 fly4 up4 => ?_
          have J4 : Inv X pins σ1 H1 { s' with heap := g4 } := J.landed ng fly4.1 ((up.trans up3).trans up4) os bare
          obtain ⟨oe4, v4, at4, z4, d4⟩ := fly4.there
          have S4 := J4.suite at4 d4 na notL notF
          have same : ∀ (σ : L2.St) (v : Option V), σ.length = X.N.length → σ.set k.i v = σ := fun σ v hl => List.set_eq_of_length_le (by rw [hl]; exact hi)
          have y := yes rfl a na
          rw [same _ _ J4.len] at y
          refine wpAny_mono ((hsu a oe4 cls d (X.pn ++ pins) z4 ⟨_, d4⟩).run [] _ σ1 H1 _ S4 y) (fun f s6 hsp => ?_) (fun _ _ z => False.elim z)
          cases f with
          | next =>
            obtain ⟨σ6, H6, S6, w6⟩ := hsp
            have w6 : D.nx (σ6.set k.i none) H6 := w6
            rw [same _ _ S6.len] at w6
            exact ⟨_, _, S6.unsuite ok, w6⟩
          | brk =>
            obtain ⟨σ6, H6, S6, w6⟩ := hsp
            have w6 : D.bk (σ6.set k.i none) H6 := w6
            rw [same _ _ S6.len] at w6
            exact ⟨_, _, S6.unsuite ok, w6⟩
          | cont =>
            obtain ⟨σ6, H6, S6, w6⟩ := hsp
            have w6 : D.ct (σ6.set k.i none) H6 := w6
            rw [same _ _ S6.len] at w6
            exact ⟨_, _, S6.unsuite ok, w6⟩
          | ret u =>
            obtain ⟨v6, σ6, H6, S6, r6, w6⟩ := hsp
            exact ⟨_, _, _, S6.unsuite ok, r6, w6⟩
        | false =>
          show wpAny _ X.A (handleBy (.ref a) X.env hds2) _ _ _
          exact ih (no rfl)
    exact go hh wish
  · cases f with
    | next =>
      obtain ⟨σ1, H1, J1, w1⟩ := hsp
      exact wpAny_execs_nil ⟨σ1, H1, J1.ofTry ok, w1⟩
    | brk =>
      obtain ⟨σ1, H1, J1, w1⟩ := hsp
      exact ⟨σ1, H1, J1.ofTry ok, w1⟩
    | cont =>
      obtain ⟨σ1, H1, J1, w1⟩ := hsp
      exact ⟨σ1, H1, J1.ofTry ok, w1⟩
    | ret u =>
      obtain ⟨v1, σ1, H1, J1, r1, w1⟩ := hsp
      exact ⟨v1, σ1, H1, J1.ofTry ok, r1, w1⟩
end
end Q

namespace Q
open PySem PySem.Spec PyProof.Rows L2
variable [Gh : Ghost] [Gr : Grd]
/-! ### raise C(..), within the mirror -/
def mRaise (C : Addr) (fs : List Str) (m : MA) : MS := fun en S => (m en S).stm en fun ds S1 => if ds.length = fs.length ∧ ds.length ≤ 1000 then .err C (some S1.length) en (S1 ++ [.xd (fs.zip ds).reverse]) else .bad
theorem FR_append {K : PySem.W.Frag} {r : List Addr} {H : Hp} : ∀ {ds es : List (Str × D)} {vs ws : List (Str × V)}, FR K r H ds vs → FR K r H es ws → FR K r H (ds ++ es) (vs ++ ws)
  | [], _, _, _, h, k => by subst h; exact k
  | _ :: _, _, _, _, ⟨v, us, h1, h2, h3⟩, k => by subst h1; exact ⟨v, us ++ _, rfl, h2, FR_append h3 k⟩
theorem FR_reverse {K : PySem.W.Frag} {r : List Addr} {H : Hp} : ∀ {ds : List (Str × D)} {vs : List (Str × V)}, FR K r H ds vs → FR K r H ds.reverse vs.reverse
  | [], _, h => by subst h; rfl
  | p :: ds, _, ⟨v, us, h1, h2, h3⟩ => by
    subst h1
    rw [List.reverse_cons, List.reverse_cons]
    exact FR_append (FR_reverse h3) ⟨v, [], rfl, h2, rfl⟩
theorem FR_zip {K : PySem.W.Frag} {r : List Addr} {H : Hp} : ∀ (fs : List Str) {ds : List D} {vs : List V}, VRs K r H ds vs → FR K r H (fs.zip ds) (fs.zip vs)
  | [], _, _, _ => by simp [FR]
  | f :: fs, [], _, h => by subst h; simp [FR]
  | f :: fs, d :: ds, _, ⟨v, us, h1, h2, h3⟩ => by subst h1; exact ⟨v, _, rfl, h2, FR_zip fs h3⟩
section
variable {X : Cx} {B newId initId : String} {bb : List Value} {C : Addr} {e : Expr} {es : List Expr} {x : Str} {fI : Addr} {k : Nat} {fd : FuncData} {ps fs : List Str} {p pos pos' : Pos} {m : MA}
theorem s_raise (T : EcOk X.K B newId initId bb C) (iC : PySem.W.findIn X.K (.ref C) "__init__" = some (some (.ref fI))) (tI : PySem.W.typeIn X.K (.ref fI) = some (.type "function"))
    (F1 : FnOk X.prog X.w X.K X.mg X.base (fun _ _ _ _ _ _ => False) k fI fd ps (spI C fs)) (g : Gd X (k + 1)) (hb : Binds X.K fd ps []) (hg : Gl X x) (hm : X.mg x = some (.ref C)) (ha : SndA X (e :: es) m) (h0 : fs ≠ [])
    (hdb : (x == ("__debug__" : Str)) = false := by decide) (he : starEach (e :: es) X.env = (false, eval e X.env) :: starEach es X.env := by rfl) (hpl : (backTo pos (starEach es X.env)).any (·.1) = false := by rfl) :
    SndS X (.Raise (some (.Call (.Name x p) (e :: es) [] pos)) none pos') (mRaise C fs m) := by
  refine ⟨?_⟩
  intro W tk en σ r H S D er ro dn
  refine wS_of (ps_raise g.calm tk (pmk_ec T iC tI F1 g.room hb hg hm (pa_wA X (e :: es)) h0 hdb he hpl)) ?_
  refine ha.run W tk en σ r H S _ er ro (Dn.imp (DnS.stm (R := VRs X.K) er dn) fun vs H1 ⟨ds, S1, r1, e1, s1, o1, k1, er1, d1⟩ => ?_)
  by_cases hc : ds.length = fs.length ∧ ds.length ≤ 1000
  · rw [if_pos hc] at d1
    have hl := k1.length
    refine ⟨by rw [← hl]; exact hc.1, by rw [← hl]; exact hc.2, fun z => absurd z h0, fun _ q hq => ?_⟩
    have fr : FR X.K r1 H1 (fs.zip ds).reverse (fs.zip vs).reverse := FR_reverse (FR_zip fs k1)
    have st : Stp r1 H1 (r1 ++ [q]) (upd H1 q (.xd (fs.zip vs).reverse)) := Stp.new hq
    have o2 : ROk X.K (r1 ++ [q]) (upd H1 q (.xd (fs.zip vs).reverse)) (S1 ++ [.xd (fs.zip ds).reverse]) := o1.new hq ⟨_, upd_same, fr.mono st⟩
    exact d1 _ _ σ _ st o2 (er1.mono st) ⟨q, by rw [← o1.len, List.getElem?_append_right (Nat.le_refl _), Nat.sub_self]; rfl, rfl⟩
  · rw [if_neg hc] at d1
    exact d1.elim
end
/-! ### try, within the mirror -/
/-- a clause: its class, its name's slot, its suite (of the error's address and its dict's, and the dict's number) -/
structure Hd where
  C : Addr
  i : Nat
  ms : Addr → Addr → Option Nat → MS
def wipeR (i : Nat) : SRes → SRes
  | .nx e S => .nx (e.set i none) S
  | .rt d S => .rt d S
  | .bk e S => .bk (e.set i none) S
  | .ct e S => .ct (e.set i none) S
  | _ => .bad
def excV (a d : Addr) : Option Nat → D
  | some n => .exc a d n
  | none => .adr a
open Classical in
noncomputable def runH (C : Addr) (n : Option Nat) (e : En) (S : Store) : List Hd → SRes
  | [] => .err C n e S
  | h :: r => if C = h.C then (if ok : ∃ q, ∀ a d, wipeR h.i (h.ms a d n (e.set h.i (some (excV a d n))) S) = q then ok.choose else .bad) else runH C n e S r
noncomputable def mTry (cs : List Addr) (mb : MS) (hs : List Hd) : MS := fun en S => match mb en S with
  | .err C n e S1 => if C ∈ cs then runH C n e S1 hs else .bad
  | q => q
theorem runH_yes {C : Addr} {n : Option Nat} {e : En} {S : Store} {h : Hd} {r : List Hd} {q : SRes} (hc : C = h.C) (hq : ∀ a d, wipeR h.i (h.ms a d n (e.set h.i (some (excV a d n))) S) = q) : runH C n e S (h :: r) = q := by
  have ok : ∃ q, ∀ a d, wipeR h.i (h.ms a d n (e.set h.i (some (excV a d n))) S) = q := ⟨q, hq⟩
  unfold runH
  rw [if_pos hc, dif_pos ok]
  have := ok.choose_spec 0 0
  rw [hq] at this
  exact this.symm
theorem runH_no {C : Addr} {n : Option Nat} {e : En} {S : Store} {h : Hd} {r : List Hd} (hc : C ≠ h.C) : runH C n e S (h :: r) = runH C n e S r := by
  rw [runH, if_neg hc]
/-- the text's clauses and the mirror's -/
inductive HdL (X : Cx) : List ExceptHandler → List Hd → Prop
  | nil : HdL X [] []
  | cons {x nm : Str} {h : Hd} {b0 : Stmt} {su : List Stmt} {np hp : Pos} {hds : List ExceptHandler} {l : List Hd} {B newId initId : String} {bb : List Value} (T : EcOk X.K B newId initId bb h.C) (hg : Gl X x) (hm : X.mg x = some (.ref h.C)) (hi : X.N[h.i]? = some nm) (hl : X.env.kindOf nm = some .local)
      (hs : ∀ (a d : Addr) (n : Option Nat) (oe : Obj) (od : Option Addr) (pn : List (Addr × Obj)), Zc (.ref h.C) od oe → (∃ vs, oe.data = .fields vs) → od = n.map (fun _ => d) → SndSs (X.suite a ((a, oe) :: pn)) (b0 :: su) (h.ms a d n)) (r : HdL X hds l) (hdb : (x == ("__debug__" : Str)) = false := by decide) :
      HdL X (.ExceptHandler (some (.Name x np)) (some nm) (b0 :: su) hp :: hds) (h :: l)
  | consN {x : Str} {h : Hd} {b0 : Stmt} {su : List Stmt} {np hp : Pos} {hds : List ExceptHandler} {l : List Hd} {B newId initId : String} {bb : List Value} (T : EcOk X.K B newId initId bb h.C) (hg : Gl X x) (hm : X.mg x = some (.ref h.C)) (hi : X.N.length ≤ h.i)
      (hs : ∀ (a d : Addr) (n : Option Nat) (oe : Obj) (od : Option Addr) (pn : List (Addr × Obj)), Zc (.ref h.C) od oe → (∃ vs, oe.data = .fields vs) → od = n.map (fun _ => d) → SndSs (X.suite a ((a, oe) :: pn)) (b0 :: su) (h.ms a d n)) (r : HdL X hds l) (hdb : (x == ("__debug__" : Str)) = false := by decide) :
      HdL X (.ExceptHandler (some (.Name x np)) none (b0 :: su) hp :: hds) (h :: l)
def clsOf (X : Cx) (D : Ends) : List Hd → List ExceptHandler → List Clause
  | h :: l, .ExceptHandler _ _ su _ :: hds => { c := .ref h.C, i := h.i, ts := fun a cls d D' σ H => ∀ (oe : Obj) (pn : List (Addr × Obj)), Zc cls d oe → (∃ vs, oe.data = .fields vs) → wSs (X.suite a ((a, oe) :: pn)) su D' σ H } :: clsOf X D l hds
  | _, _ => []
theorem ER.noneAt {K : PySem.W.Frag} {r : List Addr} {H : Hp} {e : En} {σ : L2.St} (er : ER K r H e σ) (i : Nat) : ER K r H (e.set i none) (σ.set i none) := by
  refine ⟨by rw [List.length_set, List.length_set]; exact er.len, fun j d q => ?_⟩
  by_cases h : j = i
  · subst h
    by_cases hl : j < e.length
    · rw [List.getElem?_set_self hl] at q; cases q
    · rw [List.getElem?_eq_none (by rw [List.length_set]; omega)] at q; cases q
  · rw [List.getElem?_set_ne (Ne.symm h)] at q ⊢
    exact er.at_ j d q
theorem wipe_dn {K : PySem.W.Frag} {r : List Addr} {H : Hp} {i : Nat} {m : SRes} {D : Ends} {W : WX} (h : DnS K r H (wipeR i m) D W) : DnS K r H m (Ends.less D i) (fun _ _ _ _ => False) := by
  cases m with
  | nx e S => exact fun r' H' σ' s o er => h r' H' _ s o (er.noneAt i)
  | rt d S => exact h
  | bk e S => exact fun r' H' σ' s o er => h r' H' _ s o (er.noneAt i)
  | ct e S => exact fun r' H' σ' s o er => h r' H' _ s o (er.noneAt i)
  | err c n e S => exact h.elim
  | bad => exact h.elim
theorem noTakes {X : Cx} : Takes X (fun _ _ _ _ => False) := fun _ _ ⟨_, _, _, _, _, _, _, _, _, _, _, _, _, _, _, _, z⟩ => z.elim
section
variable {X : Cx} {body : List Stmt} {h0 : ExceptHandler} {hds : List ExceptHandler} {l : List Hd} {cs : List Addr} {pos : Pos} {mb : MS}
theorem clOk_of {D : Ends} : ∀ {hds : List ExceptHandler} {l : List Hd}, HdL X hds l → ClOk X hds (clsOf X D l hds)
  | _, _, .nil => .nil
  | _, _, .cons T hg hm hi hl hs r hdb => .cons ⟨hg, hdb, .inl hm⟩ hi hl (fun a oe cls d pn hz hf => ⟨fun pins s σ H Q I h => h oe pn hz hf pins s I⟩) (clOk_of r)
  | _, _, .consN T hg hm hi hs r hdb => .consN ⟨hg, hdb, .inl hm⟩ hi (fun a oe cls d pn hz hf => ⟨fun pins s σ H Q I h => h oe pn hz hf pins s I⟩) (clOk_of r)
theorem wish_of {D : Ends} {W : WX} {B newId initId : String} {bb : List Value} {C : Addr} (TC : EcOk X.K B newId initId bb C) {n : Option Nat} {e : En} {S1 : Store} {r' : List Addr} {H' : Hp} {σ' : L2.St} {x : Option Addr} (o : ROk X.K r' H' S1) (er : ER X.K r' H' e σ') (hn : NR r' n x) :
    ∀ {hds : List ExceptHandler} {l : List Hd}, HdL X hds l → DnS X.K r' H' (runH C n e S1 l) D W → wCl X.K W D (clsOf X D l hds) (.ref C) x σ' H'
  | _, _, .nil, dn => dn r' H' σ' x (Stp.refl _ _) o er hn
  | _, _, @HdL.cons _ _ _ _ h b0 su _ _ hds l _ _ _ _ T hg hm hi hl hs r hdb, dn => by
    refine ⟨_, TC.exm T, fun hb a ha => ?_, fun hb => ?_⟩
    · have hC : C = h.C := of_decide_eq_true hb
      intro oe pn hz hf
      have key : ∃ q, ∀ a d, wipeR h.i (h.ms a d n (e.set h.i (some (excV a d n))) S1) = q := by
        unfold runH at dn
        rw [if_pos hC] at dn
        by_cases ok : ∃ q, ∀ a d, wipeR h.i (h.ms a d n (e.set h.i (some (excV a d n))) S1) = q
        · exact ok
        · rw [dif_neg ok] at dn
          exact dn.elim
      obtain ⟨q, hq⟩ := key
      rw [runH_yes hC hq] at dn
      -- the error's dict
      have hd : ∃ d : Addr, x = n.map (fun _ => d) ∧ VR X.K r' H' (excV a d n) (.ref a) := by
        cases n with
        | none => exact ⟨0, hn, rfl⟩
        | some k =>
          obtain ⟨d, h1, h2⟩ := hn
          exact ⟨d, h2, rfl, h1⟩
      obtain ⟨d, hd1, hd2⟩ := hd
      refine (hs a d n oe x pn (by rw [← hC]; exact hz) hf hd1).run (fun _ _ _ _ => False) noTakes (e.set h.i (some (excV a d n))) _ r' H' S1 _ (er.set hd2) o ?_
      refine wipe_dn (W := W) ?_
      rw [hq]
      exact dn
    · have hC : C ≠ h.C := of_decide_eq_false hb
      rw [runH_no hC] at dn
      exact wish_of TC o er hn r dn
  | _, _, @HdL.consN _ _ _ h b0 su _ _ hds l _ _ _ _ T hg hm hi hs r hdb, dn => by
    refine ⟨_, TC.exm T, fun hb a ha => ?_, fun hb => ?_⟩
    · have hC : C = h.C := of_decide_eq_true hb
      intro oe pn hz hf
      have key : ∃ q, ∀ a d, wipeR h.i (h.ms a d n (e.set h.i (some (excV a d n))) S1) = q := by
        unfold runH at dn
        rw [if_pos hC] at dn
        by_cases ok : ∃ q, ∀ a d, wipeR h.i (h.ms a d n (e.set h.i (some (excV a d n))) S1) = q
        · exact ok
        · rw [dif_neg ok] at dn
          exact dn.elim
      obtain ⟨q, hq⟩ := key
      rw [runH_yes hC hq] at dn
      -- the error's dict
      have hd : ∃ d : Addr, x = n.map (fun _ => d) ∧ VR X.K r' H' (excV a d n) (.ref a) := by
        cases n with
        | none => exact ⟨0, hn, rfl⟩
        | some k =>
          obtain ⟨d, h1, h2⟩ := hn
          exact ⟨d, h2, rfl, h1⟩
      obtain ⟨d, hd1, hd2⟩ := hd
      refine (hs a d n oe x pn (by rw [← hC]; exact hz) hf hd1).run (fun _ _ _ _ => False) noTakes (e.set h.i (some (excV a d n))) _ r' H' S1 _ (er.set hd2) o ?_
      refine wipe_dn (W := W) ?_
      rw [hq]
      exact dn
    · have hC : C ≠ h.C := of_decide_eq_false hb
      rw [runH_no hC] at dn
      exact wish_of TC o er hn r dn
theorem s_try (hs : X.stack = X.env :: X.outer) (hfr : X.env.frame = some X.env.locals) (nd : X.N.Nodup) (hcs : ∀ C ∈ cs, ∃ B newId initId bb, EcOk X.K B newId initId bb C)
    (hb : ∀ (pn : List (Addr × Obj)) (xe : Value → Shared → Prop), PassesOwn (model X.prog X.w) X.A X.env xe → SndSs (X.tr pn xe) body mb) (hh : HdL X (h0 :: hds) l) : SndS X (.Try body (h0 :: hds) [] [] pos) (mTry cs mb l) := by
  refine ⟨?_⟩
  intro W tk en σ r H S D er ro dn
  refine wS_of (t := fun D' σ' H' => (fun (W' : WX) (D2 : Ends) (σ2 : L2.St) (H2 : Hp) => ∀ (pn : List (Addr × Obj)) (xe : Value → Shared → Prop), Takes (X.tr pn xe) W' → PassesOwn (model X.prog X.w) X.A X.env xe → wSs (X.tr pn xe) body D2 σ2 H2) (wCl X.K W D' (clsOf X D l (h0 :: hds))) D' σ' H') ?_ ?_
  · exact ps_try_cl hs hfr nd tk (tb := fun (W' : WX) (D2 : Ends) (σ2 : L2.St) (H2 : Hp) => ∀ (pn : List (Addr × Obj)) (xe : Value → Shared → Prop), Takes (X.tr pn xe) W' → PassesOwn (model X.prog X.w) X.A X.env xe → wSs (X.tr pn xe) body D2 σ2 H2)
      (fun W' pn xe tk' own => ⟨fun pins s σ' H' D' I h => h pn xe tk' own pins s I⟩) (clOk_of hh)
  · intro pn xe tk' own
    refine (hb pn xe own).run _ tk' en σ r H S D er ro ?_
    have dn : DnS X.K r H (mTry cs mb l en S) D W := dn
    unfold mTry at dn
    cases q : mb en S with
    | nx e S1 => rw [q] at dn; exact dn
    | rt d S1 => rw [q] at dn; exact dn
    | bk e S1 => rw [q] at dn; exact dn
    | ct e S1 => rw [q] at dn; exact dn
    | bad => rw [q] at dn; exact dn
    | err C n e S1 =>
      rw [q] at dn
      dsimp only at dn
      by_cases hC : C ∈ cs
      · rw [if_pos hC] at dn
        obtain ⟨B, newId, initId, bb, TC⟩ := hcs C hC
        intro r' H' σ' x s' o' er' hn
        exact wish_of TC o' er' hn hh (DnS.mono s' dn)
      · rw [if_neg hC] at dn
        exact dn.elim
end
end Q

/-! ### the class of a caught error -/
namespace Q
open PySem PySem.Spec PySem.Calls PyProof.Rows PySem.W L2
variable [Gh : Ghost]
section
variable {prog : Program} {w : World} {A : Around} {E : Value → Shared → Prop} {s : Shared} {K : Frag} {B newId initId : String} {bb : List Value} {C e0 : Addr} {ob : Obj} {od : Option Obj}
theorem bound_attr {nm : Str} {a g : Value} (hc : (clsIn K C).isSome = true) (ha : findIn K (.ref C) nm = some (some a)) (hg : specialIn K a "__get__" = some (some g)) (ht : takesIn K a = some true) : findObj K C od nm = some (.bind g a) := by
  obtain ⟨cd, hc⟩ := Option.isSome_iff_exists.mp hc
  unfold findObj
  rw [hc]
  simp [ha, hg, ht]
theorem err_class {Q : Option Value → Shared → Prop} (T : EcOk K B newId initId bb C) (KI : K.In s.heap) (J : PySem.W.InstAt s.heap e0 ob C od) (h : Q (some (.ref C)) { s with toks := s.toks + 1 }) : wpAny (model prog w) A (getAttr? (.ref e0) "__class__") Q E s := by
  have fo : findObj K C od "__class__" = some (.bind (.builtin "getset_descriptor.__get__") (.builtin "object.__class__")) := bound_attr (by obtain ⟨cd, hc, _⟩ := T.cd; rw [hc]; rfl) T.ca T.cn T.ct
  obtain ⟨hp, g, d, t, os⟩ := s
  have lT := J.type (M := model prog w)
  have lG := looks_findIn (M := model prog w) KI T.ga
  have lA := looks_findIn (M := model prog w) KI T.gg
  have lF := looks_find (M := model prog w) KI J fo
  have isE : Looks (model prog w) hp (isInstance (.ref e0) (.type "BaseException")) true := lT.andThen (looks_subIn KI T.exC)
  have apart : (Value.builtin "BaseException.__getattribute__" == Value.builtin "object.__getattribute__") = false := by decide +kernel
  unfold getAttr? getAttrBy? getAttrBy
  refine wpAny_bind (wpAny_mkText (wpAny_bind (wpAny_attempt (wpAny_holding (wpAny_bind (lT.at (wpAny_bind (lG.at ?_))))))))
  show wpAny _ _ (if (onTheHeap (Value.ref C) && Value.builtin "BaseException.__getattribute__" == Value.builtin "object.__getattribute__") = true then _ else _) _ _ _
  rw [apart, Bool.and_false, if_neg Bool.false_ne_true]
  unfold getAttrByItsOwn hookBefore
  refine wpAny_bind ?_
  rw [if_pos (show onTheHeap (Value.ref C) = true from rfl)]
  refine lA.at ?_
  refine wpAny_bind (wpAny_attempt (wpAny_holding ?_))
  unfold callGetattribute
  rw [show (false && onTheHeap (Value.builtin "BaseException.__getattribute__")) = false from rfl, if_neg Bool.false_ne_true]
  unfold boundAndCalled
  rw [PySem.F.excAttr_ValueError.ga.bind (.ref e0)]
  refine wpAny_bind (wpAny_pure ?_)
  show wpAny _ _ (call (.builtin "BaseException.__getattribute__") [.ref e0, .str "__class__" t]) _ _ _
  refine wpAny_call (codeAny_call_builtin PySem.F.excAttr_ValueError.ga.plain PySem.F.entry_bexc_ga ?_)
  refine @check_slot (model prog w) _ _ ⟨hp, g, d, t + 1, os⟩ "BaseException.__getattribute__" "BaseException" "__getattribute__" (.ref e0) [.str "__class__" t] [] _ (by decide +kernel) (by decide +kernel) isE (PySem.F.args_bexc_ga (.ref e0) (.str "__class__" t)) ?_
  unfold Builtin.«object.__getattribute__»
  refine wpAny_bind (wpAny_of_eq (a := ((Value.ref e0 : Value), [Value.str "__class__" t])) (by first | rfl | (simp only [slotArgs]; rfl)) ?_)
  refine wpAny_bind (wpAny_pure (wpAny_bind (lT.at (wpAny_bind (lF.at ?_)))))
  show wpAny _ _ (holding [Value.builtin "object.__class__"] (call (.builtin "getset_descriptor.__get__") [.builtin "object.__class__", .ref e0, .ref C]) >>= ret) _ _ _
  have mo : mroIn K C (.type "object") = some true := by rw [T.mro, List.contains_cons, T.eb.ob, Bool.or_true]
  refine wpAny_bind (wpAny_holding (wpAny_call (class_get (s := ⟨hp, g, d, t + 1, os⟩) (ox := ob) (od := od) KI J mo ?_)))
  refine wpAny_pure ?_
  show wpAny _ _ (handedOut (.ref C)) _ _ _
  rw [handedOut_of (v := .ref C) rfl]
  first
    | exact wpAny_pure (wpAny_pure h)
    | exact wpAny_pure h
    | exact wpAny_pure (wpAny_bind (wpAny_pure (wpAny_pure h)))
theorem err_kit (T : EcOk K B newId initId bb C) : KitX K (.ref e0) (.ref C) (fun h => ∃ od, PySem.W.InstAt h e0 ob C od) where
  ty := fun _ _ _ ⟨_, J⟩ => J.type
  it := fun _ _ KI _ => by
    obtain ⟨nm, q, N, bs, sn, sub, ab, col, dd, k0, k1, k2, k3, k5, ho⟩ := T.cls
    intro A' Q' E' s' k z
    unfold isType loadHead
    exact wpAny_bind (wpAny_loadPart (k _ _ (KI _ _ ho)) (wpAny_pure z))
  ne := fun h tp dd its n sl KI htp => by
    obtain ⟨nm, q, N, bs, sn, sub, ab, col, dd', k0, k1, k2, k3, k5, ho⟩ := T.cls
    refine Bool.eq_false_iff.mpr fun z => ?_
    have e : C = tp := Value.ref.inj (beq_iff_eq.mp z)
    subst e
    have z2 := (KI _ _ ho).symm.trans htp
    have z3 : Value.type "type" = Value.type "tuple" := congrArg (fun o : Obj => o.cls) (Option.some.inj z2)
    injection z3 with z4
    exact absurd z4 (by decide)
  ca := fun KI ⟨_, J⟩ k => err_class T KI J k
end
theorem obj_there {P : Program} {w : World} {H : Hp} {h : Heap} {a : Addr} {o : HO} (x : ObjOk P w H h a o) : ∃ y, h.get? a = some y := by
  cases o with
  | lst xs => obtain ⟨_, its, n, _, e⟩ := x; exact ⟨_, e⟩
  | tup xs => obtain ⟨_, its, _, o, e, _⟩ := x; exact ⟨_, e⟩
  | dK kvs => obtain ⟨_, _, _, _, y, _, _, e, _⟩ := x; exact ⟨y, e⟩
  | dT kvs => obtain ⟨_, _, _, _, y, _, _, e, _⟩ := x; exact ⟨y, e⟩
  | set S n => obtain ⟨y, _, _, _, e, _⟩ := x; exact ⟨y, e⟩
  | ins C dx fs => obtain ⟨_, _, _, e, _⟩ := x; exact ⟨_, e⟩
  | own y => exact x
  | xd fs => obtain ⟨_, ⟨y, _, _, e, _⟩, _⟩ := x; exact ⟨y, e⟩
  | rng lo hi => obtain ⟨_, _, _, e⟩ := x; exact ⟨_, e⟩
  | frz ob u => exact ⟨ob, x.1⟩
  | tbl ps => exact ⟨_, x⟩
  | met f y => exact ⟨_, x⟩
  | ext φ => exact x.2.1
/-! ### e.f and isinstance(e, T) in a suite -/
def mXf (a d : Addr) (n : Option Nat) (f : Str) (m : ME) : ME := fun en S => (m en S).bind fun v S1 => match v, n with
  | .exc a' d' k, some _ => if a' = a ∧ d' = d then (match S1[k]? with
    | some (.xd fs) => (match fs.lookup f with
      | some z => .ok z S1
      | none => .bad)
    | _ => .bad) else .bad
  | _, _ => .bad
def isX (a d : Addr) (n : Option Nat) (S : Store) (v : D) : Bool := match v, n with
  | .exc a' d' k, some _ => decide (a' = a) && decide (d' = d) && (S[k]?).isSome
  | .adr a', none => decide (a' = a)
  | _, _ => false
def mIsX (a d : Addr) (n : Option Nat) (b : Bool) (m : ME) : ME := fun en S => (m en S).bind fun v S1 => if isX a d n S1 v = true then .ok (.bl b) S1 else .bad
theorem FR_lookup {K : PySem.W.Frag} {r : List Addr} {H : Hp} {f : Str} : ∀ {fs : List (Str × D)} {vs : List (Str × V)} {z : D}, FR K r H fs vs → fs.lookup f = some z → ∃ v, vs.lookup f = some v ∧ VR K r H z v
  | [], _, _, _, e => by cases e
  | (g, d) :: fs, _, z, ⟨v, ws, h1, h2, h3⟩, e => by
    subst h1
    rw [List.lookup_cons] at e ⊢
    by_cases hg : (f == g) = true
    · rw [hg] at e ⊢
      cases e
      exact ⟨v, rfl, h2⟩
    · have hg : (f == g) = false := by cases z : (f == g) <;> first | rfl | exact absurd z hg
      rw [hg] at e ⊢
      exact FR_lookup h3 e
section
variable {Y : Cx} {a d C : Addr} {n : Option Nat} {oe : Obj} {od : Option Addr} {pn : List (Addr × Obj)} {e t : Expr} {m : ME} {B newId initId : String} {bb : List Value} {f x : Str} {p pos : Pos}
theorem e_xf (T : EcOk Y.K B newId initId bb C) (hno : PySem.W.findIn Y.K (.ref C) f = some none) (hz : Zc (.ref C) od oe) (hf : ∃ vs, oe.data = .fields vs) (hd : od = n.map fun _ => d) (ha : SndE (Y.suite a ((a, oe) :: pn)) e m)
    (hb : attributeBase e f Y.env (eval e Y.env) = eval e Y.env := by rfl) : SndE (Y.suite a ((a, oe) :: pn)) (.Attribute e f pos) (mXf a d n f m) := by
  refine ⟨?_⟩
  intro W tk en σ r H S Q er ro dn
  refine wE_of (pe_xf (X := Y) ⟨T.ga, T.gg, T.exC, T.hd⟩ hno hz hf (pe_wE _ e) hb) ?_
  refine ha.run W tk en σ r H S _ er ro (Dn.imp (Dn.bind dn) fun v H1 ⟨z, S1, r1, e1, s1, o1, k1, d1⟩ => ?_)
  cases z with
  | exc a' d' k =>
    cases n with
    | none => exact d1.elim
    | some j =>
      have d2 : Dn Y.K r1 H1 (VR Y.K) (if a' = a ∧ d' = d then (match S1[k]? with | some (.xd fs) => (match fs.lookup f with | some z => .ok z S1 | none => .bad) | _ => .bad) else .bad) Q (WE W σ) := d1
      clear d1
      by_cases hc : a' = a ∧ d' = d
      · rw [if_pos hc] at d2
        obtain ⟨rfl, rfl⟩ := hc
        obtain ⟨rfl, hr⟩ := k1
        cases q : S1[k]? with
        | none => rw [q] at d2; exact d2.elim
        | some o =>
          rw [q] at d2
          have oo := o1.ob k o d' q hr
          cases o with
          | xd fs =>
            obtain ⟨vs, h1, h2⟩ := oo
            dsimp only at d2
            cases ql : fs.lookup f with
            | none => rw [ql] at d2; exact d2.elim
            | some z =>
              rw [ql] at d2
              obtain ⟨v, hv1, hv2⟩ := FR_lookup h2 ql
              exact ⟨rfl, rfl, d', vs, v, hd, h1, hv1, Dn.ok_here (R := VR Y.K) d2 o1 hv2⟩
          | _ => exact d2.elim
      · rw [if_neg hc] at d2
        exact d2.elim
  | _ => cases n <;> exact d1.elim
/-- isinstance's rule -/
def rIsX (K : PySem.W.Frag) (C a : Addr) (od : Option Addr) : List V → Hp → VK → Prop := fun xs H Q => ∃ (c : V) (cv : Value) (b : Bool), xs = [.ref a, c] ∧ (∀ u, RelV c u → u = cv) ∧ PySem.W.kitOne K (.ref C) cv = some b ∧ (∀ z, od = some z → H z ≠ none) ∧ Q (.bl b) H
theorem call_isX (T : EcOk Y.K B newId initId bb C) (hz : Zc (.ref C) od oe) (hf : ∃ vs, oe.data = .fields vs) : CallR (Y.suite a ((a, oe) :: pn)) (.builtin "isinstance") (rIsX Y.K C a od) := by
  intro pins s σ H xs us Q I rv h
  obtain ⟨c, cv, b, rfl, hcv, kit, hod, q⟩ := h
  obtain ⟨u, u2, rfl, ru, ru2⟩ := vals2 rv
  obtain rfl : u = Value.ref a := ru
  have e2 := hcv _ ru2
  subst e2
  obtain ⟨at0, _⟩ := I.pin (a, oe) (List.mem_append.mpr (.inl List.mem_cons_self))
  obtain ⟨vs, hv⟩ := hf
  have J : ∃ o, PySem.W.InstAt s.heap a oe C o := by
    obtain ⟨oc, dt, oda, osl⟩ := oe
    obtain ⟨z1, z2⟩ := hz
    dsimp only at z1 z2 hv
    subst z1 z2 hv
    cases dt with
    | none => exact ⟨none, at0, rfl, rfl, trivial⟩
    | some z =>
      have hne := hod z rfl
      cases hH : H z with
      | none => exact absurd hH hne
      | some ho =>
        have ob := I.hok z ho hH
        have : ∃ o, s.heap.get? z = some o := by
          have hl := ob.lt
          exact obj_there ob
        obtain ⟨o, eo⟩ := this
        exact ⟨some o, at0, rfl, rfl, eo⟩
  exact PySem.W.kia_one (err_kit T) I.kIn J kit (fun z => nomatch z) fun tk => ⟨.bl b, H, I.kept (t' := tk) fun _ _ z => z, rfl, q⟩
theorem e_isX {tv : V} {cv : Value} {b : Bool} (T : EcOk Y.K B newId initId bb C) (hz : Zc (.ref C) od oe) (hf : ∃ vs, oe.data = .fields vs) (hd : od = n.map fun _ => d) (hg : Gl Y x) (hm : Y.mg x = none) (hv : bootBuiltins x = some (.builtin "isinstance"))
    (ha : SndE (Y.suite a ((a, oe) :: pn)) e m) (ht : PE (Y.suite a ((a, oe) :: pn)) t (tC tv)) (hcv : ∀ u, RelV tv u → u = cv) (kit : PySem.W.kitOne Y.K (.ref C) cv = some b)
    (hn : x ≠ "__name__" := by decide) (hdb : (x == ("__debug__" : Str)) = false := by decide)
    (he : starEach [e, t] (Y.suite a ((a, oe) :: pn)).env = (false, eval e Y.env) :: starEach [t] Y.env := by rfl) (he2 : starEach [t] (Y.suite a ((a, oe) :: pn)).env = (false, eval t Y.env) :: starEach [] Y.env := by rfl) (hpl : (backTo pos (starEach [t] Y.env)).any (·.1) = false := by rfl) :
    SndE (Y.suite a ((a, oe) :: pn)) (.Call (.Name x p) [e, t] [] pos) (mIsX a d n b m) := by
  refine ⟨?_⟩
  intro W tk en σ r H S Q er ro dn
  refine wE_of (pe_callB (X := Y.suite a ((a, oe) :: pn)) (call_isX T hz hf) hg hm hv (pa_cons (pe_wE _ e) (pa_cons ht pa_nil he2) he) hn hdb he hpl) ?_
  refine ha.run W tk en σ r H S _ er ro (Dn.imp (Dn.bind dn) fun v H1 ⟨z, S1, r1, e1, s1, o1, k1, d1⟩ => ?_)
  by_cases hc : isX a d n S1 z = true
  · rw [if_pos hc] at d1
    have fin : V.ref a = v ∧ ∀ y, od = some y → H1 y ≠ none := by
      cases z with
      | exc a' d' k =>
        cases n with
        | none => cases hc
        | some j =>
          have hc : (decide (a' = a) && decide (d' = d) && (S1[k]?).isSome) = true := hc
          simp only [Bool.and_eq_true, decide_eq_true_eq] at hc
          obtain ⟨⟨rfl, rfl⟩, hs⟩ := hc
          obtain ⟨rfl, hr⟩ := k1
          refine ⟨rfl, fun y hy => ?_⟩
          rw [hd] at hy
          cases hy
          obtain ⟨o, ho⟩ := Option.isSome_iff_exists.mp hs
          exact (o1.ob k o d' ho hr).some
      | adr a' =>
        cases n with
        | none =>
          have hc : decide (a' = a) = true := hc
          obtain rfl := of_decide_eq_true hc
          refine ⟨(show v = .ref a' from k1).symm, fun y hy => ?_⟩
          rw [hd] at hy
          cases hy
        | some j => cases hc
      | _ => cases n <;> cases hc
    obtain ⟨rfl, hod⟩ := fin
    exact ⟨tv, cv, b, rfl, hcv, kit, hod, Dn.ok_here (R := VR Y.K) (a := .bl b) (v := .bl b) d1 o1 rfl⟩
  · rw [if_neg hc] at d1
    exact d1.elim
end
end Q

namespace Q
open PySem PySem.Spec PyProof.Rows L2
variable [Gh : Ghost]
/-! ### an error's class in the text -/
def clsDef (s : Stmt) (j : Nat) : Stmt := match s with
  | .ClassDef _ _ _ body _ _ _ _ _ _ _ => body.getD j (.Pass ⟨0, 0, 0, 0⟩)
  | _ => .Pass ⟨0, 0, 0, 0⟩
section
variable {K : PySem.W.Frag} {B newId initId : String} {bb : List Value} {C : Addr} {f1 f2 f3 x0 x1 x2 x3 : Str} {vs : List V} {H : Hp} {Q : VK} {E : XK} {z : V}
/-- the end of such an __init__ -/
theorem rd0 (T : EcOk K B newId initId bb C) (h : spI C [] vs H Q E) :
    tDrop (tBI K B newId initId bb (tCons (tVar 0) (tCons (tC z) tNil))) { nx := fun _ H' => Q .non H', rt := Q } (L2.start [x0] vs) H := by
  obtain ⟨a, ws, rfl, hl, ha, go, _⟩ := h
  obtain rfl : ws = [] := List.eq_nil_of_length_eq_zero hl
  exact ⟨.ref a, rfl, a, C, [z], rfl, by simp, T, ha, go rfl⟩
theorem rd1 (T : EcOk K B newId initId bb C) (n1 : PySem.W.findIn K (.ref C) f1 = some none) (h : spI C [f1] vs H Q E) :
    tSeq (tDrop (tBI K B newId initId bb (tCons (tVar 0) (tCons (tC z) tNil)))) (tFl K B newId initId bb f1 (tVar 0) (tVar 1)) { nx := fun _ H' => Q .non H', rt := Q } (L2.start [x0, x1] vs) H := by
  obtain ⟨a, ws, rfl, hl, ha, _, go⟩ := h
  match ws, hl with
  | [y], _ =>
    refine ⟨.ref a, rfl, a, C, [z], rfl, by simp, T, ha, y, rfl, .ref a, rfl, a, C, rfl, T, n1, .inl ⟨ha, fun dx far hd => ?_⟩⟩
    refine go (by simp) dx _ hd far upd_same ?_ fun b h1 h2 => ?_
    · rw [upd_ne far, upd_same]; rfl
    · rw [upd_ne h1, upd_ne h2]
theorem spI_len {n : Nat} {fs : List Str} (hn : n = fs.length + 1) (h : spI C fs vs H Q E) : vs.length = n := by
  obtain ⟨a, ws, rfl, hl, _⟩ := h
  rw [List.length_cons, hl, hn]
end
end Q

namespace Q
open PySem PySem.Spec PyProof.Rows L2
variable [Gh : Ghost] [Gr : Grd]
/-! ### in a suite -/
structure GdW (X : Cx) : Prop where
  un : X.A.units + 200 < cLine
  gd : Gr.ok X.A.guards
theorem GdW.eq {X : Cx} (g : GdW X) : X.A.units + 64 < cLine := by have := g.un; omega
theorem Gd.suite {X : Cx} {k : Nat} {a : Addr} {pn : List (Addr × Obj)} (g : Gd X k) : GdW (X.suite a pn) := ⟨by have := g.room.un; show X.A.units + 200 < cLine; omega, g.gd⟩
theorem Gd.tr {X : Cx} {k : Nat} {pn : List (Addr × Obj)} {xe : Value → Shared → Prop} (g : Gd X k) : Gd (X.tr pn xe) k := ⟨g.calm, g.room, g.gd⟩
section
variable {X : Cx}
theorem c_reprW [GrdS Gr] (g : GdW X) : Call1D X (.builtin "repr") gRepr := by
  refine ⟨?_⟩
  intro d z x r H S S' Q q k ro ed
  obtain ⟨t, h1, q⟩ := Option.map_eq_some_iff.mp q
  cases q
  obtain ⟨p, h2, h3⟩ := Option.bind_eq_some_iff.mp h1
  by_cases hc : p.showable = true ∧ p.depth ≤ 64 ∧ p.shown.length ≤ sizeLine
  · rw [if_pos hc] at h3
    cases h3
    obtain ⟨c1, c2, c4⟩ := hc
    intro pins s σ us I rv
    obtain ⟨u, rfl, ru⟩ := vals1 rv
    obtain ⟨as, rd, hns⟩ := toPy_reads I ro 64 d p x u h2 k ru
    have hu := g.un
    have rd0 := rd
    have fin : ∀ tk, EP X pins σ Q (.str p.shown tk) { s with toks := s.toks + 1 } := fun tk => ⟨.str p.shown, H, I.tok _, ⟨tk, rfl⟩, ed.flat ro rfl⟩
    cases rd with
    | none =>
      rw [PyData.shown_none] at fin
      exact PySem.P.repr_of_none (fin _)
    | bool b =>
      rw [PyData.shown_bool] at fin
      exact PySem.P.repr_of_bool (by cases b <;> exact fin _)
    | int i t =>
      rw [PyData.shown_int] at fin
      refine PySem.P.repr_of_int (by simpa [PyData.showable] using c1) (fin _)
    | str y t =>
      rw [PyData.shown_str] at fin c4
      exact PySem.P.repr_of_str (fin _) c4
    | list _ _ _ _ =>
      exact repr_of_reads' rd0 c1 (fun _ => hns) (GrdS.std g.gd) (by omega) (fun _ _ e => e) (fun h' u tk hk => ⟨.str _, H, I.kept hk, ⟨u, rfl⟩, ed.flat ro rfl⟩) c4
    | tuple _ _ _ _ =>
      exact repr_of_reads' rd0 c1 (fun _ => hns) (GrdS.std g.gd) (by omega) (fun _ _ e => e) (fun h' u tk hk => ⟨.str _, H, I.kept hk, ⟨u, rfl⟩, ed.flat ro rfl⟩) c4
    | dict _ _ _ _ _ =>
      exact repr_of_reads' rd0 c1 (fun _ => hns) (GrdS.std g.gd) (by omega) (fun _ _ e => e) (fun h' u tk hk => ⟨.str _, H, I.kept hk, ⟨u, rfl⟩, ed.flat ro rfl⟩) c4
  · rw [if_neg hc] at h3; cases h3

end
/-! ### all the classes of a text -/
theorem ec_nil {K : PySem.W.Frag} : ∀ C ∈ ([] : List Addr), ∃ B newId initId bb, EcOk K B newId initId bb C := fun _ h => nomatch h
theorem ec_cons {K : PySem.W.Frag} {C : Addr} {l : List Addr} {B newId initId : String} {bb : List Value} (T : EcOk K B newId initId bb C) (r : ∀ C ∈ l, ∃ B newId initId bb, EcOk K B newId initId bb C) : ∀ C' ∈ C :: l, ∃ B newId initId bb, EcOk K B newId initId bb C' := fun C' h => by
  rcases List.mem_cons.mp h with h | h
  · exact h ▸ ⟨B, newId, initId, bb, T⟩
  · exact r C' h
/-- two classes of unlike names -/
theorem cls_ne {K : PySem.W.Frag} {C C' : Addr} {nm nm' q q' : Str} {N N' : Addr} {bs bs' bm bm' : List Value} {hdct hdct' : Bool} {sn sn' : List Str} {sub sub' : List Value} {ab ab' : Bool} {col col' : Option Bool} {dd dd' : Option Addr} {k0 k1 k2 k3 k5 k0' k1' k2' k3' k5' : Option Value} {n n' : String}
    (h : K.lookup C = some (excClassObj nm q C N bs bm hdct sn sub ab col dd k0 k1 k2 k3 k5 n)) (h' : K.lookup C' = some (excClassObj nm' q' C' N' bs' bm' hdct' sn' sub' ab' col' dd' k0' k1' k2' k3' k5' n')) (ne : nm ≠ nm') : C ≠ C' := by
  intro e
  subst e
  rw [h] at h'
  have z := Option.some.inj h'
  have z2 : Data.cls _ = Data.cls _ := congrArg (fun o : Obj => o.data) z
  injection z2 with z3
  have z4 : nm = nm' := congrArg (fun c : ClassData => c.name) z3
  exact ne z4
section
open PySem.W
variable {K : PySem.W.Frag} {B newId initId : String} {bb : List Value} {C : Addr}
theorem EcOk.kitT (T : EcOk K B newId initId bb C) {t : String} {b : Bool} (hm : kitMeta t = true) (hb : bb.contains (.type t) = b) : kitOne K (.ref C) (.type t) = some b := by
  unfold kitOne
  rw [if_neg (by simp)]
  show (if kitMeta t = true then subIn K (.ref C) (.type t) else none) = _
  rw [if_pos hm]
  show PySem.W.mroIn K C (.type t) = _
  rw [T.mro, List.contains_cons, hb]
  simp
end
end Q

namespace Q
open PySem PySem.Spec PyProof.Rows L2
variable [Gh : Ghost] [Gr : Grd]
/-! ### def f(a, .., *v) -/
structure FnS (P : Program) (w : World) (K : PySem.W.Frag) (mg : Str → Option Value) (base : Heap) (k : Nat) (f : Addr) (n : Nat) (M : MF) : Prop where
  run : ∀ (A : Around) (outer : List Env) (s : Shared) (H : Hp) (us : List Value) (vs : List V) (r : List Addr) (ds : List D) (S : Store) (Q : VK) (E : XK),
    Room k A → Gr.ok A.guards → Env0 P w K mg base A outer s H → Vals vs us → n ≤ ds.length → ds.length ≤ sizeLine → VRs K r H ds vs → ROk K r H S → Dn K r H (VR K) (M ds S) Q E →
    codeAny (model P w) A (.call (.ref f) ⟨us, []⟩) (CR (CX P w) outer P w H s Q E) s
theorem FnS.mono {P : Program} {w : World} {K : PySem.W.Frag} {mg : Str → Option Value} {base : Heap} {j k n : Nat} {f : Addr} {M : MF} (F : FnS P w K mg base j f n M) (h : j ≤ k) : FnS P w K mg base k f n M :=
  ⟨fun A outer s H us vs r ds S Q E hr => F.run A outer s H us vs r ds S Q E (hr.mono h)⟩
def mDefS (n k : Nat) (m : MS) : MF := fun ds S => endM (m (startE k (ds.take n ++ [.tup (ds.drop n)])) S)
section
variable {P : Program} {w : World} {K : PySem.W.Frag} {mg : Str → Option Value} {base : Heap}
theorem fnS_of {k : Nat} {f : Addr} {x qual : Str} {params : Arguments} {body : List Stmt} {scope : Scope} {kws : List (Str × V)} {fd : FuncData} {N ps : List Str} {pv : Str} {m : MS} (F : FunD K x qual params body scope [] kws f fd) (Sc : FnScope N (ps ++ [pv]) scope)
    (hb : ∀ (kV doc pm : Value) (an : Option Addr) (cdv ct : Value) (us rest : List Value), us.length = ps.length → bindArgs (PySem.W.fnOf x qual params body scope .none kV doc pm an cdv ct) ⟨us ++ rest, []⟩ = (newTuple rest >>= fun t => pure (ps.zip us ++ [(pv, t)])))
    (hbody : ∀ (cd : Value) (A : Around) (outer : List Env) (s : Shared) (H : Hp) (E : XK), Gd (cxM P w K mg base N qual scope f cd A outer s H E) k → PassesOwn (model P w) (cxM P w K mg base N qual scope f cd A outer s H E).A (cxM P w K mg base N qual scope f cd A outer s H E).env (cxM P w K mg base N qual scope f cd A outer s H E).xe →
      SndSs (cxM P w K mg base N qual scope f cd A outer s H E) body m) : FnS P w K mg base (k + 1) f ps.length (mDefS ps.length N.length m) := by
  obtain ⟨oc, od, dV, kV, doc, pm, an, cdv, ct, osl, rfl, lk, hcd, hD, _⟩ := F.ex
  obtain rfl : dV = .none := by
    rcases hD with ⟨_, h⟩ | ⟨h, _⟩
    · exact h
    · exact absurd rfl h
  constructor
  intro A outer s H us vs r ds S Q E room gds e0 rel hn hz hrel ro dn
  have hl := hrel.length
  have hn0 : H s.heap.objs.size = Option.none := e0.hok.fresh (Nat.le_refl _)
  obtain ⟨u1, u2, rfl, r1, r2⟩ := StX.vals_split (ws := vs.take ps.length) (rest := vs.drop ps.length) (us := us) (by rw [List.take_append_drop]; exact rel)
  have hlt : (vs.take ps.length).length = ps.length := by rw [List.length_take]; omega
  have hl1 : u1.length = ps.length := by rw [← r1.length]; exact hlt
  have hz2 : (vs.drop ps.length).length ≤ sizeLine := by rw [List.length_drop]; omega
  have hl2 : u2.length ≤ sizeLine := by rw [← r2.length]; exact hz2
  refine StX.run_bnd lk hcd Sc room e0 (G := fun xs H2 => ∃ p, H p = Option.none ∧ xs = vs.take ps.length ++ [V.ref p] ∧ H2 = upd H p (.tup (vs.drop ps.length))) (fun A' Ex Q' h => ?_) fun s2 H2 xs ⟨p, hp, ex, eH⟩ hr' => ?_
  · rw [hb kV doc pm an cdv ct u1 u2 hl1]
    refine wpAny_bind (wpAny_newTuple (wpAny_pure ?_) hl2)
    have new : ObjOk P w (upd H s.heap.objs.size (.tup (vs.drop ps.length))) (s.heap.push ({ cls := .type "tuple", data := .seq u2.toArray } : Obj)) s.heap.objs.size (.tup (vs.drop ps.length)) := ⟨hz2, u2, r2, ⟨_, Heap.get?_push_size _ rfl, rfl, _, rfl⟩⟩
    have un := StX.un_laid (fs := frs outer) (s := s) (o := ({ cls := .type "tuple", data := .seq u2.toArray } : Obj)) (u := .tup (vs.drop ps.length)) hn0
    have z := h _ _ (vs.take ps.length ++ [V.ref s.heap.objs.size]) (u1 ++ [Value.ref s.heap.objs.size]) (StX.env0_laid e0 new) un rfl (fun e s' => StX.cxUp outer s H _ _ E e s' un (fun b o q => Heap.get?_push_of_some _ q) rfl) (r1.append (.cons rfl .nil))
      (by rw [List.length_append, List.length_append, hlt] <;> rfl) ⟨_, hn0, rfl, rfl⟩
    rw [List.zip_append hl1.symm] at z
    exact z
  · subst ex eH
    have gd : Gd (cxM P w K mg base N qual scope f cdv A outer s2 (upd H p (.tup (vs.drop ps.length))) E) k := ⟨rfl, hr', gds⟩
    have st : Stp r H r (upd H p (.tup (vs.drop ps.length))) := Stp.loose hp
    have hrel2 : VRs K r (upd H p (.tup (vs.drop ps.length))) (ds.take ps.length ++ [.tup (ds.drop ps.length)]) (vs.take ps.length ++ [V.ref p]) :=
      ((VRs.take ps.length hrel).mono st).append ⟨.ref p, [], rfl, ⟨p, vs.drop ps.length, rfl, upd_same, (VRs.drop ps.length hrel).mono st⟩, rfl⟩
    refine ⟨fun D σ H' => wSs (cxM P w K mg base N qual scope f cdv A outer s2 (upd H p (.tup (vs.drop ps.length))) E) body D σ H', ⟨fun pins s σ H D I h => h pins s I⟩, ?_⟩
    exact (hbody cdv A outer s2 _ E gd owns_cxM).run _ takes_cxM (startE N.length (ds.take ps.length ++ [D.tup (ds.drop ps.length)])) (L2.start N (vs.take ps.length ++ [V.ref p])) r _ S _ (ER.start N hrel2) (ro.loose hp) (DnS.of_end (Dn.mono st dn))
end
section
variable {X : Cx} {k n : Nat} {f : Addr} {M : MF} {x : Str} {p pos : Pos} {e : Expr} {es : List Expr} {m : MA}
end
end Q

namespace Q
open PySem PySem.Spec PyProof.Rows L2
/-! ### errors, and defs with a star, in what is wished -/
section
variable {α : Type} {en : En} {S : Store} {E : EK} {P : D → Store → Prop} {N : En → Store → Prop} {R : D → Store → Prop} {B C : En → Store → Prop} {X : XKs}
theorem wpE_defS {n k : Nat} {b : MS} {ds : List D} (h : wpS (b (startE k (ds.take n ++ [.tup (ds.drop n)])) S) (fun _ T => P .non T) P (fun _ _ => False) (fun _ _ => False) (fun c n _ T => E c n T)) : wpE (mDefS n k b ds S) P E :=
  wpE_def (n := k) (b := b) (ds := ds.take n ++ [D.tup (ds.drop n)]) h
theorem wpS_raise {c : Addr} {fs : List Str} {m : MA} (h : wpE (m en S) (fun ds T => (ds.length = fs.length ∧ ds.length ≤ 1000) ∧ ∀ q U, Kp T U → T.length ≤ q → U[q]? = some (.xd (fs.zip ds).reverse) → X c (some q) en U) (fun c n T => X c n en T)) : wpS (mRaise c fs m en S) N R B C X :=
  wpS_stm (wpE_mono h (fun ds T q => by
    rw [if_pos q.1]
    exact q.2 _ _ Kp.app (Nat.le_refl _) at_mid) fun _ _ _ q => q)
theorem wpS_try {cs : List Addr} {mb : MS} {hs : List Hd} (h : wpS (mb en S) N R B C (fun c n e T => c ∈ cs ∧ wpS (runH c n e T hs) N R B C X)) : wpS (mTry cs mb hs en S) N R B C X := by
  unfold mTry
  cases q : mb en S with
  | err c n e T =>
    rw [q] at h
    dsimp only
    rw [if_pos h.1]
    exact h.2
  | _ => rw [q] at h; exact h
theorem wp_runRt {c : Addr} {n : Option Nat} {h : Hd} {r : List Hd} {d : D} {T : Store} (hc : c = h.C) (hq : ∀ a x, h.ms a x n (en.set h.i (some (excV a x n))) S = .rt d T) (k : R d T) : wpS (runH c n en S (h :: r)) N R B C X := by
  rw [runH_yes hc (q := .rt d T) (fun a x => by rw [hq]; rfl)]
  exact k
end
/-! ### a suite's result, term by term -/
section
variable {en : En} {S T U : Store} {d z : D} {ds : List D} {a x : Addr} {n i : Nat} {fs : List (Str × D)} {f r : Str} {m y : ME} {q : MA}
theorem mXf_at (h : S[n]? = some (.xd fs)) (hz : fs.lookup f = some z) (he : en[i]? = some (some (.exc a x n))) : mXf a x (some n) f (mVar i) en S = .ok z S := by
  unfold mXf
  rw [mVar_at he, bind_ok]
  dsimp only
  rw [if_pos ⟨rfl, rfl⟩, h]
  dsimp only
  rw [hz]
theorem mIsX_at {b : Bool} (h : S[n]? = some (.xd fs)) (he : en[i]? = some (some (.exc a x n))) : mIsX a x (some n) b (mVar i) en S = .ok (.bl b) S := by
  unfold mIsX
  rw [mVar_at he, bind_ok, if_pos (by unfold isX; simp [h])]
theorem mTup_at (h : q en S = .ok ds T) (hl : ds.length ≤ sizeLine) : mTup q en S = .ok (.tup ds) T := by
  unfold mTup
  rw [h, bind_ok, if_pos hl]
theorem mCons_at (h1 : m en S = .ok d T) (h2 : q en T = .ok ds U) : mCons m q en S = .ok (d :: ds) U := by
  rw [mCons_eq, h1, bind_ok, h2, bind_ok]
theorem mRet_at (h : m en S = .ok d T) : mRet m en S = .rt d T := by
  rw [mRet_eq, h, stm_ok]
theorem mRepr_at (h : m en S = .ok d T) (hr : reprP d T = some r) : mCall (g1N gRepr) (mCons m mNil) en S = .ok (.str r) T := by
  rw [mCall_eq, mCons_at h (ds := []) (U := T) rfl, bind_ok]
  show ofOpt (gRepr d T) = _
  unfold gRepr
  rw [hr]
  rfl
end
end Q

namespace Q
open PySem PySem.W PySem.SeqAt PyProof.Rows
/-! ### sorting of tuples of which some are empty -/
section
variable {prog : Program} {s : Shared} {A : Around} {w : World}
end
section
variable {β : Type} {enc : β → PyData} {R : Value → β → Prop} {bs : List β} {vs : List Value} {E : Value → Shared → Prop} {prog : Program} {s : Shared} {w : World} {A : Around}
end
end Q

namespace Q
open PySem PySem.Spec PyProof.Rows L2
variable [Gh : Ghost] [Gr : Grd]
/-! ### sorted(..) of data that can be compared -/
section
variable {X : Cx} {k : Nat} {pins : List (Addr × Obj)} {σ : L2.St} {H : Hp} {s : Shared} {r : List Addr} {S : Store}
end
end Q

namespace Q
open PySem PySem.Spec PyProof.Rows L2
variable [Gh : Ghost]
/-! ### more methods of lists -/
theorem VRs.reverse {K : PySem.W.Frag} {r : List Addr} {H : Hp} : ∀ {ds : List D} {vs : List V}, VRs K r H ds vs → VRs K r H ds.reverse vs.reverse
  | [], _, h => by subst h; rfl
  | d :: ds, _, ⟨v, ws, h1, h2, h3⟩ => by
    subst h1
    rw [List.reverse_cons, List.reverse_cons]
    exact (VRs.reverse h3).append (VRs.one h2)
section
variable {X : Cx}
def gExtend : GM := fun d ds S => match d, ds with
  | .ref n, [.ref m] => match S[n]?, S[m]? with
    | some (.lst xs), some (.lst ys) => if xs.length + ys.length ≤ sizeLine then some (.non, S.set n (.lst (xs ++ ys))) else none
    | _, _ => none
  | _, _ => none
theorem m_extend : MtD X "list.extend" gExtend := by
  refine ⟨?_⟩
  intro d ds z x xs r H S S' Q g1 k1 k2 o ed pins s σ v us I rx rs
  unfold gExtend at g1
  split at g1
  · rename_i n m
    obtain ⟨p, hp, rfl⟩ := k1
    obtain ⟨w, rfl, kw⟩ := k2.one_inv
    obtain ⟨p2, hp2, rfl⟩ := kw
    split at g1
    · rename_i ys zs hq hq2
      split at g1
      · rename_i hz
        cases g1
        obtain ⟨vs, h1, h2⟩ := o.ob n _ p hq hp
        obtain ⟨ws, h3, h4⟩ := o.ob m _ p2 hq2 hp2
        have ss : Stp r H r (upd H p (.lst (vs ++ ws))) := Stp.mut h1 trivial
        refine mt_extend pins s σ H (.ref p) [.ref p2] v us Q I rx rs ⟨p, p2, vs, ws, rfl, rfl, h1, h3, by rw [← h2.length, ← h4.length]; exact hz, ?_⟩
        exact ed r _ _ ss (o.mut hp h1 trivial ⟨_, upd_same, (h2.mono ss).append (h4.mono ss)⟩) rfl
      · cases g1
    · cases g1
  · cases g1
end
end Q

namespace Q
open PySem PySem.Spec PyProof.Rows L2
variable [Gh : Ghost] [Gr : Grd]
/-! ### x in xs, xs a list or a tuple of data -/
section
variable {X : Cx}
/-! ### xs.index(y) -/
end
end Q

namespace Q
open PySem PySem.Spec PyProof.Rows L2
variable [Gh : Ghost] [Gr : Grd]
/-! ### max(xs), min(xs) of ints -/
def gMax1 : G1 := fun d S => (lstD d S).bind fun ds => (intsD ds).bind fun ns => ns.max?.map fun m => (.int m, S)
def gMin1 : G1 := fun d S => (lstD d S).bind fun ds => (intsD ds).bind fun ns => ns.min?.map fun m => (.int m, S)
section
variable {X : Cx} {k : Nat}
theorem c_max1 (g : Gd X k) : Call1D X (.builtin "max") gMax1 := by
  refine ⟨?_⟩
  intro d z x r H S S' Q q k ro ed
  obtain ⟨ds, h1, q⟩ := Option.bind_eq_some_iff.mp q
  obtain ⟨ns, h2, q⟩ := Option.bind_eq_some_iff.mp q
  obtain ⟨m, h3, q⟩ := Option.map_eq_some_iff.mp q
  cases q
  obtain ⟨p, vs, rfl, hs, hv⟩ := lst_of ro k h1
  rw [intsD_ok h2 hv] at hs
  obtain ⟨hm, hb⟩ := List.max?_eq_some_iff.mp h3
  refine wC_of (cr_max g.calm) ⟨p, ns, rfl, hs, List.length_pos_of_mem hm, fun m' h1 h2 => ?_⟩
  have e : m' = m := Int.le_antisymm (hb _ h1) (h2 _ hm)
  subst e
  exact ed.flat ro rfl
theorem c_min1 (g : Gd X k) : Call1D X (.builtin "min") gMin1 := by
  refine ⟨?_⟩
  intro d z x r H S S' Q q k ro ed
  obtain ⟨ds, h1, q⟩ := Option.bind_eq_some_iff.mp q
  obtain ⟨ns, h2, q⟩ := Option.bind_eq_some_iff.mp q
  obtain ⟨m, h3, q⟩ := Option.map_eq_some_iff.mp q
  cases q
  obtain ⟨p, vs, rfl, hs, hv⟩ := lst_of ro k h1
  rw [intsD_ok h2 hv] at hs
  obtain ⟨hm, hb⟩ := List.min?_eq_some_iff.mp h3
  refine wC_of (cr_min g.calm) ⟨p, ns, rfl, hs, List.length_pos_of_mem hm, fun m' h1 h2 => ?_⟩
  have e : m' = m := Int.le_antisymm (h2 _ hm) (hb _ h1)
  subst e
  exact ed.flat ro rfl
end
/-! ### xs[::-1], xs a list or a tuple -/
section
variable {prog : Program} {w : World} {A : Around} {E : Value → Shared → Prop} {s : Shared}
theorem rev_adjust (n : Nat) : Builtin.Slice.sliceAdjust none none (-1) (n : Int) = ((n : Int) - 1, -1) := by
  unfold Builtin.Slice.sliceAdjust
  simp
theorem rev_places (n : Nat) : Builtin.Slice.slicePlaces ((n : Int) - 1) (-1) (-1) = n := by
  unfold Builtin.Slice.slicePlaces
  rw [if_neg (by decide)]
  by_cases h : (n : Int) - 1 > -1
  · rw [if_pos h, show (-(-1) : Int) = 1 from rfl, Int.ediv_one]
    omega
  · rw [if_neg h]
    omega
theorem rev_pick (xs : List Value) : (List.range xs.length).filterMap (fun (m : Nat) => xs.toArray[((xs.length : Int) - 1 + (m : Int) * (-1)).toNat]?) = xs.reverse := by
  have e : ∀ (k : Nat), k ≤ xs.length → (List.range k).filterMap (fun (m : Nat) => xs.toArray[((xs.length : Int) - 1 + (m : Int) * (-1)).toNat]?) = xs.reverse.take k := fun k => by
    induction k with
    | zero => intro _; rfl
    | succ k ih =>
      intro hk
      rw [List.range_succ, List.filterMap_append, ih (by omega), List.take_add_one]
      congr 1
      have e1 : ((xs.length : Int) - 1 + (k : Int) * (-1)).toNat = xs.length - 1 - k := by omega
      rw [List.filterMap_cons, List.filterMap_nil, e1, List.getElem?_toArray, List.getElem?_reverse (by omega)]
      have h2 : xs.length - 1 - k < xs.length := by omega
      rw [List.getElem?_eq_getElem h2]
      rfl
  rw [e _ (Nat.le_refl _), List.take_of_length_le (by rw [List.length_reverse]; omega)]
theorem rev_applied {sl : Addr} {vl vu vs : Value} {n : Nat} {Q : Int × Int × Nat → Shared → Prop} (hs : s.heap.IsSliceOf sl vl vu vs) (pl : IsPart vl none) (pu : IsPart vu none) (ps : IsPart vs (some (-1)))
    (h : Q (((n : Nat) : Int) - 1, -1, n) s) : wpAny (model prog w) A (Builtin.Slice.sliceApplied (.ref sl) (pure (n : Int))) Q E s := by
  obtain ⟨os, hos, hcs, hds⟩ := id hs
  unfold Builtin.Slice.sliceApplied Builtin.Slice.sliceFields
  refine wpAny_bind (wpAny_bind (wpAny_field hos hds (x := vl) rfl (wpAny_bind (wpAny_field hos hds (x := vu) rfl (wpAny_bind (wpAny_field hos hds (x := vs) rfl (wpAny_pure ?_)))))))
  refine wpAny_bind (HT.slicePart_ ps ?_)
  show wpAny _ _ (if ((-1 : Int) == 0) = true then _ else _) _ _ s
  rw [if_neg (by decide)]
  refine wpAny_bind (HT.slicePart_ pl (wpAny_bind (HT.slicePart_ pu (wpAny_bind (wpAny_pure ?_)))))
  show wpAny _ _ (match Builtin.Slice.sliceAdjust none none (-1) (n : Int) with | (lo, hi) => pure (lo, (-1 : Int), Builtin.Slice.slicePlaces lo hi (-1))) _ _ s
  rw [rev_adjust n]
  show wpAny _ _ (pure (((n : Nat) : Int) - 1, (-1 : Int), Builtin.Slice.slicePlaces ((n : Int) - 1) (-1) (-1))) _ _ s
  rw [rev_places]
  exact wpAny_pure h
/-- t[sl] on a tuple comes down to the tuple's own item taking -/
theorem tup_sub {t : Addr} {y : Value} {items : Array Value} {Q : Value → Shared → Prop} (ht : IsTup s.heap t items)
    (h : wpAny (model prog w) A.in1 (Builtin.«tuple.__getitem__» ⟨[.ref t, y], []⟩) (fun r s' => ∃ v, r = .done (.ret v) ∧ Q v s') E s) : wpAny (model prog w) A (getItem (.ref t) y) Q E s := by
  have into : wpAny (model prog w) A (callSpecial? (.ref t) "__getitem__" [y]) (fun o s' => ∃ v, o = some v ∧ Q v s') E s := by
    have S := PyProof.Rows.slot_tuple_getitem
    refine wpAny_callSpecial?_slot ht.typeIs S ?_
    refine wpAny_call_entry S ht.typeIs entry_tuple_getitem ?_ (args_tuple_getitem (.ref t) y)
    refine wpAny_mono h (fun r s' q => ?_) fun _ _ q => q
    obtain ⟨v, e, q⟩ := q
    exact ⟨v, e, v, rfl, q⟩
  have key : wpAny (model prog w) A (sequenceKey (.ref t) y "__getitem__") (fun k s' => k = y ∧ s' = s) E s := wpAny_sequenceKey ht.typeIs (by decide) ⟨rfl, rfl⟩
  unfold getItem
  refine wpAny_holding (wpAny_bind (wpAny_mono key (fun k s' e => ?_) fun _ _ q => q))
  obtain ⟨e1, e2⟩ := e
  subst e1 e2
  refine wpAny_bind (wpAny_mono into (fun o s' q => ?_) fun _ _ q => q)
  obtain ⟨v, e, q⟩ := q
  subst e
  exact wpAny_pure q
/-- that item taking at a slice which goes back through all of it -/
theorem tup_back {t sl : Addr} {items : List Value} {vl vu vs : Value} {Q : Value → Shared → Prop} (ht : IsTup s.heap t items.toArray) (hs : s.heap.IsSliceOf sl vl vu vs) (pl : IsPart vl none) (pu : IsPart vu none) (ps : IsPart vs (some (-1)))
    (hsz : items.length ≤ sizeLine) (h : Q (.ref s.heap.objs.size) { s with heap := s.heap.push { cls := .type "tuple", data := .seq items.reverse.toArray } }) :
    wpAny (model prog w) A (Builtin.«tuple.__getitem__» ⟨[.ref t, .ref sl], []⟩) (fun r s' => ∃ v, r = .done (.ret v) ∧ Q v s') E s := by
  have isSl : s.TypeIs (.ref sl) "slice" := by
    obtain ⟨o, e, c, _⟩ := id hs
    exact ⟨o, e, c⟩
  have small : sizeOk (.seq items.reverse.toArray) := show items.reverse.toArray.size ≤ sizeLine by simpa using hsz
  have laid : wpAny (model prog w) A (Builtin.Tuple.tupleExact items.reverse.toArray) (fun v s' => Q v s') E s := wpAny_newObj_type h small
  have whole : ((items.length : Int) - 1 == 0 && (-1 : Int) == 1 && items.length == items.length) = false := by simp
  show wpAny (model prog w) A (Builtin.Tuple.tupleItemsOf (.ref t) >>= _) _ E s
  refine wpAny_bind (tupleItemsOf_ ht (wpAny_bind (wpAny_typeOf isSl ?_)))
  simp only [beq_self_eq_true, if_true]
  refine wpAny_bind (rev_applied (n := items.length) hs pl pu ps ?_)
  show wpAny (model prog w) A (if ((items.length : Int) - 1 == 0 && (-1 : Int) == 1 && items.length == items.length) = true then _ else _) _ E s
  rw [whole, rev_pick]
  exact wpAny_bind (wpAny_mono laid (fun v s' q => wpAny_pure ⟨v, rfl, q⟩) fun _ _ q => q)
end
def tRevA (K : PySem.W.Frag) (te : TE) : TE := fun σ H Q => te σ H fun x H1 => ∃ a xs, x = .ref a ∧ ((SqL K H1 a xs ∧ ∀ p, H1 p = none → Q (.ref p) (upd H1 p (.lst xs.reverse))) ∨ (SqT K H1 a xs ∧ ∀ p, H1 p = none → Q (.ref p) (upd H1 p (.tup xs.reverse))))
section
variable {X : Cx} {k : Nat} {p1 p2 p3 pos : Pos} {pins : List (Addr × Obj)} {s : Shared} {σ : L2.St} {H : Hp} {Q : Value → Shared → Prop}
/-- what is left out in a slice -/
theorem part_out (I : Inv X pins σ H s) (q : ∀ v s', Inv X pins σ H s' → IsPart v none → Q v s') : wpAny (model X.prog X.w) X.A (evalPart none X.env) Q X.xe s := by
  have run := (po_none (X := X)).run pins s σ H (fun o G => o = none ∧ G = H) I ⟨rfl, rfl⟩
  refine wpAny_mono run (fun v s' z => ?_) fun _ _ z => z
  obtain ⟨o, G, J, p, e, eG⟩ := z
  rw [e] at p
  rw [eG] at J
  exact q v s' J p
/-- its step -1 -/
theorem part_m1 (I : Inv X pins σ H s) (q : ∀ v s', Inv X pins σ H s' → IsPart v (some (-1)) → Q v s') : wpAny (model X.prog X.w) X.A (evalPart (some (.UnaryOp .USub (.Constant (.int 1) k p1) p2)) X.env) Q X.xe s := by
  have step : PO X (some (.UnaryOp .USub (.Constant (.int 1) k p1) p2)) _ := po_some (pe_un un_neg pe_int)
  have run := step.run pins s σ H (fun o G => o = some (-1) ∧ G = H) I ⟨1, rfl, -1, rfl, rfl, rfl⟩
  refine wpAny_mono run (fun v s' z => ?_) fun _ _ z => z
  obtain ⟨o, G, J, p, e, eG⟩ := z
  rw [e] at p
  rw [eG] at J
  exact q v s' J p
/-- the slice object of ::-1 -/
theorem slice_back (I : Inv X pins σ H s)
    (q : ∀ (s' : Shared) (sl : Addr), sl = s'.heap.objs.size → ∀ (vl vu vs : Value), Inv X pins σ H s' → IsPart vl none → IsPart vu none → IsPart vs (some (-1)) → Q (.ref sl) { s' with heap := s'.heap.push { cls := .type "slice", data := .fields #[vl, vu, vs] } }) :
    wpAny (model X.prog X.w) X.A (eval (.Slice none none (some (.UnaryOp .USub (.Constant (.int 1) k p1) p2)) p3) X.env) Q X.xe s :=
  wpAny_Slice (part_out I fun vl _ J1 a => part_out J1 fun vu _ J2 b => part_m1 J2 fun vs s' J3 c => q s' _ rfl vl vu vs J3 a b c)
theorem pe_revA {e : Expr} {te : TE} (he : PE X e te) : PE X (.Subscript e (.Slice none none (some (.UnaryOp .USub (.Constant (.int 1) k p1) p2)) p3) pos) (tRevA X.K te) := by
  constructor
  intro pins s σ H Q I h
  refine Subscript_ (wpAny_mono (he.run pins s σ H _ I h) (fun v s1 got => ?_) fun _ _ z => z)
  obtain ⟨x, H1, I1, r1, a, xs, ex, hx⟩ := got
  rw [ex] at r1
  obtain rfl : v = .ref a := r1
  refine slice_back I1 fun s2 sl esl vl vu vs I2 pl pu ps => ?_
  subst esl
  have isSl := Heap.IsSliceOf.new s2.heap vl vu vs
  have I3 : Inv X pins σ H1 { s2 with heap := s2.heap.push { cls := .type "slice", data := .fields #[vl, vu, vs] } } := I2.kept (t' := s2.toks) fun _ _ => Heap.get?_push_of_some _
  generalize s2.heap.push { cls := .type "slice", data := .fields #[vl, vu, vs] } = h3 at I3 isSl ⊢
  -- the new object, of either kind
  have fin : ∀ (o : Obj) (u : HO), ObjOk X.prog X.w (upd H1 h3.objs.size u) (h3.push o) h3.objs.size u → (∀ p, H1 p = none → Q (.ref p) (upd H1 p u)) → EP X pins σ Q (.ref h3.objs.size) { s2 with heap := h3.push o } := fun o u ok q =>
    ⟨.ref _, _, I3.laid (t' := s2.toks) (fun _ _ => Heap.get?_push_of_some _) (Nat.le_refl _) ok, rfl, q _ (I3.hok.fresh (Nat.le_refl _))⟩
  rcases hx with ⟨hx, q⟩ | ⟨hx, q⟩
  · obtain ⟨its, r, il, hz⟩ := I3.list hx
    have len : xs.length = its.length := r.length
    refine tail_any (ops := [.ref a, .ref s2.heap.objs.size]) il.isList.typeIs PySem.slot_list_getitem.lookup ?_ (by with_unfolding_all rfl)
    refine wpAny_getItem_list_slice il.isList isSl pl pu ps (by decide) ?_ (by simpa using show its.length ≤ sizeLine by omega)
    rw [PySem.W.krv_pick]
    exact fin _ (.lst xs.reverse) ⟨by simpa using hz, _, 0, r.reverse, Heap.get?_push_size _ rfl⟩ q
  · obtain ⟨its, r, it, hz⟩ := I3.tuple hx
    have len : xs.length = its.length := r.length
    refine tail_any (ops := [.ref a, .ref s2.heap.objs.size]) it.typeIs PyProof.Rows.slot_tuple_getitem.lookup (tup_sub it (tup_back it isSl pl pu ps (by omega) ?_)) (by with_unfolding_all rfl)
    exact fin _ (.tup xs.reverse) ⟨by simpa using hz, _, r.reverse, IsTup.new _ _⟩ q
end
def gRev : G1 := fun d S => match d with
  | .tup xs => some (.tup xs.reverse, S)
  | d => (lstD d S).map fun ds => (.ref S.length, S ++ [.lst ds.reverse])
section
variable {X : Cx} {e : Expr} {m : ME} {k : Nat} {p1 p2 p3 pos : Pos}
theorem e_rev (ha : SndE X e m) : SndE X (.Subscript e (.Slice none none (some (.UnaryOp .USub (.Constant (.int 1) k p1) p2)) p3) pos) (m1 gRev m) := by
  refine ⟨?_⟩
  intro W tk en σ r H S Q er ro dn
  refine wE_of (pe_revA (pe_wE X e)) ?_
  refine ha.run W tk en σ r H S _ er ro (Dn.imp (Dn.bind dn) fun x H1 ⟨d, S1, r1, e1, s1, o1, k1, d1⟩ => ?_)
  obtain ⟨z, S', g1, ed⟩ := dn_ofOpt d1
  by_cases ht : ∃ xs, d = .tup xs
  · obtain ⟨xs, rfl⟩ := ht
    cases g1
    obtain ⟨p, vs, rfl, hs, hv⟩ := k1
    exact ⟨p, vs, rfl, .inr ⟨(sqT_of hs), fun q hq => ed.tupN o1 hv.reverse hq⟩⟩
  · have g1 : ((lstD d S1).map fun ds => (D.ref S1.length, S1 ++ [.lst ds.reverse])) = some (z, S') := by
      rw [← g1]
      cases d <;> first | rfl | exact absurd ⟨_, rfl⟩ ht
    obtain ⟨ds, h1, g1⟩ := Option.map_eq_some_iff.mp g1
    cases g1
    obtain ⟨p, vs, rfl, hs, hv⟩ := lst_of o1 k1 h1
    exact ⟨p, vs, rfl, .inl ⟨hs, fun q hq => ed.lstN o1 hv.reverse hq⟩⟩
end
end Q

namespace Q
open PySem PySem.Spec PyProof.Rows L2
variable [Gh : Ghost] [Gr : Grd]
/-! ### raise C(), C without fields -/
section
variable {X : Cx}
variable {B newId initId : String} {bb : List Value} {C : Addr} {x : Str} {fI : Addr} {k : Nat} {fd : FuncData} {ps : List Str} {p pos pos' : Pos}
end
end Q

namespace Q
open PySem PySem.Spec PyProof.Rows L2
variable [Gh : Ghost] [Gr : Grd]
/-! ### o[i], p[j] = a, b -/
section
variable {X : Cx} {k : Nat} {pos : Pos}
end
end Q

namespace Q
open PySem PySem.Spec PyProof.Rows L2
variable [Gh : Ghost]
/-! ### xs.index(y), ints -/
end Q

namespace Q
open PySem PySem.Spec PyProof.Rows L2
variable [Gh : Ghost] [Gr : Grd]
/-! ### list(range(n)) -/
end Q

namespace Q
open PySem PySem.Spec PyProof.Rows L2
variable [Gh : Ghost] [Gr : Grd]
/-! ### objects of own classes -/
def insD (d : D) (S : Store) : Option (Addr × List (Str × D)) := match d with
  | .ref n => match S[n]? with
    | some (.ins C fs) => some (C, fs)
    | _ => none
  | _ => none
theorem insD_ok {K : PySem.W.Frag} {r : List Addr} {H : Hp} {S : Store} {d : D} {x : V} {C : Addr} {fs : List (Str × D)} (ro : ROk K r H S) (k : VR K r H d x) (h : insD d S = some (C, fs)) : ∃ n a dx vs, d = .ref n ∧ S[n]? = some (.ins C fs) ∧ r[n]? = some a ∧ x = .ref a ∧ H a = some (.ins C dx vs) ∧ FR K r H fs vs ∧ OwnOk K C := by
  cases d with
  | ref n =>
    obtain ⟨a, ha, rfl⟩ := k
    unfold insD at h
    dsimp only at h
    cases q : S[n]? with
    | none => rw [q] at h; cases h
    | some o =>
      rw [q] at h
      cases o with
      | ins C' fs' =>
        cases h
        obtain ⟨dx, vs, h1, h2, h3⟩ := ro.ob n _ a q ha
        exact ⟨n, a, dx, vs, rfl, q, ha, rfl, h1, h2, h3⟩
      | _ => cases h
  | _ => cases h
theorem FR.look {K : PySem.W.Frag} {r : List Addr} {H : Hp} {f : Str} {d : D} : ∀ {fs : List (Str × D)} {vs : List (Str × V)}, FR K r H fs vs → fs.lookup f = some d → ∃ v, vs.lookup f = some v ∧ VR K r H d v
  | [], _, _, e => by cases e
  | (g, x) :: fs, _, ⟨v, ws, rfl, h2, h3⟩, e => by
    rw [List.lookup_cons] at e ⊢
    cases q : f == g with
    | true => rw [q] at e; cases e; exact ⟨v, rfl, h2⟩
    | false => rw [q] at e; exact FR.look h3 e
theorem FR.no {K : PySem.W.Frag} {r : List Addr} {H : Hp} {f : Str} : ∀ {fs : List (Str × D)} {vs : List (Str × V)}, FR K r H fs vs → fs.lookup f = none → vs.lookup f = none
  | [], _, h, _ => by obtain rfl := h; rfl
  | (g, x) :: fs, _, ⟨v, ws, rfl, h2, h3⟩, e => by
    rw [List.lookup_cons] at e ⊢
    cases q : f == g with
    | true => rw [q] at e; cases e
    | false => rw [q] at e; exact FR.no h3 e
theorem FR.length {K : PySem.W.Frag} {r : List Addr} {H : Hp} : ∀ {fs : List (Str × D)} {vs : List (Str × V)}, FR K r H fs vs → fs.length = vs.length
  | [], _, h => by obtain rfl := h; rfl
  | (g, x) :: fs, _, ⟨v, ws, rfl, h2, h3⟩ => by rw [List.length_cons, List.length_cons, FR.length h3]
def putFD (f : Str) (v : D) : List (Str × D) → List (Str × D)
  | [] => [(f, v)]
  | (g, x) :: r => if g = f then (g, v) :: r else (g, x) :: putFD f v r
theorem FR.put {K : PySem.W.Frag} {r : List Addr} {H : Hp} {f : Str} {d : D} {v : V} (hv : VR K r H d v) : ∀ {fs : List (Str × D)} {vs : List (Str × V)}, FR K r H fs vs → FR K r H (putFD f d fs) (putF f v vs)
  | [], _, h => by obtain rfl := h; exact ⟨v, [], rfl, hv, rfl⟩
  | (g, x) :: fs, _, ⟨w, ws, rfl, h2, h3⟩ => by
    unfold putFD putF
    by_cases e : g = f
    · rw [if_pos e, if_pos e]; exact ⟨v, ws, rfl, hv, h3⟩
    · rw [if_neg e, if_neg e]; exact ⟨w, _, rfl, h2, FR.put hv h3⟩
theorem own_kit {K : PySem.W.Frag} {C : Addr} {t : String} {b : Bool} (hm : PySem.W.kitMeta t = true) (h : PySem.W.mroIn K C (.type t) = some b) : PySem.W.kitOne K (.ref C) (.type t) = some b := by
  unfold PySem.W.kitOne
  rw [if_neg (by simp)]
  show (if PySem.W.kitMeta t = true then PySem.W.subIn K (.ref C) (.type t) else none) = _
  rw [if_pos hm]
  exact h
theorem own_nT {K : PySem.W.Frag} {C : Addr} (h0 : PySem.W.mroIn K C (.type "int") = some false) (h1 : PySem.W.mroIn K C (.type "bool") = some false) (h2 : PySem.W.mroIn K C (.type "tuple") = some false) (h3 : PySem.W.mroIn K C (.type "list") = some false) (h4 : PySem.W.mroIn K C (.type "str") = some false) (h5 : PySem.W.mroIn K C (.type "dict") = some false) :
    ∀ T : String, T = "int" ∨ T = "bool" ∨ T = "tuple" ∨ T = "list" ∨ T = "str" ∨ T = "dict" → PySem.W.kitOne K (.ref C) (.type T) = some false := fun T h => by
  rcases h with rfl | rfl | rfl | rfl | rfl | rfl
  · exact own_kit (by decide +kernel) h0
  · exact own_kit (by decide +kernel) h1
  · exact own_kit (by decide +kernel) h2
  · exact own_kit (by decide +kernel) h3
  · exact own_kit (by decide +kernel) h4
  · exact own_kit (by decide +kernel) h5
theorem call_guards {A : Around} {C : Addr} {us : List Value} {kw : List (Str × Value)} : (A.under (.builtin "type.__call__" ⟨.ref C :: us, kw⟩)).guards = A.guards := by
  first | rfl | simp [Around.under, Code.weight, Code.isCreation, Code.isGuard, Code.isCaller, Code.frames, Code.isFrame, guardIds]
theorem in1_guards {A : Around} : A.in1.guards = A.guards := by first | rfl | simp [Around.in1, Around.under]
/-! e.f -/
def gFld (Cs : List Addr) (f : Str) : G1 := fun d S => (insD d S).bind fun p => if p.1 ∈ Cs then (p.2.lookup f).map fun v => (v, S) else none
section
variable {X : Cx} {e o value : Expr} {f : Str} {pos pos' apos : Pos} {m mo mv : ME} {Cs : List Addr} {k : Nat}
theorem e_fld (hC : ∀ C ∈ Cs, NoAttr X.K C f) (ha : SndE X e m) (hb : attributeBase e f X.env (eval e X.env) = eval e X.env := by rfl) : SndE X (.Attribute e f pos) (m1 (gFld Cs f) m) := by
  refine ⟨?_⟩
  intro W tk en σ r H S Q er ro dn
  refine wE_of (pe_fld (pe_wE X e) hb) ?_
  refine ha.run W tk en σ r H S _ er ro (Dn.imp (Dn.bind dn) fun x H1 ⟨d, S1, r1, e1, s1, o1, k1, d1⟩ => ?_)
  obtain ⟨z, S', g1, ed⟩ := dn_ofOpt d1
  obtain ⟨⟨C, fs⟩, h1, g1⟩ := Option.bind_eq_some_iff.mp g1
  by_cases hm : C ∈ Cs
  · rw [if_pos hm] at g1
    obtain ⟨v, h2, g1⟩ := Option.map_eq_some_iff.mp g1
    cases g1
    obtain ⟨n, a, dx, vs, rfl, hS, hr, rfl, hH, hf, ow⟩ := insD_ok o1 k1 h1
    obtain ⟨w, h3, h4⟩ := hf.look h2
    exact ⟨a, C, dx, vs, w, rfl, hH, ow.cl, hC C hm, h3, ed.flat o1 h4⟩
  · rw [if_neg hm] at g1; cases g1
/-! o.f = value -/
def setFD (Cs : List Addr) (f : Str) (d z : D) (S : Store) : Option Store := match d with
  | .ref n => match S[n]? with
    | some (.ins C fs) => if C ∈ Cs ∧ fs.length < 1000 then some (S.set n (.ins C (putFD f z fs))) else none
    | _ => none
  | _ => none
def mSetF (Cs : List Addr) (f : Str) (mo mv : ME) : MS := fun en S => (mv en S).stm en fun z S1 => (mo en S1).stm en fun d S2 => mStoreP (setFD Cs f d z S2) en
theorem s_setF (hC : ∀ C ∈ Cs, NoAttr X.K C f) (ho : SndE X o mo) (hv : SndE X value mv) (hs : swapsWith value (some (.Attribute o f pos')) pos.line X.env = pure false := by rfl) :
    SndS X (.Assign [.Attribute o f pos'] value pos) (mSetF Cs f mo mv) := by
  refine ⟨?_⟩
  intro W tk en σ r H S D er ro dn pins s I
  refine plainObj_wpAny_Assign_Attribute (thn (hv.run W tk en σ r H S _ er ro (DnS.stm (R := VR X.K) er dn) pins s I) fun rv s1 ⟨v, H1, I1, rr, z, S1, r1, e1, t1, o1, k1, er1, d1⟩ => thn (ho.run W tk en σ r1 H1 S1 _ er1 o1 (DnS.stm (R := VR X.K) er1 d1) pins s1 I1) fun ov s2 ⟨x, H2, I2, rx, d, S2, r2, e2, t2, o2, k2, er2, d2⟩ => ?_) hs
  have k1 := k1.mono t2
  cases q : setFD Cs f d z S2 with
  | none => rw [q] at d2; exact d2.elim
  | some S3 =>
    rw [q] at d2
    cases d with
    | ref n =>
      obtain ⟨p, hp, rfl⟩ := k2
      cases rx
      unfold setFD at q
      dsimp only at q
      cases q' : S2[n]? with
      | none => rw [q'] at q; cases q
      | some ob =>
        rw [q'] at q
        have oo := o2.ob n ob p q' hp
        cases ob with
        | ins C fs =>
          dsimp only at q
          by_cases hc : C ∈ Cs ∧ fs.length < 1000
          · rw [if_pos hc] at q
            cases q
            obtain ⟨dx, vs, h1, h2, h3⟩ := oo
            have ss : Stp r2 H2 r2 (upd H2 p (.ins C dx (putF f v vs))) := Stp.mut h1 trivial
            refine setattr_ok I2 h1 h3.cl (hC C hc.1) (by rw [← h2.length]; exact hc.2) rr fun s3 I3 => ⟨σ, _, I3, ?_⟩
            exact d2 r2 _ σ ss (o2.mut hp h1 trivial ⟨dx, _, upd_same, (h2.mono ss).put (k1.mono ss), h3⟩) (er2.mono ss)
          · rw [if_neg hc] at q; cases q
        | _ => cases q
    | _ => cases q
end
/-! o.m(args): a method of the object's class -/
def mMth (Cs : List Addr) (nm : Str) (M : MF) (n : Nat) (dds : List D) (mo : ME) (ma : MA) : ME := fun en S => (mo en S).bind fun d S1 => match insD d S1 with
  | some p => if p.1 ∈ Cs ∧ p.2.lookup nm = none then (ma en S1).bind fun ds S2 => if ((d :: ds) ++ dds).length = n then M ((d :: ds) ++ dds) S2 else .bad else .bad
  | none => .bad
section
variable {X : Cx} {k : Nat} {f : Addr} {fd : FuncData} {ps : List Str} {M : MF} {dvs : List V} {dds : List D} {dsv : List Value} {x nm : Str} {p pos apos : Pos} {o e : Expr} {es : List Expr} {m : MA} {mo : ME} {Cs : List Addr} {C : Addr}
theorem e_mth {pl : Sem Bool} (hC : ∀ C ∈ Cs, Meth X.K C nm f) (F : FnM X.prog X.w X.K X.mg X.base k f fd ps M) (g : Gd X k) (hb : Binds X.K fd ps dsv) (hd : Vals dvs dsv) (kd : ∀ r H, VRs X.K r H dds dvs)
    (ho : SndE X o mo) (ha : SndA X (e :: es) m) (hst : starEach (e :: es) X.env = (false, eval e X.env) :: starEach es X.env := by rfl) (hpl : (backTo pos (starEach es X.env)).any (·.1) = false := by rfl)
    (ht : eval (.Call (.Attribute o nm apos) (e :: es) [] pos) X.env = (do
      let ov ← eval o X.env
      standAt apos.atName
      let (f, first) ← holding [ov] (getMethod ov nm pl)
      callWith pos f first (backTo pos (starEach (e :: es) X.env)) (backToKw pos (keywordEach [] X.env))) := by rfl) :
    SndE X (.Call (.Attribute o nm apos) (e :: es) [] pos) (mMth Cs nm M ps.length dds mo m) := by
  refine ⟨?_⟩
  intro W tk en σ r H S Q er ro dn pins s I
  refine PySem.W.methodCall_KW (pl := pl) (thn (ho.run W tk en σ r H S _ er ro (Dn.bind dn) pins s I) fun u s1 ⟨x, H1, I1, rx, d, S1, r1, e1, st1, o1, k1, d1⟩ => ?_) ht
  cases q : insD d S1 with
  | none => rw [q] at d1; exact d1.elim
  | some p =>
    rw [q] at d1
    obtain ⟨C, fs⟩ := p
    dsimp only at d1
    obtain ⟨hc, d1⟩ := dn_if d1
    obtain ⟨n, a, dx, vs, rfl, hS, hr, rfl, hH, hf, ow⟩ := insD_ok o1 k1 q
    obtain rfl : u = Value.ref a := rx
    refine getmeth_ok I1 hH ow.cl (hC C hc.1) (hf.no hc.2) ?_
    refine PySem.W.callWith_K (first := [.ref a]) (h₀ := X.base) I.ok.mod.kin (hC C hc.1).kp (thn (ha.run W tk en σ r1 H1 S1 _ (er.mono st1) o1 (Dn.bind d1) pos pins s1 I1) fun us s2 ⟨vs2, H2, I2, rv, ds, S2, r2, e2, st2, o2, k2, d2⟩ => ⟨I2.kIn, ?_⟩) hst hpl
    obtain ⟨hl, d2⟩ := dn_if d2
    exact run_M (us := .ref a :: us) (vs := .ref a :: vs2) (ds := .ref n :: ds) F g hb hd tk I2 (.cons rfl rv) hl ⟨_, _, rfl, k1.mono st2, k2⟩ (kd r2 H2) o2 d2
/-! C(args) -/
def mkR (C : Addr) (M : MF) (n : Nat) (ds : List D) (S : Store) : Res D := if (D.ref S.length :: ds).length = n then (M (.ref S.length :: ds) (S ++ [.ins C []])).bind fun z S2 => match z with
  | .non => .ok (.ref S.length) S2
  | _ => .bad else .bad
def mMake (C : Addr) (M : MF) (n : Nat) (dds : List D) (m : MA) : ME := fun en S => (m en S).bind fun ds S1 => mkR C M n (ds ++ dds) S1
theorem run_mkA {W : WX} {pins : List (Addr × Obj)} {σ : L2.St} {H : Hp} {s : Shared} {Q : VK} {as us : List Value} {kw : List (Str × Value)} {vs : List V} {ds : List D} {r : List Addr} {S : Store} (mk : Mk X.K C f) (ow : OwnOk X.K C) (F : FnM X.prog X.w X.K X.mg X.base k f fd ps M) (g : Gd X (k + 1))
    (hb : ps.length = us.length + 1 → ∀ (s : Shared) (self : Value), X.K.In s.heap → BindsTo s fd ⟨self :: as, kw⟩ (ps.zip (self :: us))) (tk : Takes X W)
    (I : Inv X pins σ H s) (rv : Vals vs us) (kv : VRs X.K r H ds vs) (ro : ROk X.K r H S) (dn : Dn X.K r H (VR X.K) (mkR C M ps.length ds S) Q (WE W σ)) :
    wpAny (model X.prog X.w) X.A (call (.ref C) as kw) (EP X pins σ Q) X.xe s := by
  obtain ⟨hl, dn⟩ := dn_if dn
  -- the new object's address and its dict's
  let dx := s.heap.objs.size
  let a := s.heap.objs.size + 1
  let G := upd (upd H dx (.own a)) a (.ins C dx [])
  have hx : H a = none := I.hok.fresh (Nat.le_succ _)
  have hdx : H dx = none := I.hok.fresh (Nat.le_refl _)
  have hx2 : (upd H dx (.own a)) a = none := by rw [upd_ne (Nat.succ_ne_self dx)]; exact hx
  have I2 := Inv.made (C := C) I
  have st : Stp r H (r ++ [a]) G := (Stp.loose hdx).trans (Stp.new hx2)
  have ro2 : ROk X.K (r ++ [a]) G (S ++ [.ins C []]) := (ro.loose hdx).new hx2 ⟨dx, [], upd_same, rfl, ow⟩
  have hr2 : (r ++ [a])[S.length]? = some a := by rw [← ro.len, List.getElem?_append_right (Nat.le_refl _), Nat.sub_self]; rfl
  have kk : VRs X.K (r ++ [a]) G (D.ref S.length :: ds) (V.ref a :: vs) := ⟨_, _, rfl, ⟨_, hr2, rfl⟩, kv.mono st⟩
  have rr : Vals (V.ref a :: vs) (Value.ref a :: us) := .cons rfl rv
  have hlen : ps.length = us.length + 1 := by
    have e1 := rr.length
    have e2 := kk.length
    rw [← hl, e2, e1]
    rfl
  have dn2 : Dn X.K (r ++ [a]) G (VR X.K) (M (.ref S.length :: ds) (S ++ [.ins C []])) (fun v H2 => v = .non ∧ Q (.ref a) H2) (WE W σ) := by
    cases q : M (.ref S.length :: ds) (S ++ [.ins C []]) with
    | ok z S2 =>
      rw [q] at dn
      intro r' H' v s' o' kz
      cases z with
      | non =>
        refine ⟨kz, ?_⟩
        exact dn r' H' (.ref a) (st.trans s') o' ⟨_, s'.pre _ _ hr2, rfl⟩
      | _ => exact dn.elim
    | err c n S2 =>
      rw [q] at dn
      exact fun r' H' x s' o' kx => dn r' H' x (st.trans s') o' kx
    | bad => rw [q] at dn; exact dn.elim
  have run := F.run _ X.stack _ _ ⟨Value.ref a :: as, kw⟩ (Value.ref a :: us) _ _ _ _ (fun v H2 => v = .non ∧ Q (.ref a) H2) (WE W σ) (g.room.make C as kw) (Grd.tr call_guards g.gd) (I2.env0.make C as kw) (hb hlen _ (Value.ref a) I2.kIn) rr hl kk ro2 dn2
  refine wpAny_call (make_map (f := f) I.kIn mk.makes mk.init (beq_iff_eq.mp mk.fn) (codeAny_mono run fun res s' hq => ?_))
  match res, hq with
  | .error e, hq => exact tk e s' (XE.of_call I2 (fun _ _ _ h => h) hq)
  | .ok (.ret u), hq =>
    obtain ⟨v, H', I3, rv, ev, q3⟩ := I2.after hq
    subst ev
    exact ⟨rv, ⟨V.ref a, H', I3, rfl, q3⟩⟩
  | .ok .next, hq => exact hq.elim
  | .ok .brk, hq => exact hq.elim
  | .ok .cont, hq => exact hq.elim
theorem run_mk {W : WX} {pins : List (Addr × Obj)} {σ : L2.St} {H : Hp} {s : Shared} {Q : VK} {us : List Value} {vs : List V} {ds : List D} {r : List Addr} {S : Store} (mk : Mk X.K C f) (ow : OwnOk X.K C) (F : FnM X.prog X.w X.K X.mg X.base k f fd ps M) (g : Gd X (k + 1)) (hb : Binds X.K fd ps dsv) (hd : Vals dvs dsv) (tk : Takes X W)
    (I : Inv X pins σ H s) (rv : Vals vs us) (kv : VRs X.K r H ds vs) (kd : VRs X.K r H dds dvs) (ro : ROk X.K r H S) (dn : Dn X.K r H (VR X.K) (mkR C M ps.length (ds ++ dds) S) Q (WE W σ)) :
    wpAny (model X.prog X.w) X.A (call (.ref C) us) (EP X pins σ Q) X.xe s :=
  run_mkA mk ow F g (fun hl s self kin => by
    have := hb s (self :: us) kin (by rw [List.cons_append, List.length_cons]; exact hl.symm)
    exact this) tk I (rv.append hd) (kv.append kd) ro dn
theorem e_make (mk : Mk X.K C f) (ow : OwnOk X.K C) (F : FnM X.prog X.w X.K X.mg X.base k f fd ps M) (g : Gd X (k + 1)) (hg : Gl X x) (hm : X.mg x = some (.ref C)) (hb : Binds X.K fd ps dsv) (hd : Vals dvs dsv) (kd : ∀ r H, VRs X.K r H dds dvs)
    (ha : SndA X (e :: es) m) (hdb : (x == ("__debug__" : Str)) = false := by decide) (he : starEach (e :: es) X.env = (false, eval e X.env) :: starEach es X.env := by rfl) (hpl : (backTo pos (starEach es X.env)).any (·.1) = false := by rfl) :
    SndE X (.Call (.Name x p) (e :: es) [] pos) (mMake C M ps.length dds m) := by
  refine ⟨?_⟩
  intro W tk en σ r H S Q er ro dn pins s I
  refine wpAny_Call_Name_kw (ld_glob I hg hm ?_ hdb)
  refine PySem.W.callWith_K (h₀ := X.base) I.ok.mod.kin mk.kp (thn (ha.run W tk en σ r H S _ er ro (Dn.bind dn) pos pins s I) fun us s1 ⟨vs, H1, I1, rv, ds, S1, r1, e1, st1, o1, k1, d1⟩ => ⟨I1.kIn, ?_⟩) he hpl
  exact run_mk mk ow F g hb hd tk I1 rv k1 (kd r1 H1) o1 d1
/-! e.f, a property: nothing is raised there -/
def mProp (Cs : List Addr) (M : MF) (mo : ME) : ME := fun en S => (mo en S).bind fun d S1 => match insD d S1 with
  | some p => if p.1 ∈ Cs then (M [d] S1).calm else .bad
  | none => .bad
theorem e_prop {pr : Addr} (hC : ∀ C ∈ Cs, PropOf X.K C nm pr f) (F : FnM X.prog X.w X.K X.mg X.base k f fd ["self"] M) (g : Gd X (k + 1)) (hb : Binds X.K fd ["self"] [])
    (ho : SndE X o mo) (hab : attributeBase o nm X.env (eval o X.env) = eval o X.env := by rfl) : SndE X (.Attribute o nm pos) (mProp Cs M mo) := by
  refine ⟨?_⟩
  intro W tk en σ r H S Q er ro dn pins s I
  refine attr_of hab (thn (ho.run W tk en σ r H S _ er ro (Dn.bind dn) pins s I) fun u s1 ⟨x, H1, I1, rx, d, S1, r1, e1, st1, o1, k1, d1⟩ => ?_)
  cases q : insD d S1 with
  | none => rw [q] at d1; exact d1.elim
  | some p =>
    rw [q] at d1
    obtain ⟨C, fs⟩ := p
    dsimp only at d1
    obtain ⟨hc, d1⟩ := dn_if d1
    have d1 := Dn.calm (W' := fun _ _ _ => False) d1
    obtain ⟨n, a, dx, vs, rfl, hS, hr, rfl, hH, hf, ow⟩ := insD_ok o1 k1 q
    obtain rfl : u = Value.ref a := rx
    have hp := hC C hc
    have c := ow.cl
    obtain ⟨mA, O, _, _, _, _⟩ := ins_get I1.hok hH
    obtain ⟨od, J, _⟩ := O.look
    obtain ⟨rest, hrec⟩ := hp.rec_
    have I1 := I1
    have I2 := I1.tok (s1.toks + 1)
    have hcl : (PySem.W.clsIn X.K C).isSome = true := by
      obtain ⟨cd, hc, _⟩ := PySem.W.any_some c.hd
      rw [hc]
      rfl
    refine PySem.W.get_bind I1.kIn J (PySem.W.plainGet_of (c.get nm)).1 (PySem.W.findObj_data hcl hp.at_ hp.get hp.tak) (PySem.W.plainGet_of (c.get nm)).2 (wpAny_call (PySem.W.prop_get (s := { s1 with toks := s1.toks + 1 }) I1.kIn hrec ?_))
    refine codeAny_mono (F.run X.A.in1 X.stack { s1 with toks := s1.toks + 1 } H1 ⟨[.ref a], []⟩ [.ref a] [.ref a] r1 [.ref n] S1 Q (fun _ _ _ => False) g.room.in1 (Grd.tr in1_guards g.gd) I2.env0.in1 (hb _ [.ref a] I2.kIn rfl) (.cons rfl .nil) rfl ⟨_, _, rfl, k1, rfl⟩ o1 d1) fun res s' hq => ?_
    match res, hq with
    | .error er, hq => obtain ⟨_, _, _, _, _, _, _, _, _, _, _, _, hE⟩ := hq; exact hE.elim
    | .ok (.ret u), hq =>
      obtain ⟨v, H', I3, rv, q3⟩ := I2.after hq
      show wpAny _ _ (handedOut u) _ _ _
      rw [PySem.W.handedOut_of (handed_of rv)]
      exact wpAny_pure ⟨v, H', I3, rv, q3⟩
    | .ok .next, hq => exact hq.elim
    | .ok .brk, hq => exact hq.elim
    | .ok .cont, hq => exact hq.elim
end
end Q

namespace Q
open PySem PySem.Spec PyProof.Rows L2
variable [Gh : Ghost] [Gr : Grd]
/-! ### isinstance(e, C), C an own class -/
structure KitO (K : PySem.W.Frag) (C : Addr) : Prop where
  cls : (PySem.W.clsIn K C).isSome = true
  ty : PySem.W.typeIn K (.ref C) = some (.type "type")
theorem sub_bt {K : PySem.W.Frag} {C : Addr} {q : Kd} (n : ∀ C', q ≠ .ins C') : PySem.W.subIn K q.ty (.ref C) = some false := by
  cases q with
  | ins C' => exact absurd rfl (n C')
  | _ => with_unfolding_all rfl
theorem KitO.bt {K : PySem.W.Frag} {C : Addr} {q : Kd} (h : KitO K C) (n : ∀ C', q ≠ .ins C') : PySem.W.kitOne K q.ty (.ref C) = some false := by
  have ne : (q.ty == Value.ref C) = false := by
    cases q with
    | ins C' => exact absurd rfl (n C')
    | _ => rfl
  unfold PySem.W.kitOne PySem.W.kitCls
  rw [ne]
  simp only [Bool.false_eq_true, if_false, h.cls, h.ty, beq_self_eq_true, Bool.and_self, if_true]
  exact sub_bt n
theorem kit_self {K : PySem.W.Frag} {C : Addr} : PySem.W.kitOne K (.ref C) (.ref C) = some true := by
  unfold PySem.W.kitOne
  rw [if_pos (beq_self_eq_true _)]
/-- the kind of value as seen by a class -/
def isO (C : Addr) : Kd → Option Bool
  | .ins C' => if C' = C then some true else none
  | _ => some false
def gIsiO (C : Addr) : G1 := fun d S => ((kindD d S).bind (isO C)).map fun b => (.bl b, S)
section
variable {X : Cx} {p p1 pos : Pos} {e : Expr} {m : ME} {C : Addr}
theorem isO_kit {q : Kd} {b : Bool} (h : KitO X.K C) (e : isO C q = some b) : PySem.W.kitOne X.K q.ty (.ref C) = some b := by
  cases q with
  | ins C' =>
    unfold isO at e
    dsimp only at e
    by_cases c : C' = C
    · rw [if_pos c] at e
      cases e
      rw [c]
      exact kit_self
    · rw [if_neg c] at e
      cases e
  | _ =>
    cases e
    exact h.bt fun _ z => nomatch z
theorem e_isiO {x y : Str} (h : KitO X.K C) (hg : Gl X x) (hm : X.mg x = none) (hv : bootBuiltins x = some (.builtin "isinstance")) (hg2 : Gl X y) (hm2 : X.mg y = some (.ref C)) (ha : SndE X e m)
    (hn : x ≠ "__name__" := by decide) (hdb : (x == ("__debug__" : Str)) = false := by decide) (hdb2 : (y == ("__debug__" : Str)) = false := by decide)
    (he : starEach [e, .Name y p1] X.env = (false, eval e X.env) :: starEach [.Name y p1] X.env := by rfl) (hpl : (backTo pos (starEach [.Name y p1] X.env)).any (·.1) = false := by rfl) :
    SndE X (.Call (.Name x p) [e, .Name y p1] [] pos) (m1 (gIsiO C) m) := by
  constructor
  intro W tk en σ r H S Q er ro dn
  have args := pa_cons (pe_wE X e) (pa_cons (pe_glob (v := .ref C) (pos := p1) hg2 hm2 rfl hdb2) pa_nil) he
  refine wE_of (pe_callB call_isi hg hm hv args hn hdb he hpl) ?_
  refine ha.run W tk en σ r H S _ er ro (Dn.imp (Dn.bind dn) fun x H1 got => ?_)
  obtain ⟨d, S1, r1, _, _, o1, k1, d1⟩ := got
  obtain ⟨z, S', g1, ed⟩ := dn_ofOpt d1
  obtain ⟨b, hb, ez⟩ := Option.map_eq_some_iff.mp g1
  obtain ⟨q, hq, hb⟩ := Option.bind_eq_some_iff.mp hb
  cases ez
  exact ⟨x, .ref C, q.ty, .ref C, b, rfl, .own C, (kindD_ok o1 k1 hq).1, isO_kit h hb, ed.flat o1 rfl⟩
end
/-! ### a == b, a != b where a is an object of a class with its own __eq__ -/
structure EqOf (K : PySem.W.Frag) (C f : Addr) : Prop where
  eq : PySem.W.findIn K (.ref C) "__eq__" = some (some (.ref f))
  ne : PySem.W.findIn K (.ref C) "__ne__" = some (some (.builtin "object.__ne__"))
  fn : PySem.W.isFn K (.ref f) = true
  ob : PySem.W.mroIn K C (.type "object") = some true
/-- what may stand on the other side -/
def otherOk (C : Addr) (e : D) (S : Store) : Bool := match kindD e S with
  | some (.ins C') => decide (C' = C)
  | some _ => true
  | none => false
def mEqO (C : Addr) (M : MF) (neg : Bool) (g : G2) (ma mb : ME) : ME := fun en S => (ma en S).bind fun d S1 => (mb en S1).bind fun e S2 => match insD d S2 with
  | some p => if p.1 = C ∧ otherOk C e S2 = true then ((M [d, e] S2).calm).bind fun z S3 => match z with
    | .bl b => .ok (.bl (b != neg)) S3
    | _ => .bad else .bad
  | none => ofOpt (g d e S2)
theorem otherOk_kd {C : Addr} {e : D} {S : Store} (h : otherOk C e S = true) : ∃ q, kindD e S = some q ∧ ∀ K : PySem.W.Frag, PySem.W.notFirst K C q.ty = true := by
  unfold otherOk at h
  cases q : kindD e S with
  | none => rw [q] at h; cases h
  | some k =>
    rw [q] at h
    refine ⟨k, rfl, fun K => ?_⟩
    unfold PySem.W.notFirst
    cases k with
    | ins C' =>
      have c : C' = C := of_decide_eq_true h
      rw [c]
      show ((Value.ref C == Value.ref C) || _) = true
      rw [beq_self_eq_true, Bool.true_or]
    | _ =>
      exact Bool.or_eq_true_iff.mpr (.inr (beq_iff_eq.mpr (sub_bt fun _ z => by cases z)))
section
variable {prog : Program} {w : World} {A : Around} {E : Value → Shared → Prop} {s : Shared} {K : PySem.W.Frag} {a C f : Addr} {ox : Obj} {od : Option Obj} {b tb : Value}
/-- `!=` by the object's own `==` -/
theorem ne_own {Q : Value → Shared → Prop} (hu : A.units + 1 < cLine) (X : K.In s.heap) (I : PySem.W.InstAt s.heap a ox C od) (hb : PySem.W.Looks (model prog w) s.heap (typeOf b) tb) (hn : PySem.W.notFirst K C tb = true) (T : EqOf K C f)
    (h : wpAny (model prog w) A.in1 (call (.ref f) [.ref a, b]) (fun v s' => ∃ c, v = .bool c ∧ Q (.bool (!c)) s') E s) : wpAny (model prog w) A (richCompare .NotEq (.ref a) b) Q E s := by
  have slot := F.cmp_object.ne
  -- the builtin's body
  have body : wpAny (model prog w) A.in1 (Builtin.«object.__ne__» ⟨[.ref a, b], []⟩) (fun r s' => ∃ v, r = .done (.ret v) ∧ ∃ c, v = .bool (!c) ∧ Q (.bool (!c)) s') E s := by
    have asked : wpAny (model prog w) A.in1 (callSpecialIfBound? (.ref a) "__eq__" [b]) (fun o s' => ∃ c, o = some (.bool c) ∧ Q (.bool (!c)) s') E s :=
      PySem.W.ifBound_K X I T.eq T.fn (wpAny_mono h (fun v s' z => by obtain ⟨c, e, q⟩ := z; exact ⟨c, congrArg some e, q⟩) fun _ _ z => z)
    show wpAny (model prog w) A.in1 (cRoomFor "comparison" [.ref a, b] >>= _) _ E s
    refine wpAny_bind (wpAny_cRoomFor hu ?_)
    refine wpAny_bind (wpAny_mono asked (fun o s' z => ?_) fun _ _ z => z)
    obtain ⟨c, e, q⟩ := z
    subst e
    exact wpAny_bind (wpAny_truthy_bool (wpAny_pure ⟨_, rfl, c, rfl, q⟩))
  have called : wpAny (model prog w) A (call (.builtin "object.__ne__") [.ref a, b]) (fun v s' => ∃ c, v = .bool (!c) ∧ Q (.bool (!c)) s') E s :=
    wpAny_call (codeAny_call_builtin slot.plain F.cmpEntry_ne (PySem.W.check_slot F.cmpKind_ne F.cmpSplit_ne (I.type.andThen (PySem.W.looks_mroIn X T.ob)) (F.cmpArgs_ne _ _) (wpAny_mono body (fun r s' z => by obtain ⟨v, e, q⟩ := z; subst e; exact q) fun _ _ z => z)))
  have bound : wpAny (model prog w) A (callSpecialIfBound? (.ref a) "__ne__" [b]) (fun o s' => ∃ c, o = some (.bool (!c)) ∧ Q (.bool (!c)) s') E s := by
    have last : wpAny (model prog w) A (call (.builtin "object.__ne__") ([.ref a] ++ [b]) >>= fun v => pure (some v)) (fun o s' => ∃ c, o = some (.bool (!c)) ∧ Q (.bool (!c)) s') E s :=
      wpAny_bind (wpAny_mono called (fun v s' z => by obtain ⟨c, e, q⟩ := z; exact wpAny_pure ⟨c, congrArg some e, q⟩) fun _ _ z => z)
    unfold callSpecialIfBound? bindSpecialIfBound?
    refine wpAny_holding (wpAny_bind (wpAny_bind (wpAny_bind (I.type.here ((PySem.W.looks_findIn X T.ne).here ?_)))))
    simp only [slot.bind]
    refine wpAny_bind (wpAny_askSetting ?_)
    split
    · exact wpAny_bind (wpAny_pure (wpAny_pure last))
    · exact wpAny_tryCatch (wpAny_bind (wpAny_pure (wpAny_pure last)))
  have tried : wpAny (model prog w) A (tryCompare (.ref a) "__ne__" b) (fun o s' => ∃ c, o = some (.bool (!c)) ∧ Q (.bool (!c)) s') E s := by
    unfold tryCompare
    refine wpAny_bind (wpAny_mono bound (fun o s' z => ?_) fun _ _ z => z)
    obtain ⟨c, e, q⟩ := z
    subst e
    exact wpAny_pure ⟨c, rfl, q⟩
  have fst : (Value.ref C != tb) = true → PySem.W.Looks (model prog w) s.heap (isSubtype tb (.ref C)) false := fun q =>
    PySem.W.looks_subIn X (by
      rcases Bool.or_eq_true_iff.mp hn with z | z
      · exact absurd (beq_iff_eq.mp z).symm (bne_iff_ne.mp q)
      · exact beq_iff_eq.mp z)
  unfold richCompare
  simp only [oneThing_ref]
  refine wpAny_holding (wpAny_bind (wpAny_cRoomFor (Nat.lt_of_succ_lt hu) ?_))
  refine wpAny_bind (I.type.here (wpAny_bind (hb.here ?_)))
  by_cases q : (Value.ref C != tb) = true
  · rw [if_pos q]
    refine wpAny_bind ((fst q).here ?_)
    simp only [Bool.false_eq_true, if_false]
    exact wpAny_bind (wpAny_mono tried (fun o s' z => by obtain ⟨c, e, q⟩ := z; subst e; exact wpAny_pure q) fun _ _ z => z)
  · rw [if_neg q]
    refine wpAny_bind (wpAny_pure ?_)
    simp only [Bool.false_eq_true, if_false]
    exact wpAny_bind (wpAny_mono tried (fun o s' z => by obtain ⟨c, e, q⟩ := z; subst e; exact wpAny_pure q) fun _ _ z => z)
end
section
variable {X : Cx} {k : Nat} {f C : Addr} {fd : FuncData} {M : MF} {a b : Expr} {ma mb : ME} {g : G2} {pos : Pos} {x1 x2 : Str}
/-- the object's own `==` asked, its answer seen through neg -/
theorem ask_own {A : Around} {neg : Bool} {pins : List (Addr × Obj)} {s : Shared} {σ : L2.St} {H : Hp} {y : V} {u : Value} {p : Addr} {n : Nat} {r : List Addr} {S : Store} {e : D} {Q : VK} {W : XK} (F : FnM X.prog X.w X.K X.mg X.base k f fd [x1, x2] M) (hb : Binds X.K fd [x1, x2] [])
    (rA : Room k A) (gA : Gr.ok A.guards) (eA : Env0 X.prog X.w X.K X.mg X.base A X.stack s H) (I : Inv X pins σ H s) (ry : RelV y u) (kd : VR X.K r H (.ref n) (.ref p)) (ke : VR X.K r H e y) (ro : ROk X.K r H S)
    (dn : Dn X.K r H (VR X.K) (((M [.ref n, e] S).calm).bind fun z S3 => match z with
      | .bl b => .ok (.bl (b != neg)) S3
      | _ => .bad) Q W) :
    wpAny (model X.prog X.w) A (call (.ref f) [.ref p, u]) (fun v s' => ∃ c, v = .bool c ∧ EP X pins σ Q (.bool (c != neg)) s') X.xe s := by
  have told : Dn X.K r H (VR X.K) (M [.ref n, e] S) (fun v G => ∃ c, v = .bl c ∧ Q (.bl (c != neg)) G) (fun _ _ _ => False) := by
    cases q : M [.ref n, e] S with
    | ok z S2 =>
      rw [q] at dn
      cases z with
      | bl c => exact fun r' G v st o kv => ⟨c, kv, dn r' G _ st o rfl⟩
      | _ => exact dn.elim
    | err _ _ _ => rw [q] at dn; exact dn.elim
    | bad => rw [q] at dn; exact dn.elim
  have run := F.run A X.stack s H ⟨[.ref p, u], []⟩ [.ref p, u] [.ref p, y] r [.ref n, e] S _ _ rA gA eA (hb s [.ref p, u] I.kIn rfl) (.cons rfl (.cons ry .nil)) rfl ⟨_, _, rfl, kd, _, _, rfl, ke, rfl⟩ ro told
  refine wpAny_call (codeAny_mono run fun res s' hq => ?_)
  match res, hq with
  | .error er, hq => obtain ⟨_, _, _, _, _, _, _, _, _, _, _, _, no⟩ := hq; exact no.elim
  | .ok (.ret w), hq =>
    obtain ⟨v, G, J, rw', c, ev, q⟩ := I.after hq
    subst ev
    exact ⟨c, rw', .bl (c != neg), G, J, rfl, q⟩
  | .ok .next, hq => exact hq.elim
  | .ok .brk, hq => exact hq.elim
  | .ok .cont, hq => exact hq.elim
theorem wo_own {op : CmpOp} {neg : Bool} {r : List Addr} {H : Hp} {S : Store} {d e : D} {x y : V} {Q : VK} {W : XK} {pr : Addr × List (Str × D)} (hop : (op = .Eq ∧ neg = false) ∨ (op = .NotEq ∧ neg = true)) (T : EqOf X.K C f) (F : FnM X.prog X.w X.K X.mg X.base k f fd [x1, x2] M) (hb : Binds X.K fd [x1, x2] []) (g : Gd X (k + 1))
    (hd : insD d S = some pr) (hp : pr.1 = C) (ho : otherOk C e S = true) (kx : VR X.K r H d x) (ky : VR X.K r H e y) (ro : ROk X.K r H S)
    (dn : Dn X.K r H (VR X.K) (((M [d, e] S).calm).bind fun z S3 => match z with
      | .bl b => .ok (.bl (b != neg)) S3
      | _ => .bad) Q W) : wO X (compareOp op) x y H Q := by
  intro pins s σ v u I rx ry
  obtain ⟨C', fs⟩ := pr
  have hp : C' = C := hp
  subst hp
  obtain ⟨n, a, dx, vs, rfl, hS, hr, rfl, hH, hf, ow⟩ := insD_ok ro kx hd
  obtain rfl : v = Value.ref a := rx
  obtain ⟨q, hq, nf⟩ := otherOk_kd ho
  obtain ⟨_, kit, pu, _⟩ := kit_of I ry (kindD_ok ro ky hq).1
  have ty := kit.ty (model X.prog X.w) s.heap I.kIn pu
  obtain ⟨mA, O, _, _, _, _⟩ := ins_get I.hok hH
  obtain ⟨od, J, _⟩ := O.look
  have un : X.A.units + 1 < cLine := by have := g.room.un; omega
  rcases hop with ⟨rfl, rfl⟩ | ⟨rfl, rfl⟩
  · obtain ⟨m, fr⟩ := I.fr
    refine PySem.W.cmp_K (op := .Eq) (by omega) fr I.ok.mod.kin J ty (nf _) T.eq T.fn ?_
    refine wpAny_mono (ask_own F hb (g.room.mono (Nat.le_succ k)) g.gd I.env0 I ry kx ky ro dn) (fun v s' z => ?_) fun _ _ z => z
    obtain ⟨c, ev, q⟩ := z
    subst ev
    have q : EP X pins σ Q (.bool (c != false)) s' := q
    rw [Bool.bne_false] at q
    exact q
  · refine ne_own un I.kIn J ty (nf _) T ?_
    refine wpAny_mono (ask_own F hb g.room.in1 (Grd.tr in1_guards g.gd) I.env0.in1 I ry kx ky ro dn) (fun v s' z => ?_) fun _ _ z => z
    obtain ⟨c, ev, q⟩ := z
    have q : EP X pins σ Q (.bool (c != true)) s' := q
    rw [Bool.bne_true] at q
    exact ⟨c, ev, q⟩
theorem two_own {op : CmpOp} {neg : Bool} {W : WX} {en : En} {σ : L2.St} {r : List Addr} {H : Hp} {S : Store} {Q : VK} (hop : (op = .Eq ∧ neg = false) ∨ (op = .NotEq ∧ neg = true)) (T : EqOf X.K C f) (F : FnM X.prog X.w X.K X.mg X.base k f fd [x1, x2] M) (hb : Binds X.K fd [x1, x2] []) (g' : Gd X (k + 1))
    (ho : OpD X (compareOp op) g) (ha : SndE X a ma) (hb2 : SndE X b mb) (tk : Takes X W) (er : ER X.K r H en σ) (ro : ROk X.K r H S) (dn : Dn X.K r H (VR X.K) (mEqO C M neg g ma mb en S) Q (WE W σ)) :
    tOp (wO X (compareOp op)) (wE X a) (wE X b) σ H Q := by
  refine ha.run W tk en σ r H S _ er ro (Dn.imp (Dn.bind dn) fun x H1 ⟨d, S1, r1, _, s1, o1, k1, d1⟩ => ?_)
  refine hb2.run W tk en σ r1 H1 S1 _ (er.mono s1) o1 (Dn.imp (Dn.bind d1) fun y H2 ⟨e, S2, r2, _, s2, o2, k2, d2⟩ => ?_)
  cases q : insD d S2 with
  | none =>
    rw [q] at d2
    obtain ⟨z, S', g1, ed⟩ := dn_ofOpt d2
    exact ho.run d e z x y r2 H2 S2 S' Q g1 (k1.mono s2) k2 o2 ed
  | some pr =>
    rw [q] at d2
    obtain ⟨hc, d2⟩ := dn_if d2
    exact wo_own hop T F hb g' q hc.1 hc.2 (k1.mono s2) k2 o2 d2
theorem e_cmpO {op : CmpOp} {neg : Bool} (hop : (op = .Eq ∧ neg = false) ∨ (op = .NotEq ∧ neg = true)) (T : EqOf X.K C f) (F : FnM X.prog X.w X.K X.mg X.base k f fd [x1, x2] M) (hb : Binds X.K fd [x1, x2] []) (g' : Gd X (k + 1))
    (ho : OpD X (compareOp op) g) (ha : SndE X a ma) (hb2 : SndE X b mb) (hm : behindInMarks op b = false) : SndE X (.Compare a [op] [b] pos) (mEqO C M neg g ma mb) := by
  constructor
  intro W tk en σ r H S Q er ro dn
  exact wE_of (pe_cmpR (opr_wO X _) (pe_wE X a) (pe_wE X b) hm) (two_own hop T F hb g' ho ha hb2 tk er ro dn)
theorem t_cmpO {op : CmpOp} {neg : Bool} (hop : (op = .Eq ∧ neg = false) ∨ (op = .NotEq ∧ neg = true)) (T : EqOf X.K C f) (F : FnM X.prog X.w X.K X.mg X.base k f fd [x1, x2] M) (hb : Binds X.K fd [x1, x2] []) (g' : Gd X (k + 1))
    (ho : OpD X (compareOp op) g) (ha : SndE X a ma) (hb2 : SndE X b mb) (hm : behindInMarks op b = false) : SndT X (.Compare a [op] [b] pos) (mB (mEqO C M neg g ma mb)) := by
  constructor
  intro W tk en σ r H S Q er ro dn
  refine wT_of (pt_cmpR (opr_wO X _) (pe_wE X a) (pe_wE X b) hm) ?_
  exact two_own (Q := fun x H' => ∃ b, x = .bl b ∧ Q b H') hop T F hb g' ho ha hb2 tk er ro (Dn.imp (Dn.bind dn) fun x H1 ⟨d, S1, r1, _, s1, o1, k1, d1⟩ => bool_of k1 o1 d1)
end
end Q

namespace Q
open PySem PySem.Spec PyProof.Rows L2
variable [Gh : Ghost] [Gr : Grd]
/-! ### C(k = e, ..): a new object, all arguments by name and in the parameters' order -/
section
variable {X : Cx} {e : Expr} {kws : List Keyword} {nm : Option Str} {me : ME} {mr : MA} {kp : Pos}
end
section
variable {X : Cx} {k : Nat} {f C : Addr} {fd : FuncData} {ps ks : List Str} {M : MF} {x : Str} {p pos : Pos} {kws : List Keyword} {m : MA}
end
end Q

namespace Q
open PySem PySem.Spec PyProof.Rows L2 NdefX
variable [Gh : Ghost] [Gr : Grd]
/-! ### a method that asks super(): its class stands in a cell -/
section
variable {X : Cx} {c : Code} {st : Stmt} {body rest : List Stmt} {m ms mr : MS} {k : Nat}
end
/-! ### a def whose class stands in a cell -/
abbrev clsCl (cc : Addr) : List (Str × Addr) := [(("__class__" : Str), cc)]
section
variable {P : Program} {w : World} {K : PySem.W.Frag} {mg : Str → Option Value} {base : Heap}
end
end Q

namespace Q
open PySem PySem.Spec PyProof.Rows L2
/-! ### a lambda without parameters, handed to a def that calls it -/
abbrev Thk := Store → Res D
/-- a def that is handed a thunk; the address stands for the thunk's own object -/
abbrev MFT := Addr → Thk → Store → Res D
def mThk (f : Addr) (T : Thk) : ME := fun en S => match (en[0]? : Option (Option D)) with
  | some (some (D.adr g)) => if g = f then T S else .bad
  | _ => .bad
def mDefT (n : Nat) (m : Addr → Thk → MS) : MFT := fun f T S => endM (m f T (startE n [.adr f]) S)
open Classical in
/-- j: where the store holds the table; the def's answer must not hang on the thunk's address -/
noncomputable def mLam (j : Nat) (P : Addr) (q : Str) (M : MFT) (me : ME) : ME := fun en S =>
  if S[j]? = some (.tab P q) ∧ ∀ f, M f (fun U => me en U) S = M 0 (fun U => me en U) S then M 0 (fun U => me en U) S else .bad
/-- the tables that a store holds -/
def tabsOf (S : Store) : List (Addr × Str) := S.filterMap fun o => match o with | .tab P q => some (P, q) | _ => none
theorem tabsOf_mem {S : Store} {p : Addr × Str} (h : p ∈ tabsOf S) : ∃ n : Nat, S[n]? = some (.tab p.1 p.2) := by
  obtain ⟨o, ho, e⟩ := List.mem_filterMap.mp h
  obtain ⟨n, hn⟩ := List.getElem?_of_mem ho
  cases o with
  | tab P q => cases e; exact ⟨n, hn⟩
  | _ => cases e
theorem tabsOf_of {S : Store} {n : Nat} {P : Addr} {q : Str} (h : S[n]? = some (.tab P q)) : (P, q) ∈ tabsOf S :=
  List.mem_filterMap.mpr ⟨_, List.mem_of_getElem? h, rfl⟩
/-- more is known -/
theorem Dn.weak {G G' : Ghost} {K : PySem.W.Frag} {r : List Addr} {H : Hp} {α β : Type} {R : List Addr → Hp → α → β → Prop} {m : Res α} {Q : β → Hp → Prop} {W : XK} (w : ∀ r' H' S', @ROk G' K r' H' S' → @ROk G K r' H' S') (h : @Dn G K r H α β R m Q W) : @Dn G' K r H α β R m Q W := by
  cases m with
  | ok a S => exact fun r' H' v s o k => h r' H' v s (w _ _ _ o) k
  | err C n S => exact fun r' H' x s o k => h r' H' x s (w _ _ _ o) k
  | bad => exact h
/-- behind (r0, H0) -/
@[reducible] def Ghost.behind (G : Ghost) (r0 : List Addr) (H0 : Hp) : Ghost := ⟨fun r H => G.P r H ∧ Stp r0 H0 r H, fun s h => ⟨G.mono s h.1, h.2.trans s⟩⟩
theorem ROk.up {G : Ghost} {K : PySem.W.Frag} {r0 r : List Addr} {H0 H : Hp} {S : Store} (h : @ROk (G.behind r0 H0) K r H S) : @ROk G K r H S := @ROk.mk G K r H S (@ROk.sys (G.behind r0 H0) K r H S h) (@ROk.len (G.behind r0 H0) K r H S h) (@ROk.nd (G.behind r0 H0) K r H S h) (@ROk.ob (G.behind r0 H0) K r H S h) (@ROk.gh (G.behind r0 H0) K r H S h).1
theorem ROk.down {G : Ghost} {K : PySem.W.Frag} {r : List Addr} {H : Hp} {S : Store} (h : @ROk G K r H S) : @ROk (G.behind r H) K r H S := @ROk.mk (G.behind r H) K r H S (@ROk.sys G K r H S h) (@ROk.len G K r H S h) (@ROk.nd G K r H S h) (@ROk.ob G K r H S h) ⟨@ROk.gh G K r H S h, Stp.refl _ _⟩
/-- only tables have grown -/
theorem Stp.extN {r : List Addr} {H H1 : Hp} (e : LamX.ExtN H H1) : Stp r H r H1 :=
  ⟨fun _ _ h => h, fun a xs h => e _ _ h (fun ps z => by cases z), fun a o u h => e _ _ h (fun ps z => by cases z), fun a q h => e _ _ h (fun ps z => by cases z)⟩
theorem ROk.extN [G : Ghost] {K : PySem.W.Frag} {r : List Addr} {H H1 : Hp} {S : Store} (h : ROk K r H S) (e : LamX.ExtN H H1) (t : LamX.Tabs (tabsOf S) H1) : ROk K r H1 S where
  sys := h.sys.mono (Stp.extN (r := r) e)
  gh := Ghost.mono (Stp.extN e) h.gh
  len := h.len
  nd := h.nd
  ob := fun n o a e1 e2 => by
    have q := h.ob n o a e1 e2
    cases o with
    | tab P x => exact ⟨q.1, t (P, x) (tabsOf_of e1)⟩
    | lst xs => obtain ⟨vs, h1, _⟩ := q; exact (h.ob n _ a e1 e2).mono (Stp.extN e) ((e _ _ h1 (fun ps z => by cases z)).trans h1.symm)
    | dct xs => obtain ⟨vs, h1, _⟩ := q; exact (h.ob n _ a e1 e2).mono (Stp.extN e) ((e _ _ h1 (fun ps z => by cases z)).trans h1.symm)
    | dcT xs => obtain ⟨vs, h1, _⟩ := q; exact (h.ob n _ a e1 e2).mono (Stp.extN e) ((e _ _ h1 (fun ps z => by cases z)).trans h1.symm)
    | lkT xs => obtain ⟨x, u, h1, _⟩ := q; exact (h.ob n _ a e1 e2).mono (Stp.extN e) ((e _ _ h1 (fun ps z => by cases z)).trans h1.symm)
    | ins C xs => obtain ⟨dx, vs, h1, _⟩ := q; exact (h.ob n _ a e1 e2).mono (Stp.extN e) ((e _ _ h1 (fun ps z => by cases z)).trans h1.symm)
    | xd xs => obtain ⟨vs, h1, _⟩ := q; exact (h.ob n _ a e1 e2).mono (Stp.extN e) ((e _ _ h1 (fun ps z => by cases z)).trans h1.symm)
theorem ROk.tabs [G : Ghost] {K : PySem.W.Frag} {r : List Addr} {H : Hp} {S : Store} (h : ROk K r H S) : LamX.Tabs (tabsOf S) H := fun p hp => by
  obtain ⟨n, hn⟩ := tabsOf_mem hp
  obtain ⟨a, ha, e, q⟩ := h.at hn
  exact q
theorem ROk.tab_one [G : Ghost] {K : PySem.W.Frag} {r : List Addr} {H : Hp} {S : Store} (h : ROk K r H S) {j : Nat} {P : Addr} {q : Str} (hj : S[j]? = some (.tab P q)) : ∀ p ∈ tabsOf S, p.1 = P → p.2 = q := fun p hp e => by
  obtain ⟨n, hn⟩ := tabsOf_mem hp
  obtain ⟨a, ha, e1, _⟩ := h.at hn
  obtain ⟨b, hb, e2, _⟩ := h.at hj
  have e3 : a = b := by rw [e1, e2, e]
  rw [e3] at ha
  obtain ⟨l1, q1⟩ := List.getElem?_eq_some_iff.mp ha
  obtain ⟨l2, q2⟩ := List.getElem?_eq_some_iff.mp hb
  have := (List.getElem_inj h.nd).mp (q1.trans q2.symm)
  subst this
  rw [hn] at hj
  injection hj with hj
  injection hj
end Q

namespace Q
open PySem PySem.Spec PyProof.Rows L2
section
variable {X : Cx}
theorem takes_lam {A : Around} {outer : List Env} {s : Shared} {H : Hp} {E : XK} {scope : Scope} {f c' : Addr} : Takes (LamX.lamCx X A outer s H E scope f c') (fun c x _ H' => E c x H') := takes_of rfl rfl rfl rfl
theorem owns_lam {A : Around} {outer : List Env} {s : Shared} {H : Hp} {E : XK} {scope : Scope} {f c' : Addr} : PassesOwn (model X.prog X.w) (LamX.lamCx X A outer s H E scope f c').A (LamX.lamCx X A outer s H E scope f c').env (LamX.lamCx X A outer s H E scope f c').xe := passes_of (X := LamX.lamCx X A outer s H E scope f c') rfl
/-- the thunk is called in the def that got it -/
theorem act_lam {G : Ghost} {pins : List (Addr × Obj)} {σ : L2.St} {H : Hp} {s : Shared} {r : List Addr} {en : En} {Ng : List Str} {qg : Str} {sg : Scope} {g f c' : Addr} {cdg pm ctv : Value} {params : Arguments} {body : Expr} {scope : Scope} {k : Nat} {a q : Str} {me : ME} {Eg : XK}
    (I : Inv X pins σ H s) (L : LamX.LamS X.env.scope scope) (hf : s.heap.get? f = some (PySem.W.kla_obj "<lambda>" (X.env.qual ++ "<lambda>") params body scope (cloFrom X.env.cells scope.names []) pm c' ctv)) (hfn : H f = none) (hfr : f ∉ frs X.stack)
    (hco : H c' = some (LamX.CodeO c' (X.env.qual ++ "<lambda>"))) (hbind : bindArgs (PySem.W.kla_fn "<lambda>" (X.env.qual ++ "<lambda>") params body scope (cloFrom X.env.cells scope.names []) pm (.ref c') ctv) ⟨[], []⟩ = pure [])
    (er : ER X.K r H en σ) (hr : Room (k + 1) (X.A.deeper (envOfC qg sg s.heap.objs.size g cdg))) (hgd : X.A.guards = some [])
    (hbody : ∀ (A : Around) (outer : List Env) (s : Shared) (H : Hp) (E : XK) (f c' : Addr), Gd (LamX.lamCx X A outer s H E scope f c') k → PassesOwn (model X.prog X.w) (LamX.lamCx X A outer s H E scope f c').A (LamX.lamCx X A outer s H E scope f c').env (LamX.lamCx X A outer s H E scope f c').xe →
      ∀ G' : Ghost, @SndE G' (LamX.lamCx X A outer s H E scope f c') body me)
    (hN : Ng[0]? = some a) (hv : Vis sg a) (hd : (a == ("__debug__" : Str)) = false) (hcd : (a == ("__classdict__" : Str)) = false) (pn : List (Addr × Obj)) (xe : Value → Shared → Prop) (p1 p2 : Pos) :
    @SndE (G.behind r H) ((cxM X.prog X.w X.K X.mg X.base Ng qg sg g cdg X.A X.stack s H Eg).tr pn xe) (.Call (.Name a p1) [] [] p2) (mThk f fun U => me en U) := by
  refine @SndE.mk (G.behind r H) _ _ _ ?_
  intro W' tk' en' σZ rZ HZ SZ Q erZ roZ dn pinsZ sZ IZ
  have st : Stp r H rZ HZ := (@ROk.gh (G.behind r H) _ _ _ _ roZ).2
  obtain ⟨h0, dn⟩ : en'[0]? = some (some (D.adr f)) ∧ @Dn (G.behind r H) X.K rZ HZ D V (VR X.K) (me en SZ) Q (WE W' σZ) := by
    have dn : @Dn (G.behind r H) X.K rZ HZ D V (VR X.K) (mThk f (fun U => me en U) en' SZ) Q (WE W' σZ) := dn
    unfold mThk at dn
    cases h0 : en'[0]? with
    | none => rw [h0] at dn; exact dn.elim
    | some o =>
      rw [h0] at dn
      cases o with
      | none => exact dn.elim
      | some d =>
        cases d with
        | adr g' =>
          by_cases hg : g' = f
          · subst hg
            exact ⟨rfl, by simpa using dn⟩
          · have dn : @Dn (G.behind r H) X.K rZ HZ D V (VR X.K) (if g' = f then me en SZ else .bad) Q (WE W' σZ) := dn
            rw [if_neg hg] at dn
            exact dn.elim
        | _ => exact dn.elim
  obtain ⟨v0, hs, hv0⟩ := erZ.at_ 0 _ h0
  obtain rfl : v0 = .ref f := hv0
  refine wpAny_Call_Name_kw (thn ((pe_var (pos := p1) (i := 0) hN hv hd hcd).run pinsZ sZ σZ HZ (fun v H1 => v = .ref f ∧ H1 = HZ) IZ ⟨.ref f, hs, rfl, rfl⟩) fun u s1 ⟨v, H1, I1, r1, q1⟩ => ?_)
  obtain ⟨ev, eH⟩ := q1
  subst ev
  rw [eH] at I1
  obtain rfl : u = Value.ref f := r1
  have of1 := I1.base.keep f _ hf hfn hfr List.not_mem_nil
  refine PySem.W.callWith_F0 ⟨_, _, _, _, of1⟩ ?_
  obtain ⟨⟨oc, vs, t, hoc, hdc, hvc⟩, _, _⟩ := I1.hok c' _ (st.cod _ _ hco)
  have rc : codeAny (model X.prog X.w) (X.A.deeper (envOfC qg sg s.heap.objs.size g cdg)) (.call (.ref f) ⟨[], []⟩) (CR (L2.CX X.prog X.w) (envOfC qg sg s.heap.objs.size g cdg :: X.stack) X.prog X.w HZ s1 Q (WE W' σZ)) s1 := by
    refine PySem.W.kla_callFunE hr.depth of1 rfl L.co L.gen rfl ⟨c', oc, vs, t, rfl, hoc, hdc, hvc⟩ ?_
    simp only [hbind]
    refine wpAny_pure ?_
    refine wpAny_newFunctionEnv (fun y hy => (L.own y hy).2) (fun y hy => (List.not_mem_nil hy).elim) (fun h₁ hns hsb => ⟨I1.nolimit.fresh _ hsb, ?_⟩) L.kind
    show codeAny _ _ (.expr body (LamX.lamEnv X scope s1.heap.objs.size f c')) _ _
    have kp : ∀ b o, s1.heap.get? b = some o → h₁.get? b = some o := fun b o e => by
      have := Heap.lt_size e
      exact hsb.extBut b o (Nat.ne_of_lt this) (Heap.get?_push_of_some _ e)
    have J : Inv (LamX.lamCx X (X.A.deeper (envOfC qg sg s.heap.objs.size g cdg)) (envOfC qg sg s.heap.objs.size g cdg :: X.stack) s1 HZ (WE W' σZ) scope f c') [] σ HZ { s1 with heap := h₁, toks := s1.toks + ([] : List (Str × Value)).length } :=
      LamX.lam_start2 I L I1.env0 hr.hd I1.base hns kp
    have gd : Gd (LamX.lamCx X (X.A.deeper (envOfC qg sg s.heap.objs.size g cdg)) (envOfC qg sg s.heap.objs.size g cdg :: X.stack) s1 HZ (WE W' σZ) scope f c') k := ⟨rfl, hr.deeper _, hgd⟩
    have run := @SndE.run (G.behind r H) _ _ _ (hbody _ _ s1 HZ (WE W' σZ) f c' gd owns_lam (G.behind r H)) _ takes_lam en σ rZ HZ SZ Q (er.mono st) roZ dn [] _ J
    refine PySem.W.kla_codeExpr (wpAny_mono run (fun v s' hq => ?_) fun e s' hq => hq)
    obtain ⟨w', H', J', rv, q⟩ := hq
    exact ⟨w', H', J'.os, J'.bare, J'.base, J'.hok, rv, q⟩
  refine wpAny_call (codeAny_mono rc fun res s' hq => ?_)
  match res, hq with
  | .error e, hq => exact tk' e s' (XE.of_call I1 (fun _ _ _ h => h) hq)
  | .ok (.ret u), hq => exact I1.after hq
  | .ok .next, hq => exact hq.elim
  | .ok .brk, hq => exact hq.elim
  | .ok .cont, hq => exact hq.elim
end
end Q

namespace Q
open PySem PySem.Spec PyProof.Rows L2
/-- a def that is handed a thunk keeps its mirror: k, the level of what it calls -/
structure FnT (P : Program) (w : World) (K : PySem.W.Frag) (mg : Str → Option Value) (base : Heap) (k : Nat) (g : Addr) (x : Str) (bg : List Stmt) (sg : Scope) (Ng : List Str) (a : Str) (m : Addr → Thk → MS) : Prop where
  run : ∀ (G : Ghost) (cd : Value) (A : Around) (outer : List Env) (s : Shared) (H : Hp) (E : XK) (f : Addr) (T : Thk), Gd (cxM P w K mg base Ng x sg g cd A outer s H E) k →
    PassesOwn (model P w) (cxM P w K mg base Ng x sg g cd A outer s H E).A (cxM P w K mg base Ng x sg g cd A outer s H E).env (cxM P w K mg base Ng x sg g cd A outer s H E).xe →
    (∀ (pn : List (Addr × Obj)) (xe : Value → Shared → Prop) (p1 p2 : Pos), @SndE G ((cxM P w K mg base Ng x sg g cd A outer s H E).tr pn xe) (.Call (.Name a p1) [] [] p2) (mThk f T)) →
    @SndSs G (cxM P w K mg base Ng x sg g cd A outer s H E) bg (m f T)
section
variable {X : Cx}
theorem e_lamcall [Gh : Ghost] {x a : Str} {g c P : Addr} {j k : Nat} {pg : Arguments} {bg : List Stmt} {sg : Scope} {dV kV doc pm cdv ct oc : Value} {an od : Option Addr} {osl : Array (Option Value)} {Ng : List Str}
    {params : Arguments} {body : Expr} {scope : Scope} {p lpos pos : Pos} {m : Addr → Thk → MS} {me : ME} (gX : Gd X (k + 2)) (hg : Gl X x) (hm : X.mg x = some (.ref g)) (hk : PySem.W.keepIn X.K (.ref g) = true)
    (lk : X.K.lookup g = some ⟨oc, od, .func (PySem.W.fnOf x x pg bg sg dV kV doc pm an cdv ct), osl⟩) (hcg : PySem.W.codeIn X.K cdv x = true) (hb : L2.Binds X.K (PySem.W.fnOf x x pg bg sg dV kV doc pm an cdv ct) [a] []) (Sg : FnScope Ng [a] sg) (hNg : Ng[0]? = some a) (hva : Vis sg a)
    (F : FnT X.prog X.w X.K X.mg X.base (k + 1) g x bg sg Ng a m)
    (TB : LamX.TabB X.base X.mg c P) (hcode : X.env.code = .ref c) (L : LamX.LamS X.env.scope scope) (hdef : defaultsOf params X.env = ([], []))
    (hbind : ∀ (q : Str) (cl : List (Str × Addr)) (pm cv ctv : Value), bindArgs (PySem.W.kla_fn "<lambda>" q params body scope cl pm cv ctv) ⟨[], []⟩ = pure [])
    (hbody : ∀ (A : Around) (outer : List Env) (s : Shared) (H : Hp) (E : XK) (f c' : Addr), Gd (LamX.lamCx X A outer s H E scope f c') k → PassesOwn (model X.prog X.w) (LamX.lamCx X A outer s H E scope f c').A (LamX.lamCx X A outer s H E scope f c').env (LamX.lamCx X A outer s H E scope f c').xe →
      ∀ G' : Ghost, @SndE G' (LamX.lamCx X A outer s H E scope f c') body me)
    (hdb : (x == ("__debug__" : Str)) = false := by decide) (hd : (a == ("__debug__" : Str)) = false := by decide) (hcd : (a == ("__classdict__" : Str)) = false := by decide) :
    SndE X (.Call (.Name x p) [.Lambda params body scope lpos] [] pos) (mLam j P (X.env.qual ++ "<lambda>") (mDefT Ng.length m) me) := by
  refine ⟨?_⟩
  intro W tk en σ r H S Q er ro dn pins s I
  obtain ⟨hS, hf0, dn⟩ : S[j]? = some (.tab P (X.env.qual ++ "<lambda>")) ∧ (∀ f, mDefT Ng.length m f (fun U => me en U) S = mDefT Ng.length m 0 (fun U => me en U) S) ∧ Dn X.K r H (VR X.K) (mDefT Ng.length m 0 (fun U => me en U) S) Q (WE W σ) := by
    have dn : Dn X.K r H (VR X.K) (mLam j P (X.env.qual ++ "<lambda>") (mDefT Ng.length m) me en S) Q (WE W σ) := dn
    unfold mLam at dn
    by_cases h : S[j]? = some (.tab P (X.env.qual ++ "<lambda>")) ∧ ∀ f, mDefT Ng.length m f (fun U => me en U) S = mDefT Ng.length m 0 (fun U => me en U) S
    · rw [if_pos h] at dn
      exact ⟨h.1, h.2, dn⟩
    · rw [if_neg h] at dn
      exact dn.elim
  refine wpAny_Call_Name_kw (ld_glob I hg hm ?_ hdb)
  refine PySem.W.callWith_K (h₀ := X.base) I.ok.mod.kin hk ?_ (by rfl) (by rfl)
  show wpAny _ _ (spliced ((false, eval (.Lambda params body scope lpos) X.env) :: backTo pos (starEach [] X.env))) _ _ s
  refine Calls.spliced_cons (LamX.lam_make2 I TB hcode (tabsOf_of hS) (ro.tab_one hS) ro.tabs hdef (L.has I.ok) fun f c' pm' ctv H1 s' I1 eN T1 hf hfn hfr hco => ?_)
  refine Calls.spliced_nil ⟨I1.kIn, ?_⟩
  have st : Stp r H r H1 := Stp.extN eN
  have ro1 : ROk X.K r H1 S := ro.extN eN T1
  have dn1 : @Dn (Gh.behind r H1) X.K r H1 D V (VR X.K) (endM (m f (fun U => me en U) (startE Ng.length [.adr f]) S)) Q (WE W σ) :=
    Dn.weak (fun _ _ _ h => ROk.up h) (Dn.mono st (show Dn X.K r H (VR X.K) (mDefT Ng.length m f (fun U => me en U) S) Q (WE W σ) by rw [hf0 f]; exact dn))
  have rc : codeAny (model X.prog X.w) X.A (.call (.ref g) ⟨[.ref f], []⟩) (CR (L2.CX X.prog X.w) X.stack X.prog X.w H1 s' Q (WE W σ)) s' := by
    refine LamX.run_ofS (N := Ng) (ps := [a]) (us := [.ref f]) (vs := [.ref f]) (k := k + 1) lk hcg Sg gX.room I1.env0 (hb s' [.ref f] I1.kIn rfl) (.cons rfl .nil) rfl fun hr' => ?_
    refine ⟨fun D σ' H' => wSs (cxM X.prog X.w X.K X.mg X.base Ng x sg g cdv X.A X.stack s' H1 (WE W σ)) bg D σ' H', ⟨fun pins s σ H D I h => h pins s I⟩, ?_⟩
    have gd : Gd (cxM X.prog X.w X.K X.mg X.base Ng x sg g cdv X.A X.stack s' H1 (WE W σ)) (k + 1) := ⟨rfl, hr', gX.gd⟩
    have act := act_lam (G := Gh) (k := k) (Eg := WE W σ) (Ng := Ng) (qg := x) (sg := sg) (cdg := cdv) (a := a) (q := x) (me := me) (g := g) I1 L hf hfn hfr hco (hbind _ _ _ _ _) (er.mono st) hr' gX.gd hbody hNg hva hd hcd
    have body' := F.run (Gh.behind r H1) cdv X.A X.stack s' H1 (WE W σ) f (fun U => me en U) gd owns_cxM act
    exact @SndSs.run (Gh.behind r H1) _ _ _ body' _ takes_cxM (startE Ng.length [.adr f]) (L2.start Ng [.ref f]) r H1 S _ (ER.start Ng ⟨_, _, rfl, rfl, rfl⟩) (ROk.down ro1) (DnS.of_end (Gh := (Gh.behind r H1)) dn1)
  refine wpAny_call (codeAny_mono rc fun res s2 hq => ?_)
  match res, hq with
  | .error e, hq => exact tk e s2 (XE.of_call I1 (fun _ _ _ h => h) hq)
  | .ok (.ret u), hq => exact I1.after hq
  | .ok .next, hq => exact hq.elim
  | .ok .brk, hq => exact hq.elim
  | .ok .cont, hq => exact hq.elim
end
end Q

namespace Q
open PySem PySem.Spec PyProof.Rows L2
/-- the store that holds the tables of these codes: code, table, the name of the codes in it -/
def tabS0 (ts : List (Addr × Addr × Str)) : Store := ts.map fun t => .tab t.2.1 t.2.2
open Classical in
/-- law_M, with tables of code objects -/
theorem law_MT {P : Program} {w : World} {K : PySem.W.Frag} {mg mb : Str → Option Value} {k : Nat} {fa a : Addr} {fd : FuncData} {x : Str} {M : MF} {s1 : Shared} {vs : List Value} {ns : List Int} {ts : List (Addr × Addr × Str)}
    (KX : K.In s1.heap) (hns : s1.heap.Ns mainGlobals mg) (hb : s1.heap.Ns builtinsNs mb) (hbb : ∀ x : Str, x ≠ "__name__" → mb x = bootBuiltins x) (hlim : s1.heap.NoLimit) (hg : s1.gens = #[])
    (hT : ∀ t ∈ ts, s1.heap.get? t.2.1 = some { cls := .none, data := .fields #[] }) (nT : ∀ t ∈ ts, K.lookup t.2.1 = none) (C : ∀ t ∈ ts, PySem.W.CodeHd s1.heap t.1 t.2.1) (ndT : (ts.map (·.2.1)).Nodup)
    (hbm : ∃ (bm : Addr) (ob : Obj), mg "__builtins__" = some (.ref bm) ∧ bm ≠ builtinsNs ∧ s1.heap.get? bm = some ob ∧ ob.cls = .type "module" ∧ ob.dict = some builtinsNs ∧ ob.data = .plain)
    (ha : s1.heap.get? a = some { cls := .type "list", data := .seq vs.toArray }) (hi : IntsAre vs ns) (hl : ns.length ≤ sizeLine) (hr : Room k callerA)
    (F : ∀ base : Heap, K.In base → base.Ns mainGlobals mg → (∀ t ∈ ts, LamX.TabB base mg t.1 t.2.1) → FnM P w K mg base k fa fd [x] M) (hbind : ∀ (s : Shared) (u : Value), BindsTo s fd ⟨[u], []⟩ [(x, u)])
    (hM : ∃ S', M [.kl (ns.map D.int)] (tabS0 ts) = .ok (.bl true) S') (hsys : ∃ o es ep, s1.heap.get? sysModules = some o ∧ o.data = .dict es ep) :
    codeAny (model P w) callerA (.call (.ref fa) ⟨[.ref a], []⟩) (fun r s' => r = .ok (.ret (.bool true)) ∧ OldK s1.heap s'.heap ∧ s'.os = s1.os ∧ AllBare s'.gens) s1 := by
  have rv := vals_ints hi
  have lenV := hi.length
  obtain ⟨S', hM⟩ := hM
  have kvs : ∀ (r : List Addr) (H : Hp) (l : List Int), VRs K r H (l.map D.int) (l.map V.int) := by
    intro r H l
    induction l with
    | nil => rfl
    | cons i l ih => exact ⟨.int i, _, rfl, rfl, ih⟩
  obtain ⟨oY, eY, pY, hY, dY⟩ := hsys
  let Ps := ts.map (·.2.1)
  have isT : ∀ b : Addr, b ∈ Ps → s1.heap.get? b = some { cls := .none, data := .fields #[] } ∧ K.lookup b = none := fun b hb => by
    obtain ⟨p, hp, e⟩ := List.mem_map.mp hb
    rw [← e]
    exact ⟨hT p hp, nT p hp⟩
  have memT : ∀ t ∈ ts, t.2.1 ∈ Ps := fun t ht => List.mem_map.mpr ⟨t, ht, rfl⟩
  have aS : a ≠ sysModules := fun e => by
    rw [← e, ha] at hY
    cases hY
    cases dY
  have aP : a ∉ Ps := fun z => by
    have q := (isT a z).1
    rw [ha] at q
    have z' : Data.seq vs.toArray _ = Data.fields #[] := congrArg Obj.data (Option.some.inj q)
    cases z'
  have sP : sysModules ∉ Ps := fun z => by
    have q := (isT _ z).1
    rw [hY] at q
    have z' : oY.data = Data.fields #[] := congrArg Obj.data (Option.some.inj q)
    rw [dY] at z'
    cases z'
  let fA : HO := .frz { cls := .type "list", data := .seq vs.toArray } (.lst (ns.map V.int))
  let fY : HO := .frz oY (.own 0)
  let H : Hp := fun b => if b ∈ Ps then some (.tbl #[]) else if b = a then (if K.lookup a = none then some fA else none) else if b = sysModules then (if K.lookup sysModules = none then some fY else none) else none
  have HP : ∀ b, b ∈ Ps → H b = some (.tbl #[]) := fun b h => if_pos h
  have HA : H a = if K.lookup a = none then some fA else none := (if_neg aP).trans (if_pos rfl)
  have HY : H sysModules = if K.lookup sysModules = none then some fY else none := (if_neg sP).trans ((if_neg (Ne.symm aS)).trans (if_pos rfl))
  have HN : ∀ b, b ∉ Ps → b ≠ a → b ≠ sysModules → H b = none := fun b h1 h2 h3 => (if_neg h1).trans ((if_neg h2).trans (if_neg h3))
  have hcase : ∀ b u, H b = some u → (b ∈ Ps ∧ u = .tbl #[]) ∨ (b = a ∧ K.lookup a = none ∧ u = fA) ∨ (b = sysModules ∧ K.lookup sysModules = none ∧ u = fY) := fun b u e => by
    by_cases h1 : b ∈ Ps
    · rw [HP b h1] at e; cases e; exact .inl ⟨h1, rfl⟩
    · by_cases h2 : b = a
      · subst h2
        rw [HA] at e
        by_cases hk : K.lookup b = none
        · rw [if_pos hk] at e; cases e; exact .inr (.inl ⟨rfl, hk, rfl⟩)
        · rw [if_neg hk] at e; cases e
      · by_cases h3 : b = sysModules
        · subst h3
          rw [HY] at e
          by_cases hk : K.lookup sysModules = none
          · rw [if_pos hk] at e; cases e; exact .inr (.inr ⟨rfl, hk, rfl⟩)
          · rw [if_neg hk] at e; cases e
        · rw [HN b h1 h2 h3] at e; cases e
  have hsy : SysOk K H := by
    cases q : K.lookup sysModules with
    | none => exact .inr ⟨oY, _, eY, pY, by rw [HY, if_pos q], dY⟩
    | some o =>
      have e := KX _ o q
      rw [hY] at e
      cases e
      exact .inl ⟨_, eY, pY, q, dY⟩
  have hS : SqF K H a (ns.map V.int) := by
    cases q : K.lookup a with
    | none => exact .inl ⟨_, by rw [HA, if_pos q]⟩
    | some o =>
      have e := KX a o q
      rw [ha] at e
      cases e
      exact .inr ⟨_, vs.toArray, _, q, rfl, rfl, rfl, by rw [List.size_toArray, lenV]; exact hl, by simpa using rv⟩
  have hok : HOk P w H s1.heap := fun b u e => by
    rcases hcase b u e with ⟨h1, rfl⟩ | ⟨rfl, _, rfl⟩ | ⟨rfl, _, rfl⟩
    · exact (isT b h1).1
    · exact ⟨ha, by rw [List.length_map]; exact hl, vs, _, rv, ha⟩
    · exact ⟨hY, oY, hY⟩
  have noD : ∀ {b : Addr} {o : Obj}, s1.heap.get? b = some o → (∀ vs n, o.data ≠ .seq vs n) → o.data ≠ .fields #[] → (b = sysModules → False) → H b = none := fun {b o} e h1 h2 h3 => by
    cases q : H b with
    | none => rfl
    | some u =>
      rcases hcase b u q with ⟨hm, _⟩ | ⟨rfl, _, _⟩ | ⟨rfl, _, _⟩
      · rw [(isT b hm).1] at e
        cases e
        exact (h2 rfl).elim
      · rw [ha] at e
        cases e
        exact (h1 _ _ rfl).elim
      · exact (h3 rfl).elim
  have dictNone : ∀ {b : Addr} {o : Obj} {es : Array DictEntry} {ep : Nat}, s1.heap.get? b = some o → o.data = .dict es ep → b ≠ sysModules → H b = none := by
    intro b o es ep e d hne
    exact noD e (fun vs n z => by rw [d] at z; cases z) (fun z => by rw [d] at z; cases z) hne
  have nsB : ∀ {b : Addr} {m : Str → Option Value}, b ≠ sysModules → s1.heap.Ns b m → (hidT s1.heap H).Ns b m := by
    rintro b m hne ⟨o, es, ep, e, d, q⟩
    exact ⟨o, es, ep, hidT_get e (dictNone e d hne), d, q⟩
  have kinB : K.In (hidT s1.heap H) := by
    intro b o e
    refine hidT_get (KX b o e) ?_
    cases q : H b with
    | none => rfl
    | some u =>
      rcases hcase b u q with ⟨hm, _⟩ | ⟨rfl, hk, _⟩ | ⟨rfl, hk, _⟩
      · rw [(isT b hm).2] at e; cases e
      · rw [hk] at e; cases e
      · rw [hk] at e; cases e
  have limB : (hidT s1.heap H).NoLimit := by
    obtain ⟨mc, h1, h2⟩ := hlim
    exact ⟨mc, nsB (by decide) h1, h2⟩
  have TB : ∀ t ∈ ts, LamX.TabB (hidT s1.heap H) mg t.1 t.2.1 := fun p hp => by
    have hTp := hT p hp
    have notSys : ∀ {b : Addr} {o : Obj}, s1.heap.get? b = some o → (∀ es ep, o.data ≠ .dict es ep) → b = sysModules → False := fun {b o} e h z => by
      rw [z, hY] at e
      cases e
      exact h _ _ dY
    refine ⟨?_, ?_, fun z => ?_⟩
    · obtain ⟨o, us, file, tf, flags, tg, inF, text, tt, e1, r1, r2, r3, r4, r5, r6, r7, r8, hne⟩ := C p hp
      refine ⟨o, us, file, tf, flags, tg, inF, text, tt, hidT_get e1 (noD e1 (fun vs n z => ?_) (fun z => ?_) (notSys e1 fun es ep z => ?_)), r1, r2, r3, r4, r5, r6, r7, r8, hne⟩
      · rw [r2] at z
        cases z
      · rw [r2] at z
        cases z
        simp at r3
      · rw [r2] at z
        cases z
    · obtain ⟨bm, ob, b1, b2, b3, b4, b5, b6⟩ := hbm
      have nG : bm ≠ mainGlobals := fun q => by
        obtain ⟨o, es, ep, e, hd, _⟩ := hns
        rw [q, e] at b3
        cases b3
        rw [hd] at b6
        cases b6
      have nP : bm ≠ p.2.1 := fun q => by
        rw [q, hTp] at b3
        cases b3
        cases b6
      refine ⟨bm, ob, b1, b2, nG, nP, hidT_get b3 (noD b3 (fun vs n z => ?_) (fun z => ?_) (notSys b3 fun es ep z => ?_)), b4, b5, b6⟩
      · rw [b6] at z
        cases z
      · rw [b6] at z
        cases z
      · rw [b6] at z
        cases z
    · obtain ⟨o, es, ep, e, hd, _⟩ := hns
      rw [z, hTp] at e
      cases e
      cases hd
  have e0 : Env0 P w K mg (hidT s1.heap H) callerA [] s1 H :=
    ⟨rfl, ⟨kinB, nsB (by decide) hns, ⟨mb, nsB (by decide) hb, hbb⟩, limB⟩, fun b o e => of_hidT e, Nat.le_of_eq (hidT_size _ _), trivial, fun b hm => (List.not_mem_nil (show b ∈ ([] : List Addr) from hm)).elim, hok, .of_eq hg⟩
  have ro : ROk K Ps H (tabS0 ts) := ⟨hsy, by unfold tabS0; rw [List.length_map, List.length_map], ndT, fun n o p e1 e2 => by
    unfold tabS0 at e1
    rw [List.getElem?_map] at e1
    obtain ⟨t, ht, rfl⟩ := Option.map_eq_some_iff.mp e1
    have e2 : (ts.map (·.2.1))[n]? = some p := e2
    rw [List.getElem?_map, ht] at e2
    have e3 : p = t.2.1 := (Option.some.inj e2).symm
    exact ⟨e3, LamX.TabS.nil (HP _ (memT t (List.mem_of_getElem? ht)))⟩, trivial⟩
  have arg : VRs K Ps H [.kl (ns.map D.int)] [.ref a] := ⟨.ref a, [], rfl, ⟨a, ns.map V.int, rfl, hS, kvs Ps H ns⟩, rfl⟩
  have dn : Dn K Ps H (VR K) (M [.kl (ns.map D.int)] (tabS0 ts)) (fun v _ => v = .bl true) (fun _ _ _ => False) := by
    rw [hM]
    exact fun r' H' v _ _ kv => kv
  refine codeAny_mono ((F _ kinB (nsB (by decide) hns) TB).run callerA [] s1 H ⟨[.ref a], []⟩ [.ref a] [.ref a] Ps _ (tabS0 ts) _ _ hr rfl e0 (hbind s1 (.ref a)) (.cons rfl .nil) rfl arg ro dn) ?_
  intro res s' h
  match res, h with
  | .error e, ⟨_, _, _, _, _, _, _, _, _, _, _, _, hE⟩ => exact hE.elim
  | .ok .next, h => exact h.elim
  | .ok .brk, h => exact h.elim
  | .ok .cont, h => exact h.elim
  | .ok (.ret u), ⟨v, H', os, bare, un, hok', rv', q⟩ =>
    have q : v = .bl true := q
    subst q
    obtain rfl : u = Value.bool true := rv'
    have key : ∀ b o, b ∉ Ps → s1.heap.get? b = some o → s'.heap.get? b = some o := fun b o nb e => by
      cases q : H b with
      | none => exact un.keep b o e q (List.not_mem_nil (a := b)) (List.not_mem_nil (a := b))
      | some u =>
        have hfr : ∃ ob xs, u = .frz ob xs := by
          rcases hcase b u q with ⟨hm, _⟩ | ⟨_, _, rfl⟩ | ⟨_, _, rfl⟩
          · exact absurd hm nb
          · exact ⟨_, _, rfl⟩
          · exact ⟨_, _, rfl⟩
        obtain ⟨ob, xs, rfl⟩ := hfr
        obtain ⟨e1, _⟩ := hok b _ q
        obtain ⟨e2, _⟩ := hok' b _ (un.frzs b ob _ q)
        rw [e] at e1
        cases e1
        exact e2
    have grown : ∀ t ∈ ts, ∃ more : Array Value, s'.heap.get? t.2.1 = some { cls := .none, data := .fields more } := fun t ht => by
      obtain ⟨more, z⟩ := un.tbls t.2.1 #[] (HP _ (memT t ht))
      exact ⟨_, hok' t.2.1 _ z⟩
    refine ⟨rfl, ⟨fun b o e => ?_, fun b o e => ?_⟩, os, bare⟩
    · by_cases hb : b ∈ Ps
      · obtain ⟨t, ht, ep⟩ := List.mem_map.mp hb
        obtain ⟨more, hm⟩ := grown t ht
        rw [← ep] at e ⊢
        rw [hT t ht] at e
        cases e
        exact .inr (.inl ⟨((C t ht).tab (hT t ht)).isCodeTable, rfl, #[], more, rfl, by rw [Array.empty_append]; exact hm⟩)
      · exact .inl (key b o hb e)
    · by_cases hb : b ∈ Ps
      · obtain ⟨t, ht, ep⟩ := List.mem_map.mp hb
        obtain ⟨more, hm⟩ := grown t ht
        rw [← ep]
        exact ⟨_, hm⟩
      · exact ⟨o, key b o hb e⟩
theorem walk_MT {l : PySem.W.OpenLaw} {n k : Nat} {q : Program} {loose : List Str} {XP : (Str → Option Value) → Heap → Prop} {YP : World → Heap → Prop} {d : DefRec} {x : Str}
    (hn : l.most = some n) (hn2 : n ≤ sizeLine) (hdf : d.params.defaults = []) (hr : Room k callerA) (hi : importsNone q = true)
    (F : ∀ (w : World) (mg : Str → Option Value) (fa : Addr) (h : Heap), YP w h → h.Ns mainGlobals mg → mg d.name = some (.ref fa) →
      ∃ (K : PySem.W.Frag) (fd : FuncData) (M : MF) (ts : List (Addr × Addr × Str)), K.In h ∧ (∀ t ∈ ts, h.get? t.2.1 = some { cls := .none, data := .fields #[] }) ∧ (∀ t ∈ ts, K.lookup t.2.1 = none) ∧ (∀ t ∈ ts, PySem.W.CodeHd h t.1 t.2.1) ∧ (ts.map (·.2.1)).Nodup ∧
        (∀ (s : Shared) (u : Value), BindsTo s fd ⟨[u], []⟩ [(x, u)]) ∧
        (∀ ns : List Int, ns.length ≤ n → (∀ z ∈ ns, Builtin.Int.intBits z ≤ 1048576) → ∃ S', M [.kl (ns.map D.int)] (tabS0 ts) = .ok (.bl true) S') ∧
        ∀ base : Heap, K.In base → base.Ns mainGlobals mg → (∀ t ∈ ts, LamX.TabB base mg t.1 t.2.1) → FnM l.prog w K mg base k fa fd [x] M) :
    PySem.W.WalkO q loose XP YP l.row.toRowW d [] (fun f vs => PySem.call f vs) := by
  refine Att.attach_callB hn hdf fun w s₀ s₁ mg mb fa o pm cd doc a vs ns G Y ho hd hcd hmg hobj hints hlen hbits hg => ?_
  obtain ⟨K, fd, M, ts, KX, hT, nT, C, nd, hb, hM, hF⟩ := F w mg fa _ Y G.T.g hmg
  exact law_MT KX G.T.g G.T.b G.T.builtins G.T.nolimit hg hT nT C nd G.T.bmain hobj hints (Nat.le_trans hlen hn2) hr hF hb (hM ns hlen hbits) (by
    obtain ⟨mm, ⟨o, es, ep, e1, e2, _⟩, _⟩ := (G.T.seer hi).mods
    exact ⟨o, es, ep, e1, e2⟩)
end Q

namespace Q
open PySem PySem.Spec PyProof.Rows L2
theorem FnT.mono {P : Program} {w : World} {K : PySem.W.Frag} {mg : Str → Option Value} {base : Heap} {j k : Nat} {g : Addr} {x : Str} {bg : List Stmt} {sg : Scope} {Ng : List Str} {a : Str} {m : Addr → Thk → MS} (F : FnT P w K mg base j g x bg sg Ng a m) (h : j ≤ k) : FnT P w K mg base k g x bg sg Ng a m :=
  ⟨fun G cd A outer s H E f T gd own act => F.run G cd A outer s H E f T (gd.mono h) own act⟩
section
variable [Gh : Ghost] {P : Program} {w : World} {K : PySem.W.Frag} {mg : Str → Option Value} {base : Heap}
/-- a def whose code is known by its place -/
theorem fnM_ofC {k : Nat} {f : Addr} {x qual : Str} {params : Arguments} {body : List Stmt} {scope : Scope} {N ps : List Str} {m : MS} {oc dV kV doc pm cdv ct : Value} {od an : Option Addr} {osl : Array (Option Value)}
    (lk : K.lookup f = some ⟨oc, od, .func (PySem.W.fnOf x qual params body scope dV kV doc pm an cdv ct), osl⟩) (hcd : PySem.W.codeIn K cdv qual = true) (Sc : FnScope N ps scope)
    (hbody : ∀ (A : Around) (outer : List Env) (s : Shared) (H : Hp) (E : XK), Gd (cxM P w K mg base N qual scope f cdv A outer s H E) k → PassesOwn (model P w) (cxM P w K mg base N qual scope f cdv A outer s H E).A (cxM P w K mg base N qual scope f cdv A outer s H E).env (cxM P w K mg base N qual scope f cdv A outer s H E).xe →
      SndSs (cxM P w K mg base N qual scope f cdv A outer s H E) body m) : FnM P w K mg base (k + 1) f (PySem.W.fnOf x qual params body scope dV kV doc pm an cdv ct) ps (mDef N.length m) := by
  constructor
  intro A outer s H args us vs r ds S Q E room gds e0 bnd rel hlen hrel ro dn
  refine LamX.run_ofS (CX := L2.CX P w) lk hcd Sc room e0 bnd rel (hrel.length.symm.trans hlen) fun hr' => ?_
  refine ⟨fun D σ' H' => wSs (cxM P w K mg base N qual scope f cdv A outer s H E) body D σ' H', ⟨fun pins s σ H D I h => h pins s I⟩, ?_⟩
  exact (hbody A outer s H E ⟨rfl, hr', gds⟩ owns_cxM).run _ takes_cxM (startE N.length ds) (L2.start N vs) r H S _ (ER.start N hrel) ro (DnS.of_end dn)
end
section
variable {X : Cx}
theorem e_lamD [Gh : Ghost] {x a : Str} {g c P : Addr} {pg : Arguments} {bg : List Stmt} {sg : Scope} {fdg : FuncData} {Ng : List Str}
    {params : Arguments} {body : Expr} {scope : Scope} {p lpos pos : Pos} {m : Addr → Thk → MS} {me : ME} (k : Nat) (j : Nat) (gX : Gd X (k + 2)) (hg : Gl X x) (hm : X.mg x = some (.ref g)) (FD : FunD X.K x x pg bg sg [] [] g fdg) (hb : L2.Binds X.K fdg [a] []) (Sg : FnScope Ng [a] sg)
    (F : FnT X.prog X.w X.K X.mg X.base (k + 1) g x bg sg Ng a m) (TB : LamX.TabB X.base X.mg c P) (hcode : X.env.code = .ref c) (L : LamX.LamS X.env.scope scope)
    (hbody : ∀ (A : Around) (outer : List Env) (s : Shared) (H : Hp) (E : XK) (f c' : Addr), Gd (LamX.lamCx X A outer s H E scope f c') k → PassesOwn (model X.prog X.w) (LamX.lamCx X A outer s H E scope f c').A (LamX.lamCx X A outer s H E scope f c').env (LamX.lamCx X A outer s H E scope f c').xe →
      ∀ G' : Ghost, @SndE G' (LamX.lamCx X A outer s H E scope f c') body me)
    (hNg : Ng[0]? = some a := by rfl) (hva : Vis sg a := by exact .inl (by kernel_rfl)) (hdef : defaultsOf params X.env = ([], []) := by rfl)
    (hbind : ∀ (q : Str) (cl : List (Str × Addr)) (pm cv ctv : Value), bindArgs (PySem.W.kla_fn "<lambda>" q params body scope cl pm cv ctv) ⟨[], []⟩ = pure [] := by intros; rfl)
    (hdb : (x == ("__debug__" : Str)) = false := by decide) (hd : (a == ("__debug__" : Str)) = false := by decide) (hcd : (a == ("__classdict__" : Str)) = false := by decide) :
    SndE X (.Call (.Name x p) [.Lambda params body scope lpos] [] pos) (mLam j P (X.env.qual ++ "<lambda>") (mDefT Ng.length m) me) := by
  obtain ⟨oc, od, dV, kV, doc, pm, an, cdv, ct, osl, rfl, lk, hcg, _, _⟩ := FD.ex
  exact e_lamcall gX hg hm FD.kp lk hcg hb Sg hNg hva F TB hcode L hdef hbind hbody hdb hd hcd
end
end Q

namespace Q
open PySem PySem.Spec PyProof.Rows L2
/-! ### what is wished of the further operations -/
section
variable {en : En} {S : Store} {E : EK} {P : D → Store → Prop} {N : En → Store → Prop} {R : D → Store → Prop} {B C : En → Store → Prop} {X : XKs}
theorem wpO_extend {n m : Nat} {xs ys : List D} (h1 : S[n]? = some (.lst xs)) (h2 : S[m]? = some (.lst ys)) (h0 : xs.length + ys.length ≤ sizeLine) (h : P .non (S.set n (.lst (xs ++ ys)))) : wpO (gExtend (.ref n) [.ref m] S) P :=
  wpO_of (by unfold gExtend; dsimp only; rw [h1, h2]; dsimp only; rw [if_pos h0]) h
theorem wpO_revT {xs : List D} (h : P (.tup xs.reverse) S) : wpO (gRev (.tup xs) S) P := h
end
end Q

namespace Q
open PySem PySem.Spec PyProof.Rows L2
/-! ### sorted(..) in plain words -/
section
variable {S : Store} {P : D → Store → Prop} {α : Type}
theorem py_vec (v : List Int) : pyD S (.tup (v.map D.int)) = some (.tuple (v.map PyData.int)) := by
  have e1 : ∀ l : List Int, (l.map D.int).mapM (toPy S 63) = some (l.map PyData.int) := by
    intro l
    induction l with
    | nil => rfl
    | cons a l ih =>
      rw [List.map_cons, List.map_cons]
      exact mapM_cons_of rfl ih
  show toPy S (63 + 1) (.tup (v.map D.int)) = _
  unfold toPy
  rw [e1]
  rfl
end
end Q

namespace Q
open PySem PySem.Spec PyProof.Rows L2
/-! ### a lambda handed on, within the mirror -/
variable {S : Store} {P : D → Store → Prop} {E : EK} {en : En}
/-- the def's answer d0 and the store U0 behind it, whatever the thunk's address -/
def Ans (n : Nat) (m : Addr → Thk → MS) (S : Store) (R : Res D) (d0 : D) (U0 : Store) : Prop :=
  ∀ (f : Addr) (T : Thk), T S = R → wpS (m f T (startE n [.adr f]) S) (fun _ V => D.non = d0 ∧ V = U0) (fun z V => z = d0 ∧ V = U0) (fun _ _ => False) (fun _ _ => False) (fun _ _ _ _ => False)
theorem Ans.eq {n : Nat} {m : Addr → Thk → MS} {R : Res D} {d0 : D} {U0 : Store} (h : Ans n m S R d0 U0) (f : Addr) {T : Thk} (hT : T S = R) : mDefT n m f T S = .ok d0 U0 := by
  have w := h f T hT
  unfold mDefT
  cases q : m f T (startE n [.adr f]) S with
  | nx e V => rw [q] at w; obtain ⟨a, b⟩ := w; show Res.ok D.non V = _; rw [a, b]
  | rt d V => rw [q] at w; obtain ⟨a, b⟩ := w; show Res.ok d V = _; rw [a, b]
  | bk e V => rw [q] at w; exact w.elim
  | ct e V => rw [q] at w; exact w.elim
  | err c k e V => rw [q] at w; exact w.elim
  | bad => rw [q] at w; exact w.elim
theorem wpE_lam {j n : Nat} {Pa : Addr} {q : Str} {m : Addr → Thk → MS} {me : ME} (hS : S[j]? = some (.tab Pa q))
    (h : wpE (me en S) (fun d U => ∃ d0 U0, Ans n m S (.ok d U) d0 U0 ∧ P d0 U0) (fun C c U => ∃ d0 U0, Ans n m S (.err C c U) d0 U0 ∧ P d0 U0)) : wpE (mLam j Pa q (mDefT n m) me en S) P E := by
  have key : ∃ d0 U0, (∀ f, mDefT n m f (fun U => me en U) S = .ok d0 U0) ∧ P d0 U0 := by
    cases e : me en S with
    | ok d U => rw [e] at h; obtain ⟨d0, U0, h1, h2⟩ := h; exact ⟨d0, U0, fun f => h1.eq f e, h2⟩
    | err C c U => rw [e] at h; obtain ⟨d0, U0, h1, h2⟩ := h; exact ⟨d0, U0, fun f => h1.eq f e, h2⟩
    | bad => rw [e] at h; exact h.elim
  obtain ⟨d0, U0, h1, h2⟩ := key
  unfold mLam
  rw [if_pos ⟨hS, fun f => (h1 f).trans (h1 0).symm⟩, h1 0]
  exact h2
/-- the thunk, within the def that got it -/
theorem wpE_thk {f : Addr} {T : Thk} {R : Res D} (h0 : (en[0]? : Option (Option D)) = some (some (.adr f))) (hT : T S = R) (h : wpE R P E) : wpE (mThk f T en S) P E := by
  unfold mThk
  rw [h0]
  show wpE (if f = f then T S else .bad) P E
  rw [if_pos rfl, hT]
  exact h
end Q

namespace Q
open PySem PySem.Spec PyProof.Rows L2
/-! ### lists or tuples, by their items -/
section
variable {en : En} {S T : Store} {E : EK} {P : D → Store → Prop} {d : D} {xs : List D}
theorem items_kp (k : Kp S T) (h : itemsD d S = some xs) : itemsD d T = some xs := by
  cases d with
  | tup ys => exact h
  | kl ys => exact h
  | ref n =>
    unfold itemsD at h ⊢
    dsimp only at h ⊢
    cases q : S[n]? with
    | none => rw [q] at h; cases h
    | some o => rw [q] at h; rw [k _ _ q]; exact h
  | _ => cases h
theorem items_ref {n : Nat} (h : S[n]? = some (.lst xs)) : itemsD (.ref n) S = some xs := by unfold itemsD; dsimp only; rw [h]
theorem items_inv {n : Nat} (h : itemsD (.ref n) S = some xs) : S[n]? = some (.lst xs) := by
  unfold itemsD at h
  dsimp only at h
  split at h
  · rename_i q; cases h; exact q
  · cases h
theorem dct_items (h : itemsD d S = some xs) : dctD d S = none := by
  cases d with
  | ref n =>
    have := items_inv h
    unfold dctD
    dsimp only
    rw [this]
  | _ => rfl
theorem item_items {i : Int} (h : itemsD d S = some xs) : itemD d (.int i) S = L2.atI xs i := by
  cases d with
  | tup ys => cases h; rfl
  | kl ys => cases h; rfl
  | ref n =>
    have := items_inv h
    unfold itemD
    dsimp only
    rw [this]
  | _ => cases h
theorem wpO_subs {i : Int} {z : D} (h : itemsD d S = some xs) (h0 : L2.atI xs i = some z) (q : P z S) : wpO (gSubs d (.int i) S) P := by
  refine wpO_of ?_ q
  unfold gSubs subD
  rw [dct_items h]
  show (itemD d (.int i) S).map _ = _
  rw [item_items h, h0]
  rfl
theorem wpO_subN {i : Nat} {z : D} (h : itemsD d S = some xs) (h0 : xs[i]? = some z) (q : P z S) : wpO (gSubs d (.int ((i : Nat) : Int)) S) P := wpO_subs h (L2.atI_nat h0) q
theorem wpO_len (h : itemsD d S = some xs) (q : P (.int ((xs.length : Nat) : Int)) S) : wpO (gLen d S) P := by
  cases d with
  | tup ys => cases h; exact wpO_lenT q
  | kl ys => cases h; exact q
  | ref n => exact wpO_lenL (items_inv h) q
  | _ => cases h
theorem wpO_tuple (h : itemsD d S = some xs) (q : P (.tup xs) S) : wpO (gTuple d S) P := wpO_of (by unfold gTuple; rw [h]; rfl) q
end
theorem itD_items {S : Store} {d : D} {xs : List D} (h1 : itemsD d S = some xs) : ∃ mi, itD d S = some mi ∧ ∀ U, itemsD d U = some xs → ∀ i, nextM mi i U = some xs[i]? := by
  cases d with
  | tup ys => cases h1; exact ⟨_, rfl, fun U _ i => rfl⟩
  | kl ys => cases h1; exact ⟨_, rfl, fun U _ i => rfl⟩
  | ref n => exact ⟨_, itD_ref (items_inv h1), fun U hU i => by
      have := items_inv hU
      unfold nextM
      rw [this]⟩
  | _ => cases h1
theorem wpE_enuI {en : En} {S : Store} {E : EK} {m : MA} {Q : MI → Store → Prop} (h : wpE (m en S) (fun ds T => ∃ d xs, ds = [d] ∧ itemsD d T = some xs ∧ ∀ mi, (∀ U, itemsD d U = some xs → ∀ i, nextM mi i U = some (xs.mapIdx fun k z => D.tup [.int ((k : Nat) : Int), z])[i]?) → Q mi T) E) : wpE (mIt m (enuD 0) en S) Q E := by
  refine wpE_bind (wpE_mono h (fun ds T ⟨d, xs, e, h1, h2⟩ => ?_) fun _ _ _ q => q)
  subst e
  obtain ⟨mi, h3, h4⟩ := itD_items h1
  have e : enuD 0 [d] T = some (.enu 0 mi) := by unfold enuD; dsimp only; rw [h3]; rfl
  rw [e]
  refine h2 _ fun U hU i => ?_
  rw [List.getElem?_mapIdx]
  show (nextM mi i U).map _ = _
  rw [h4 U hU]
  simp
theorem exItI {S : Store} {d : D} {xs : List D} {F : MI → Prop} (h1 : itemsD d S = some xs) (h : ∀ mi, (∀ U, itemsD d U = some xs → ∀ i, nextM mi i U = some xs[i]?) → F mi) : ∃ i, itD d S = some i ∧ F i := by
  obtain ⟨mi, h3, h4⟩ := itD_items h1
  exact ⟨mi, h3, h _ h4⟩
theorem exR1N {i : Nat} {F : Int → Prop} (h0 : i < 2 ^ 60) (h : F ((i : Nat) : Int)) : ∃ j, [D.int ((i : Nat) : Int)] = [.int j] ∧ smallI j = true ∧ F j := ⟨_, rfl, smallI_of (by omega) (by omega), h⟩
theorem tyL {S : Store} {n : Nat} {xs : List D} {F : Prop} (h0 : S[n]? = some (.lst xs)) (h : F) : tyD (.ref n) S = "list" ∧ F := ⟨by unfold tyD; dsimp only; rw [h0], h⟩
/-! bits -/
def btD (b : Bool) : D := .int (if b = true then 1 else 0)
def natD (n : Nat) : D := .int (n : Nat)
/-- a row, a table: as tuples or lists -/
def RowV (S : Store) (d : D) (r : List Bool) : Prop := itemsD d S = some (r.map btD)
theorem RowV.kp {S T : Store} {d : D} {r : List Bool} (k : Kp S T) (h : RowV S d r) : RowV T d r := items_kp k h
inductive All2 {α β : Type} (R : α → β → Prop) : List α → List β → Prop
  | nil : All2 R [] []
  | cons {a b as bs} : R a b → All2 R as bs → All2 R (a :: as) (b :: bs)
theorem All2.len {α β : Type} {R : α → β → Prop} {as : List α} {bs : List β} (h : All2 R as bs) : as.length = bs.length := by induction h with | nil => rfl | cons _ _ ih => simp [ih]
theorem All2.at {α β : Type} {R : α → β → Prop} {as : List α} {bs : List β} (h : All2 R as bs) : ∀ {i : Nat} {b : β}, bs[i]? = some b → ∃ a, as[i]? = some a ∧ R a b := by
  induction h with
  | nil => intro i b e; simp at e
  | cons r _ ih =>
    intro i b e
    cases i with
    | zero => simp at e; subst e; exact ⟨_, rfl, r⟩
    | succ i => simpa using ih (by simpa using e)
theorem All2.at' {α β : Type} {R : α → β → Prop} {as : List α} {bs : List β} (h : All2 R as bs) : ∀ {i : Nat} {a : α}, as[i]? = some a → ∃ b, bs[i]? = some b ∧ R a b := by
  induction h with
  | nil => intro i b e; simp at e
  | cons r _ ih =>
    intro i b e
    cases i with
    | zero => simp at e; subst e; exact ⟨_, rfl, r⟩
    | succ i => simpa using ih (by simpa using e)
theorem All2.mono {α β : Type} {R R' : α → β → Prop} {as : List α} {bs : List β} (h : All2 R as bs) (q : ∀ a b, R a b → R' a b) : All2 R' as bs := by induction h with | nil => exact .nil | cons r _ ih => exact .cons (q _ _ r) ih
theorem All2.app {α β : Type} {R : α → β → Prop} {as as' : List α} {bs bs' : List β} (h : All2 R as bs) (h' : All2 R as' bs') : All2 R (as ++ as') (bs ++ bs') := by induction h with | nil => exact h' | cons r _ ih => exact .cons r ih
theorem All2.set {α β : Type} {R : α → β → Prop} {as : List α} {bs : List β} {a : α} {b : β} (h : All2 R as bs) (q : R a b) : ∀ i : Nat, All2 R (as.set i a) (bs.set i b) := by
  induction h with
  | nil => intro i; exact .nil
  | cons r t ih =>
    intro i
    cases i with
    | zero => exact .cons q t
    | succ i => exact .cons r (ih i)
def TabV (S : Store) (d : D) (B : List (List Bool)) : Prop := ∃ xs, itemsD d S = some xs ∧ All2 (RowV S) xs B
theorem TabV.kp {S T : Store} {d : D} {B : List (List Bool)} (k : Kp S T) (h : TabV S d B) : TabV T d B := let ⟨xs, h1, h2⟩ := h; ⟨xs, items_kp k h1, h2.mono fun _ _ q => q.kp k⟩
/-! comprehensions whose results are told by a relation -/
theorem wp_compR {en : En} {S : Store} {E : EK} {P : D → Store → Prop} {α : Type} {mi : MI} {g : Pat} {me : ME} {n : Nat} (xs : List D) (bs : List α) (R : Store → D → α → Prop) (hlen : xs.length = bs.length)
    (hx : ∀ (i : Nat) (T : Store), Kp S T → nextM mi i T = some xs[i]?) (hz : xs.length < n) (hz2 : xs.length < sizeLine)
    (step : ∀ (i : Nat) (d : D) (b : α) (T : Store), xs[i]? = some d → bs[i]? = some b → Kp S T → S.length < T.length → ∃ ps, g d T = some ps ∧ wpE (me (setsE en ps) T) (fun z V => Kp T V ∧ ∀ U, KpX S.length V U → R U z b) (fun _ _ _ => False))
    (fin : ∀ k T zs, Kp S T → k = S.length → T[k]? = some (.lst zs) → All2 (R T) zs bs → P (.ref k) T) : wpE (compL mi g mYes me S.length n 0 en (S ++ [.lst []])) P E := by
  refine wp_compL xs (fun i a T => Kp S T ∧ ∀ U, KpX S.length T U → All2 (R U) a (bs.take i)) (fun i a T h _ => hx i T h.1) (fun i d a T hd ⟨h1, h2⟩ ha hl => ?_) hz2 (fun a T ⟨h1, h2⟩ ha => ?_) xs.length n 0 [] _ (by omega) hz (Nat.le_refl _) ⟨Kp.app, fun U _ => by rw [List.take_zero]; exact .nil⟩ at_mid
  · have hi := (List.getElem?_eq_some_iff.mp hd).1
    have hb : bs[i]? = some bs[i] := List.getElem?_eq_getElem (by omega)
    obtain ⟨ps, e, w⟩ := step i d _ T hd hb h1 (lt_of_at ha)
    have tk : bs.take (i + 1) = bs.take i ++ [bs[i]] := by rw [List.take_add_one, hb]; rfl
    refine ⟨ps, e, fun z => Bool.noConfusion z, fun _ => wpE_mono w (fun z V ⟨k2, q3⟩ => ⟨k2 _ _ ha, ?_, ?_⟩) fun _ _ _ q => q⟩
    · exact (h1.trans k2).setN (Nat.le_refl _)
    · intro U kU
      have kV : KpX S.length V U := KpX.set.trans kU
      rw [tk]
      exact (h2 U (k2.x.trans kV)).app (.cons (q3 U kV) .nil)
  · have h2 := h2 T (KpX.refl _ _)
    rw [hlen, List.take_length] at h2
    exact fin _ T a h1 rfl ha h2
theorem cut_drop (l : List D) (k : Nat) (h : k ≤ l.length) : cutD l (some (k : Int)) none = l.drop k := by
  unfold cutD
  rw [HT.sIx_none, HT.sIx_nat, Nat.min_eq_left h, List.take_of_length_le (by simp)]
theorem All2.eq_map {α β : Type} {f : β → α} {as : List α} {bs : List β} (h : All2 (fun z b => z = f b) as bs) : as = bs.map f := by
  induction h with
  | nil => rfl
  | cons r _ ih => rw [List.map_cons, ← ih, r]
end Q

namespace Q
open PySem PySem.Spec PyProof.Rows L2
/-! ### views of ints and of tuples of ints -/
theorem py_ints {S : Store} {n : Nat} : ∀ v : List Int, (v.map D.int).mapM (toPy S n) = some (v.map PyData.int)
  | [] => rfl
  | a :: v => by rw [List.map_cons, List.map_cons]; exact mapM_cons_of (by cases n <;> rfl) (py_ints v)
theorem eqv_ints : ∀ a b : List Int, PyData.eqvAll (a.map .int) (b.map .int) = decide (a = b)
  | [], [] => by simp [PyData.eqvAll]
  | [], b :: bs => by simp [PyData.eqvAll]
  | a :: as, [] => by simp [PyData.eqvAll]
  | a :: as, b :: bs => by
    rw [List.map_cons, List.map_cons, PyData.eqvAll, eqv_ints as bs]
    show ((a == b) && decide (as = bs)) = _
    by_cases h : a = b <;> by_cases h2 : as = bs <;> simp [h, h2]
theorem depth_vecs : ∀ a : List (List Int), PyData.depthAll (a.map fun v => .tuple (v.map .int)) ≤ 1
  | [] => by simp [PyData.depthAll]
  | a :: as => by rw [List.map_cons]; have := depth_vecs as; simp [PyData.depthAll, PyData.depth, PySem.W.depth_ints]; omega
theorem py_vecs {S : Store} : ∀ v : List (List Int), (v.map fun w => D.tup (w.map D.int)).mapM (toPy S 63) = some (v.map fun w => PyData.tuple (w.map PyData.int))
  | [] => rfl
  | a :: v => by
    rw [List.map_cons, List.map_cons]
    refine mapM_cons_of ?_ (py_vecs v)
    show ((a.map D.int).mapM (toPy S 62)).map PyData.tuple = _
    rw [py_ints]
    rfl
/-! lists of numbers -/
end Q

namespace Q
open PySem PySem.Spec PyProof.Rows L2
/-! ### own classes, in what is wished -/
section
variable {en : En} {S : Store} {E : EK} {P : D → Store → Prop} {N : En → Store → Prop} {R : D → Store → Prop} {B C : En → Store → Prop} {X : XKs} {Cs : List Addr} {f nm : Str} {A : Addr} {fs : List (Str × D)} {k n : Nat} {M : MF} {dds : List D} {m : MA} {mo mv : ME}
theorem insD_at (h : S[k]? = some (.ins A fs)) : insD (.ref k) S = some (A, fs) := by
  unfold insD
  dsimp only
  rw [h]
theorem wpO_fld {v : D} (h : S[k]? = some (.ins A fs)) (hC : A ∈ Cs) (hf : fs.lookup f = some v) (q : P v S) : wpO (gFld Cs f (.ref k) S) P := by
  refine wpO_of ?_ q
  unfold gFld
  rw [insD_at h, Option.bind_some]
  dsimp only
  rw [if_pos hC, hf]
  rfl
theorem wpS_setF (h : wpE (mv en S) (fun z T => wpE (mo en T) (fun d U => ∃ k A fs, d = .ref k ∧ U[k]? = some (.ins A fs) ∧ A ∈ Cs ∧ fs.length < 1000 ∧ N en (U.set k (.ins A (putFD f z fs)))) (fun c n T => X c n en T)) (fun c n T => X c n en T)) : wpS (mSetF Cs f mo mv en S) N R B C X :=
  wpS_stm (wpE_mono h (fun z T q => wpS_stm (wpE_mono q (fun d U ⟨k, A, fs, e, h1, h2, h3, q⟩ => by
    subst e
    unfold setFD
    dsimp only
    rw [h1]
    dsimp only
    rw [if_pos ⟨h2, h3⟩]
    exact q) fun _ _ _ q => q)) fun _ _ _ q => q)
theorem wpE_mth (h : wpE (mo en S) (fun d T => ∃ k A fs, d = .ref k ∧ T[k]? = some (.ins A fs) ∧ A ∈ Cs ∧ fs.lookup nm = none ∧ wpE (m en T) (fun ds U => ((d :: ds) ++ dds).length = n ∧ wpE (M ((d :: ds) ++ dds) U) P E) E) E) : wpE (mMth Cs nm M n dds mo m en S) P E := by
  refine wpE_bind (wpE_mono h (fun d T ⟨k, A, fs, e, h1, h2, h3, q⟩ => ?_) fun _ _ _ q => q)
  subst e
  rw [insD_at h1]
  dsimp only
  rw [if_pos ⟨h2, h3⟩]
  exact wpE_bind (wpE_mono q (fun ds U q => by rw [if_pos q.1]; exact q.2) fun _ _ _ q => q)
theorem wpE_make (h : wpE (m en S) (fun ds T => (D.ref T.length :: (ds ++ dds)).length = n ∧ wpE (M (.ref T.length :: (ds ++ dds)) (T ++ [.ins A []])) (fun z U => z = .non ∧ P (.ref T.length) U) E) E) : wpE (mMake A M n dds m en S) P E := by
  refine wpE_bind (wpE_mono h (fun ds T q => ?_) fun _ _ _ q => q)
  unfold mkR
  rw [if_pos q.1]
  exact wpE_bind (wpE_mono q.2 (fun z U ⟨e, q⟩ => by subst e; exact q) fun _ _ _ q => q)
theorem wpE_calm {α : Type} {r : Res α} {Q : α → Store → Prop} {E' : EK} (h : wpE r Q (fun _ _ _ => False)) : wpE r.calm Q E' := by
  cases r with
  | ok a S => exact h
  | err c n S => exact h.elim
  | bad => exact h.elim
theorem wpE_prop (h : wpE (mo en S) (fun d T => ∃ k A fs, d = .ref k ∧ T[k]? = some (.ins A fs) ∧ A ∈ Cs ∧ wpE (M [d] T) P (fun _ _ _ => False)) E) : wpE (mProp Cs M mo en S) P E := by
  refine wpE_bind (wpE_mono h (fun d T ⟨k, A, fs, e, h1, h2, q⟩ => ?_) fun _ _ _ q => q)
  subst e
  rw [insD_at h1]
  dsimp only
  rw [if_pos h2]
  exact wpE_calm q
end
end Q

namespace Q
open PySem PySem.Spec PyProof.Rows L2
/-! ### tables of sets with up to 2048 slots: the way of a hash meets all of them -/
def MaskB (m : Nat) : Prop := m ∈ [7, 31, 127, 511, 2047]
def walkB (m : Nat) : Nat → Nat → Nat → Nat
  | 0, _, acc => acc
  | n + 1, x, acc => walkB m n ((x * 5 + 1) % (m + 1)) (acc ||| (1 <<< x))
def lastB (m : Nat) : Nat → Nat → Nat
  | 0, x => x
  | n + 1, x => lastB m n ((x * 5 + 1) % (m + 1))
theorem lcg_add (m i a : Nat) : ∀ k, lcgI m i (a + k) = lcgI m (lcgI m i a) k
  | 0 => rfl
  | k + 1 => congrArg (fun z => (z * 5 + 1) % (m + 1)) (lcg_add m i a k)
theorem lcg_shift (m x k : Nat) : lcgI m ((x * 5 + 1) % (m + 1)) k = lcgI m x (k + 1) := by
  rw [Nat.add_comm k 1, lcg_add]; rfl
theorem lastB_is (m : Nat) : ∀ n x, lastB m n x = lcgI m x n
  | 0, _ => rfl
  | n + 1, x => (lastB_is m n _).trans (lcg_shift m x n)
theorem walkB_bit (m j : Nat) : ∀ (n x acc : Nat), (walkB m n x acc).testBit j = true → acc.testBit j = true ∨ ∃ k, k < n ∧ lcgI m x k = j
  | 0, _, _, h => .inl h
  | n + 1, x, acc, h => by
    rcases walkB_bit m j n _ _ h with q | ⟨k, hk, e⟩
    · rw [Nat.testBit_or, Bool.or_eq_true] at q
      rcases q with q | q
      · exact .inl q
      · refine .inr ⟨0, Nat.succ_pos n, ?_⟩
        rw [Nat.one_shiftLeft, Nat.testBit_two_pow] at q
        exact of_decide_eq_true q
    · exact .inr ⟨k + 1, Nat.succ_lt_succ hk, (lcg_shift m x k).symm.trans e⟩
theorem full7 : walkB 7 8 0 0 = 2 ^ 8 - 1 ∧ lastB 7 8 0 = 0 := by decide +kernel
theorem full31 : walkB 31 32 0 0 = 2 ^ 32 - 1 ∧ lastB 31 32 0 = 0 := by decide +kernel
theorem full127 : walkB 127 128 0 0 = 2 ^ 128 - 1 ∧ lastB 127 128 0 = 0 := by decide +kernel
theorem full511 : walkB 511 512 0 0 = 2 ^ 512 - 1 ∧ lastB 511 512 0 = 0 := by decide +kernel
theorem full2047 : walkB 2047 2048 0 0 = 2 ^ 2048 - 1 ∧ lastB 2047 2048 0 = 0 := by decide +kernel
theorem maskB_cases {m : Nat} (h : MaskB m) : m = 7 ∨ m = 31 ∨ m = 127 ∨ m = 511 ∨ m = 2047 := by
  unfold MaskB at h
  simpa using h
theorem maskB_full {m : Nat} (h : MaskB m) : walkB m (m + 1) 0 0 = 2 ^ (m + 1) - 1 ∧ lastB m (m + 1) 0 = 0 := by
  rcases maskB_cases h with rfl | rfl | rfl | rfl | rfl
  · exact full7
  · exact full31
  · exact full127
  · exact full511
  · exact full2047
theorem cyc0 {m : Nat} (h : MaskB m) {j : Nat} (hj : j ≤ m) : ∃ k, k ≤ m ∧ lcgI m 0 k = j := by
  have b : (walkB m (m + 1) 0 0).testBit j = true := by
    rw [(maskB_full h).1, Nat.testBit_two_pow_sub_one]
    exact decide_eq_true (Nat.lt_succ_of_le hj)
  rcases walkB_bit m j _ _ _ b with q | ⟨k, hk, e⟩
  · rw [Nat.zero_testBit] at q; cases q
  · exact ⟨k, Nat.le_of_lt_succ hk, e⟩
theorem cycI {m : Nat} (h : MaskB m) {i j : Nat} (hi : i ≤ m) (hj : j ≤ m) : ∃ k, k ≤ m ∧ lcgI m i k = j := by
  obtain ⟨a, ha, rfl⟩ := cyc0 h hi
  obtain ⟨b, hb, rfl⟩ := cyc0 h hj
  by_cases c : a ≤ b
  · refine ⟨b - a, by omega, ?_⟩
    rw [← lcg_add, Nat.add_sub_cancel' c]
  · refine ⟨m + 1 + b - a, by omega, ?_⟩
    rw [← lcg_add, show a + (m + 1 + b - a) = m + 1 + b by omega, lcg_add, ← lastB_is m (m + 1) 0, (maskB_full h).2]
theorem run_at {m : Nat} (hm : MaskB m) (h : Int) {j : Nat} (hj : j ≤ m) : ∃ n, n ≤ m + 12 ∧ runI m (SetTable.bits h) n = j := by
  obtain ⟨k, hk, e⟩ := cycI hm (runI_le m (SetTable.bits h) 12) hj
  exact ⟨12 + k, by omega, (runI_tail (bits_lt h) k).trans e⟩
theorem way_in {m : Nat} {h : Int} {k : Nat} : way m h k ≤ m := by
  have z : (nth m (runAt m (SetTable.bits h % (m + 1)) (SetTable.bits h)) k).j + (nth m (runAt m (SetTable.bits h % (m + 1)) (SetTable.bits h)) k).more ≤ m := by
    refine nth_in k _ ?_
    have hi : SetTable.bits h % (m + 1) ≤ m := Nat.le_of_lt_succ (Nat.mod_lt _ (Nat.succ_pos _))
    have := runEnd_bd (m := m) hi
    show SetTable.bits h % (m + 1) + (SetTable.runEnd m (SetTable.bits h % (m + 1)) - SetTable.bits h % (m + 1)) ≤ m
    omega
  exact Nat.le_trans (Nat.le_add_right _ _) z
/-! ### a table laid anew -/
structure Own2 (m : Nat) (hs : List Int) (owner : Array (Option Nat)) (ps : List Nat) : Prop where
  sz : owner.size = m + 1
  len : ps.length = hs.length
  bd : ∀ j ∈ ps, j ≤ m
  who : ∀ j k, j ≤ m → (oAt owner j = some k ↔ ps[k]? = some j)
  ways : ∀ (k : Nat) (h : Int) (j : Nat), hs[k]? = some h → ps[k]? = some j → ∃ K, way m h K = j ∧ ∀ k', k' < K → way m h k' ∈ ps
theorem Own2.none_iff {m : Nat} {hs : List Int} {owner : Array (Option Nat)} {ps : List Nat} (W : Own2 m hs owner ps) {j : Nat} (hj : j ≤ m) : oAt owner j = none ↔ j ∉ ps := by
  constructor
  · intro e hm
    obtain ⟨k, hk, e2⟩ := List.getElem_of_mem hm
    have z := (W.who j k hj).mpr (by rw [List.getElem?_eq_getElem hk, e2])
    rw [e] at z
    cases z
  · intro hn
    cases q : oAt owner j with
    | none => rfl
    | some k => exact absurd (List.mem_of_getElem? ((W.who j k hj).mp q)) hn
theorem Own2.put {m : Nat} (hm : MaskB m) {hs : List Int} {owner : Array (Option Nat)} {ps : List Nat} (W : Own2 m hs owner ps) (hl : hs.length ≤ m) (h : Int) :
    ∃ j, SetTable.layClean.free m owner (SetTable.turns m) (SetTable.bits h % (m + 1)) (SetTable.bits h) = some j ∧ Own2 m (hs ++ [h]) (owner.setIfInBounds j (some hs.length)) (ps ++ [j]) := by
  obtain ⟨j0, hj0, hn0⟩ := st_missing ps (m + 1) (by rw [W.len]; omega)
  obtain ⟨n, hn, en⟩ := run_at hm h (Nat.le_of_lt_succ hj0)
  have eo : way m h (off m (SetTable.bits h % (m + 1)) (SetTable.bits h) n) = j0 := by
    show (nth m (runAt m (SetTable.bits h % (m + 1)) (SetTable.bits h)) (off m (SetTable.bits h % (m + 1)) (SetTable.bits h) n)).j = j0
    rw [nth_off, itL_run]
    exact en
  obtain ⟨K, a, b, c⟩ := st_least (p := fun k => way m h k ∉ ps) _ (by rw [eo]; exact hn0)
  have c : ∀ k, k < K → way m h k ∈ ps := fun k hk => Classical.byContradiction fun z => c k hk z
  have ob : oAt owner (way m h K) = none := (W.none_iff way_in).mpr b
  have fr := free_spec m owner (SetTable.turns m) n (SetTable.bits h % (m + 1)) (SetTable.bits h) K (by unfold SetTable.turns; omega) a
    (fun k hk => by
      have z : oAt owner (way m h k) ≠ none := fun e => (W.none_iff way_in).mp e (c k hk)
      have z2 : oAt owner (nth m (runAt m (SetTable.bits h % (m + 1)) (SetTable.bits h)) k).j ≠ none := z
      cases q : oAt owner (nth m (runAt m (SetTable.bits h % (m + 1)) (SetTable.bits h)) k).j with
      | none => exact absurd q z2
      | some _ => rfl)
    (by have z : oAt owner (nth m (runAt m (SetTable.bits h % (m + 1)) (SetTable.bits h)) K).j = none := ob
        rw [z]; rfl)
  refine ⟨way m h K, fr, ?_, ?_, ?_, ?_, ?_⟩
  · rw [Array.size_setIfInBounds]; exact W.sz
  · rw [List.length_append, List.length_append, W.len]; rfl
  · intro j hj
    rcases List.mem_append.mp hj with z | z
    · exact W.bd j z
    · rw [List.mem_singleton.mp z]; exact way_in
  · intro j k hj
    have hsz : way m h K < owner.size := by rw [W.sz]; exact Nat.lt_succ_of_le way_in
    by_cases e : j = way m h K
    · rw [e, oAt_set_self _ hsz]
      constructor
      · intro q
        cases q
        rw [← W.len, List.getElem?_append_right (Nat.le_refl _), Nat.sub_self]; rfl
      · intro q
        by_cases hk : k < ps.length
        · rw [List.getElem?_append_left hk] at q
          exact absurd (List.mem_of_getElem? q) b
        · have : k < (ps ++ [way m h K]).length := (List.getElem?_eq_some_iff.mp q).1
          rw [List.length_append, List.length_singleton] at this
          have : k = hs.length := by have := W.len; omega
          rw [this]
    · rw [oAt_set_ne _ e, W.who j k hj]
      by_cases hk : k < ps.length
      · rw [List.getElem?_append_left hk]
      · rw [List.getElem?_eq_none (Nat.le_of_not_lt hk), List.getElem?_append_right (Nat.le_of_not_lt hk)]
        constructor
        · intro q; cases q
        · intro q
          have := List.mem_of_getElem? q
          exact absurd (List.mem_singleton.mp this) e
  · intro k h' j e1 e2
    by_cases hk : k < hs.length
    · rw [List.getElem?_append_left hk] at e1
      rw [List.getElem?_append_left (by rw [W.len]; exact hk)] at e2
      obtain ⟨K', x, y⟩ := W.ways k h' j e1 e2
      exact ⟨K', x, fun k' hk' => List.mem_append_left _ (y k' hk')⟩
    · rw [List.getElem?_append_right (Nat.le_of_not_lt hk)] at e1
      rw [List.getElem?_append_right (by rw [W.len]; exact Nat.le_of_not_lt hk)] at e2
      have a1 := List.mem_singleton.mp (List.mem_of_getElem? e1)
      have a2 := List.mem_singleton.mp (List.mem_of_getElem? e2)
      exact ⟨K, by rw [a1, a2], fun k' hk' => List.mem_append_left _ (by rw [a1]; exact c k' hk')⟩
end Q

namespace Q
open PySem PySem.Spec PyProof.Rows L2
/-! ### a set of tuples of ints: its rows are slot, address, key -/
abbrev SRow := Nat × Addr × List Int
def cellOf (P : Program) (w : World) (p : SRow) : Int × Value := (thash P w p.2.2, .ref p.2.1)
structure SetR (P : Program) (w : World) (h : Heap) (a : Addr) (L : List SRow) (es : Array (Int × Value)) (ep : Nat) (t : SetTable) : Prop where
  ob : ∃ o, h.get? a = some o ∧ o.ExactSet ∧ o.data = .set es ep t
  cells : es.toList = L.map (cellOf P w)
  slots : t.place.toList = L.map (·.1)
  ris : Ris (L.map (·.1))
  dm : t.dummies = #[]
  mb : MaskB t.mask
  bd : ∀ p ∈ L, p.1 ≤ t.mask
  ways : ∀ p ∈ L, ∃ k, way t.mask (thash P w p.2.2) k = p.1 ∧ ∀ k', k' < k → way t.mask (thash P w p.2.2) k' ∈ L.map (·.1)
  nd : (L.map (·.2.2)).Nodup
  tup : ∀ p ∈ L, IsT P w h p.2.2 p.2.1
  plain : t.plain = true
  led : w.params.followText "set-order" = true ∨ t.led = true
  room : L.length * 5 < t.mask * 3
section
variable {P : Program} {w : World} {A : Around} {E : Value → Shared → Prop} {s : Shared} {a : Addr} {L : List SRow} {es : Array (Int × Value)} {ep : Nat} {t : SetTable}
end
end Q

namespace Q
open PySem PySem.Spec PyProof.Rows L2
section
variable {P : Program} {w : World} {A : Around} {E : Value → Shared → Prop} {s : Shared} {a : Addr} {L : List SRow} {es : Array (Int × Value)} {ep : Nat} {t : SetTable}
theorem SetR.kept {h h' : Heap} (R : SetR P w h a L es ep t) (k : ∀ b o, h.get? b = some o → h'.get? b = some o) : SetR P w h' a L es ep t :=
  { R with ob := let ⟨o, ho, r⟩ := R.ob; ⟨o, k _ _ ho, r⟩, tup := fun p hp => isT_keep (R.tup p hp) fun b o e => k b o e }
end
end Q

namespace Q
open PySem PySem.Spec PyProof.Rows L2
abbrev TupH (H : Hp) (a : Addr) (k : List Int) : Prop := H a = some (.tup (k.map V.int))
/-! ### a set that is filled: a raw record aside -/
def SetX (P : Program) (w : World) (h : Heap) (a : Addr) (L : List SRow) : Prop := (∃ o, h.get? a = some o ∧ ∀ v, o.data ≠ .cell v) ∧
  ∃ es ep t, ∀ h' : Heap, (∀ o, h.get? a = some o → h'.get? a = some o) → (∀ p ∈ L, IsT P w h' p.2.2 p.2.1) → SetR P w h' a L es ep t
theorem SetR.x {P : Program} {w : World} {h : Heap} {a : Addr} {L : List SRow} {es : Array (Int × Value)} {ep : Nat} {t : SetTable} (R : SetR P w h a L es ep t) : SetX P w h a L :=
  ⟨let ⟨o, ho, _, hd⟩ := R.ob; ⟨o, ho, fun v e => by rw [hd] at e; cases e⟩, es, ep, t, fun h' k ht => { R with ob := let ⟨o, ho, r⟩ := R.ob; ⟨o, k o ho, r⟩, tup := ht }⟩
theorem SetX.at' {P : Program} {w : World} {h h' : Heap} {a : Addr} {L : List SRow} (S : SetX P w h a L) (k : ∀ o, h.get? a = some o → h'.get? a = some o) : SetX P w h' a L := by
  obtain ⟨⟨o, ho, hc⟩, es, ep, t, f⟩ := S
  exact ⟨⟨o, k o ho, hc⟩, es, ep, t, fun h2 k2 ht => f h2 (fun o' e => by rw [ho] at e; cases e; exact k2 o (k o ho)) ht⟩
/-- what was put in, in order, and the rows that stand there -/
structure Has (L : List SRow) (acc : List (Addr × List Int)) : Prop where
  sub : ∀ p ∈ L, p.2 ∈ acc
  all : ∀ q ∈ acc, q.2 ∈ L.map (·.2.2)
  nd : (L.map (·.2.2)).Nodup
/-- the different ones -/
def nub {α : Type} [DecidableEq α] : List α → List α
  | [] => []
  | k :: l => k :: (nub l).filter fun x => decide (x ≠ k)
theorem Has.nil : Has [] [] := ⟨fun p h => (by cases h), fun p h => (by cases h), .nil⟩
/-- one more is put in -/
theorem Has.step {L L' : List SRow} {acc : List (Addr × List Int)} {t : Addr} {k : List Int} (hs : Has L acc) (c1 : k ∈ L.map (·.2.2) → L' = L) (c2 : k ∉ L.map (·.2.2) → (L'.map (·.2)).Perm ((t, k) :: L.map (·.2))) (nd : (L'.map (·.2.2)).Nodup) : Has L' (acc ++ [(t, k)]) := by
  by_cases hk : k ∈ L.map (·.2.2)
  · rw [c1 hk]
    refine ⟨fun p hp => List.mem_append_left _ (hs.sub p hp), fun q hq => ?_, hs.nd⟩
    rcases List.mem_append.mp hq with z | z
    · exact hs.all q z
    · rw [List.mem_singleton.mp z]; exact hk
  · have pm := c2 hk
    refine ⟨fun p hp => ?_, fun q hq => ?_, nd⟩
    · have : p.2 ∈ (t, k) :: L.map (·.2) := pm.mem_iff.mp (List.mem_map.mpr ⟨p, hp, rfl⟩)
      rcases List.mem_cons.mp this with z | z
      · rw [z]; exact List.mem_append_right _ List.mem_cons_self
      · obtain ⟨p', hp', e⟩ := List.mem_map.mp z
        rw [← e]; exact List.mem_append_left _ (hs.sub p' hp')
    · have pk : (L'.map (·.2.2)).Perm (k :: L.map (·.2.2)) := by
        have := pm.map Prod.snd
        rwa [List.map_map, List.map_cons, List.map_map] at this
      rcases List.mem_append.mp hq with z | z
      · exact pk.mem_iff.mpr (List.mem_cons_of_mem _ (hs.all q z))
      · rw [List.mem_singleton.mp z]; exact pk.mem_iff.mpr List.mem_cons_self
section
variable {X : Cx}
end
end Q

namespace Q
open PySem PySem.Spec PyProof.Rows L2
/-! ### a set of tuples of ints, sorted -/
section
variable {X : Cx}
/-- a value that is a tuple of these ints -/
def IsK (K : PySem.W.Frag) (H : Hp) (v : Value) (k : List Int) : Prop := ∃ t, v = .ref t ∧ TupH H t k
/-- items that are tuples of these ints -/
def VKs (K : PySem.W.Frag) (H : Hp) : List (List Int) → List V → Prop
  | [], ys => ys = []
  | k :: ks, ys => ∃ t zs, ys = .ref t :: zs ∧ TupH H t k ∧ VKs K H ks zs
theorem VKs.of {K : PySem.W.Frag} {H : Hp} : ∀ {vs : List Value} {ks : List (List Int)}, PySem.W.EachIs (IsK K H) vs ks → ∃ ys, Vals ys vs ∧ VKs K H ks ys
  | _, _, .nil => ⟨[], .nil, rfl⟩
  | _, _, .cons ⟨t, e, hq⟩ r => by
    obtain ⟨ys, a, b⟩ := VKs.of r
    subst e
    exact ⟨.ref t :: ys, .cons rfl a, t, ys, rfl, hq, b⟩
theorem VKs.length {K : PySem.W.Frag} {H : Hp} : ∀ {ks : List (List Int)} {ys : List V}, VKs K H ks ys → ks.length = ys.length
  | [], _, h => by rw [show _ = [] from h]; rfl
  | k :: ks, _, ⟨t, zs, e, _, h⟩ => by rw [e, List.length_cons, List.length_cons, VKs.length h]
def tupD (k : List Int) : D := .tup (k.map D.int)
end
end Q

namespace Q
open PySem PySem.Spec PyProof.Rows L2
variable [Gh : Ghost] [Gr : Grd]
/-! ### sets in the mirror: their keys, in the order of adding -/
section
variable {X : Cx} {k : Nat} {e : Expr} {me : ME} {mt : MT} {pos : Pos} {tg iter : Expr} {mi : MIt} {g : Pat}
/-! sorted(a set) -/
end
end Q

namespace Q
open PySem PySem.Spec PyProof.Rows L2
section
variable {P : Program} {w : World} {A : Around} {E : Value → Shared → Prop} {s : Shared}
end
end Q

namespace Q
open PySem PySem.Spec PyProof.Rows L2
variable [Gh : Ghost]
/-! ### dicts whose keys are tuples of ints -/
def inlK (k : List Int) : List Key := k.map Sum.inl
theorem inlK_inj : ∀ {a b : List Int}, inlK a = inlK b → a = b
  | [], [], _ => rfl
  | [], _ :: _, h => by cases h
  | _ :: _, [], h => by cases h
  | x :: a, y :: b, h => by
    unfold inlK at h
    rw [List.map_cons, List.map_cons] at h
    obtain ⟨h1, h2⟩ := List.cons.inj h
    rw [Sum.inl.inj h1, inlK_inj h2]
def getT (kvs : List (List Int × D)) (k : List Int) : Option D := (kvs.find? fun p => decide (p.1 = k)).map (·.2)
def putT (kvs : List (List Int × D)) (k : List Int) (z : D) : List (List Int × D) := if (kvs.any fun p => decide (p.1 = k)) = true then kvs.map (fun p => if p.1 = k then (p.1, z) else p) else kvs ++ [(k, z)]
section
variable {K : PySem.W.Frag} {r : List Addr} {H : Hp} {k : List Int}
theorem KTR.length : ∀ {ds : List (List Int × D)} {vs : List (List Key × V)}, KTR K r H ds vs → ds.length = vs.length
  | [], _, h => by rw [show _ = [] from h]; rfl
  | p :: ds, _, ⟨v, ws, e, _, h⟩ => by rw [e, List.length_cons, List.length_cons, KTR.length h]
theorem KTR.any : ∀ {ds : List (List Int × D)} {vs : List (List Key × V)}, KTR K r H ds vs → (ds.any fun p => decide (p.1 = k)) = vs.any fun p => decide (p.1 = inlK k)
  | [], _, h => by rw [show _ = [] from h]; rfl
  | p :: ds, _, ⟨v, ws, e, _, h⟩ => by
    rw [e, List.any_cons, List.any_cons, KTR.any h]
    refine congrArg (· || _) ?_
    by_cases c : p.1 = k
    · rw [decide_eq_true c, decide_eq_true (show (p.1.map Sum.inl : List Key) = inlK k by rw [c]; rfl)]
    · rw [decide_eq_false c, decide_eq_false (show ¬ ((p.1.map Sum.inl : List Key), v).1 = inlK k from fun z => c (inlK_inj z))]
theorem KTR.get : ∀ {ds : List (List Int × D)} {vs : List (List Key × V)}, KTR K r H ds vs → (getT ds k = none ∧ valV vs (inlK k) = none) ∨ ∃ d v, getT ds k = some d ∧ valV vs (inlK k) = some v ∧ VR K r H d v
  | [], _, h => by rw [show _ = [] from h]; exact .inl ⟨rfl, rfl⟩
  | p :: ds, _, ⟨v, ws, e, hv, h⟩ => by
    subst e
    unfold getT
    rw [List.find?_cons]
    by_cases c : p.1 = k
    · rw [decide_eq_true c]
      refine .inr ⟨p.2, v, rfl, ?_, hv⟩
      exact valV_pos (show (p.1.map Sum.inl : List Key) = inlK k by rw [c]; rfl)
    · rw [decide_eq_false c]
      rw [valV_neg (show ¬ ((p.1.map Sum.inl : List Key), v).1 = inlK k from fun z => c (inlK_inj z))]
      exact KTR.get h
theorem KTR.repl {d : D} {v : V} (hd : VR K r H d v) : ∀ {ds : List (List Int × D)} {vs : List (List Key × V)}, KTR K r H ds vs → KTR K r H (ds.map fun p => if p.1 = k then (p.1, d) else p) (vs.map fun p => if p.1 = inlK k then (p.1, v) else p)
  | [], _, h => by rw [show _ = [] from h]; rfl
  | p :: ds, _, ⟨w, ws, e, hw, h⟩ => by
    subst e
    rw [List.map_cons, List.map_cons]
    by_cases c : p.1 = k
    · rw [if_pos c, if_pos (show (p.1.map Sum.inl : List Key) = inlK k by rw [c]; rfl)]
      exact ⟨v, _, rfl, hd, KTR.repl hd h⟩
    · rw [if_neg c, if_neg (show ¬ ((p.1.map Sum.inl : List Key), w).1 = inlK k from fun z => c (inlK_inj z))]
      exact ⟨w, _, rfl, hw, KTR.repl hd h⟩
theorem KTR.snoc {d : D} {v : V} (hd : VR K r H d v) : ∀ {ds : List (List Int × D)} {vs : List (List Key × V)}, KTR K r H ds vs → KTR K r H (ds ++ [(k, d)]) (vs ++ [(inlK k, v)])
  | [], _, h => by rw [show _ = [] from h]; exact ⟨v, [], rfl, hd, rfl⟩
  | p :: ds, _, ⟨w, ws, e, hw, h⟩ => by subst e; exact ⟨w, _, rfl, hw, KTR.snoc hd h⟩
theorem KTR.put {d : D} {v : V} (hd : VR K r H d v) {ds : List (List Int × D)} {vs : List (List Key × V)} (h : KTR K r H ds vs) : KTR K r H (putT ds k d) (putK vs (inlK k) v) := by
  unfold putT putK
  rw [h.any]
  split
  · exact h.repl hd
  · exact h.snoc hd
end
/-! a dict whose rows are known, locked or not -/
/-! in, not in: dicts too -/
section
variable {X : Cx} {k : Nat}
/-! {key: value for .. in ..} -/
end
end Q

namespace Q
open PySem PySem.Spec PyProof.Rows L2
variable [Gh : Ghost] [Gr : Grd]
/-! ### set(a list) -/
section
variable {X : Cx} {k : Nat} {e : Expr} {pos p : Pos} {x : Str}
/-! len(a set) -/
/-! {key: value for .. in ..}, the keys tuples of ints -/
/-! sorted(..): also of a dict -/
end
end Q

namespace Q
open PySem PySem.Spec PyProof.Rows L2
variable [Gh : Ghost] [Gr : Grd]
/-! ### C.m(..), m a static method -/
section
variable {X : Cx} {k : Nat} {f p C : Addr} {fd : FuncData} {ps : List Str} {M : MF} {dvs : List V} {dds : List D} {dsv : List Value} {x y nm : Str} {pc pos apos p1 px : Pos} {e : Expr} {es : List Expr} {m : MA} {mo : ME} {mc : Value}
/-! ### len(e) -/
/-! ### isinstance(e, C): objects of several own classes -/
end
/-! ### what is known of a class's place among the others -/
theorem all_nil {α : Type} {P : α → Prop} : ∀ c ∈ ([] : List α), P c := fun _ h => nomatch h
theorem all_cons {α : Type} {P : α → Prop} {a : α} {l : List α} (h : P a) (t : ∀ c ∈ l, P c) : ∀ c ∈ a :: l, P c := fun c hc => by
  rcases List.mem_cons.mp hc with e | e
  · rw [e]; exact h
  · exact t c e
/-! ### a def that asks super(), by its text -/
open NdefX
structure SupFn (K : PySem.W.Frag) (x qual : Str) (params : Arguments) (body : List Stmt) (scope : Scope) (f : Addr) (fd : FuncData) (cda cc D : Addr) (file : Str) : Prop where
  ex : ∃ oc od kV doc pm an ct osl, fd = PySem.W.fnX x qual params body scope (clsCl cc) .none kV doc pm an (.ref cda) ct ∧ K.lookup f = some ⟨oc, od, .func fd, osl⟩
  cd : PySem.W.codeIn K (.ref cda) qual = true
  cell : ∃ cl cld csl, K.lookup cc = some ⟨cl, cld, .cell (some (.ref D)), csl⟩
  code : ∃ ccl cdd vs ccs tf, K.lookup cda = some ⟨ccl, cdd, .fields vs, ccs⟩ ∧ vs[2]? = some (.str file tf)
theorem SupFn.bindsN {K : PySem.W.Frag} {x qual : Str} {params : Arguments} {body : List Stmt} {scope : Scope} {f : Addr} {fd : FuncData} {cda cc D : Addr} {file : Str} {ps : List Str} (S : SupFn K x qual params body scope f fd cda cc D file)
    (h : ∀ (kV doc pm : Value) (an : Option Addr) (ct : Value) (us : List Value), us.length = ps.length → bindArgs (PySem.W.fnX x qual params body scope (clsCl cc) .none kV doc pm an (.ref cda) ct) ⟨us, []⟩ = pure (ps.zip us)) : L2.Binds K fd ps [] := by
  obtain ⟨oc, od, kV, doc, pm, an, ct, osl, rfl, _⟩ := S.ex
  exact .all (h kV doc pm an ct)
section
variable {P : Program} {w : World} {K : PySem.W.Frag} {mg : Str → Option Value} {base : Heap}
end
end Q

namespace Q
open PySem PySem.Spec PyProof.Rows L2
variable [Gh : Ghost]
/-! ### zip of three -/
def ItZ3 (J1 J2 J3 : It) : It :=
  ⟨fun i H => J1.go i H ∧ J2.go i H ∧ J3.go i H, fun i H v H' => ∃ T x y q, J1.yld i H x H ∧ J2.yld i H y H ∧ J3.yld i H q H ∧ H T = none ∧ v = .ref T ∧ H' = upd H T (.tup [x, y, q]), fun i H => J1.stop i H ∨ (J1.go i H ∧ J2.stop i H) ∨ (J1.go i H ∧ J2.go i H ∧ J3.stop i H)⟩
abbrev Zst3 (z TI TO i1 i2 i3 : Addr) (tn1 tn2 tn3 : Nat → Heap → Prop) (i : Nat) (h : Heap) : Prop :=
  (∃ t f, IsZ h z TI TO t f) ∧ IsTupOf3 h TI (.ref i1) (.ref i2) (.ref i3) ∧ (∃ a b c, IsTupOf3 h TO a b c) ∧ tn1 i h ∧ tn2 i h ∧ tn3 i h
section
variable {P : Program} {w : World} {K : PySem.W.Frag} {J1 J2 J3 : It} {fp1 fp2 fp3 : List Addr} {z TI TO i1 i2 i3 : Addr} {tn1 tn2 tn3 : Nat → Heap → Prop}
end
end Q

namespace Q
open PySem PySem.Spec PyProof.Rows L2
variable [Gh : Ghost]
section
variable {P : Program} {w : World} {K : PySem.W.Frag} {J1 J2 J3 : It} {fp1 fp2 fp3 : List Addr} {z TI TO i1 i2 i3 : Addr} {tn1 tn2 tn3 : Nat → Heap → Prop}
theorem Zst3.keep {i : Nat} {h h' : Heap} (D1 : Drw P w K J1 fp1 i1 tn1) (D2 : Drw P w K J2 fp2 i2 tn2) (D3 : Drw P w K J3 fp3 i3 tn3) (st : Zst3 z TI TO i1 i2 i3 tn1 tn2 tn3 i h) (k : ∀ b ∈ z :: TI :: TO :: (fp1 ++ fp2 ++ fp3), ∀ o, h.get? b = some o → h'.get? b = some o) : Zst3 z TI TO i1 i2 i3 tn1 tn2 tn3 i h' := by
  obtain ⟨⟨t, f, hz⟩, hTI, ⟨a, b, c, hTO⟩, st1, st2, st3⟩ := st
  exact ⟨⟨t, f, k _ (by simp) _ hz⟩, k _ (by simp) _ hTI, ⟨a, b, c, k _ (by simp) _ hTO⟩, D1.keep i _ _ st1 fun c hc o q => k c (by simp [hc]) o q, D2.keep i _ _ st2 fun c hc o q => k c (by simp [hc]) o q, D3.keep i _ _ st3 fun c hc o q => k c (by simp [hc]) o q⟩
theorem Zst3.obj {i : Nat} {h : Heap} (D1 : Drw P w K J1 fp1 i1 tn1) (D2 : Drw P w K J2 fp2 i2 tn2) (D3 : Drw P w K J3 fp3 i3 tn3) (st : Zst3 z TI TO i1 i2 i3 tn1 tn2 tn3 i h) : ∀ b ∈ z :: TI :: TO :: (fp1 ++ fp2 ++ fp3), ∃ o, h.get? b = some o ∧ ∀ v, o.data ≠ .cell v := by
  obtain ⟨⟨t, f, hz⟩, hTI, ⟨a, c, d, hTO⟩, st1, st2, st3⟩ := st
  intro b hb
  have hb : b = z ∨ b = TI ∨ b = TO ∨ b ∈ fp1 ∨ b ∈ fp2 ∨ b ∈ fp3 := by simpa [or_assoc] using hb
  rcases hb with q | q | q | q | q | q
  · rw [q]; exact ⟨_, hz, fun v q => nomatch q⟩
  · rw [q]; exact ⟨_, hTI, fun v q => nomatch q⟩
  · rw [q]; exact ⟨_, hTO, fun v q => nomatch q⟩
  · exact D1.obj i h st1 b q
  · exact D2.obj i h st2 b q
  · exact D3.obj i h st3 b q
variable {r : List Addr} {H : Hp} {m1 m2 m3 : MI}
theorem WkR.zip3 (k1 : WkR K r H m1 J1) (k2 : WkR K r H m2 J2) (k3 : WkR K r H m3 J3) : WkR K r H (.zip3 m1 m2 m3) (ItZ3 J1 J2 J3) := by
  intro r' H' S i s o
  obtain ⟨a1, a2⟩ := k1 r' H' S i s o
  obtain ⟨b1, b2⟩ := k2 r' H' S i s o
  obtain ⟨c1, c2⟩ := k3 r' H' S i s o
  unfold nextM
  cases q1 : nextM m1 i S with
  | none => exact ⟨fun z => (nomatch z), fun _ z => (nomatch z)⟩
  | some od =>
    cases od with
    | none => exact ⟨fun _ => .inl (a1 q1), fun _ z => (nomatch z)⟩
    | some d =>
      obtain ⟨g1, y1⟩ := a2 d q1
      cases q2 : nextM m2 i S with
      | none => exact ⟨fun z => (nomatch z), fun _ z => (nomatch z)⟩
      | some oe =>
        cases oe with
        | none => exact ⟨fun _ => .inr (.inl ⟨g1, b1 q2⟩), fun _ z => (nomatch z)⟩
        | some e =>
          obtain ⟨g2, y2⟩ := b2 e q2
          cases q3 : nextM m3 i S with
          | none => exact ⟨fun z => (nomatch z), fun _ z => (nomatch z)⟩
          | some og =>
            cases og with
            | none => exact ⟨fun _ => .inr (.inr ⟨g1, g2, c1 q3⟩), fun _ z => (nomatch z)⟩
            | some g =>
              obtain ⟨g3, y3⟩ := c2 g q3
              refine ⟨fun z => (nomatch z), fun f z => ⟨⟨g1, g2, g3⟩, fun x H2 y => ?_⟩⟩
              cases z
              obtain ⟨T, x1, x2, x3, u1, u2, u3, hT, rfl, rfl⟩ := y
              obtain ⟨_, _, v1⟩ := y1 x1 H' u1
              obtain ⟨_, _, v2⟩ := y2 x2 H' u2
              obtain ⟨_, _, v3⟩ := y3 x3 H' u3
              exact ⟨Stp.loose hT, o.loose hT, T, [x1, x2, x3], rfl, upd_same, x1, [x2, x3], rfl, v1.mono (Stp.loose hT), x2, [x3], rfl, v2.mono (Stp.loose hT), x3, [], rfl, v3.mono (Stp.loose hT), rfl⟩
end
section
variable {X : Cx} {pins : List (Addr × Obj)} {σ : L2.St} {r : List Addr} {H : Hp} {s : Shared} {S : Store}
end
section
variable {X : Cx} {k : Nat} {a b c : Expr} {tg : Expr} {m : MA} {p pos : Pos}
end
end Q

namespace Q
open PySem PySem.Spec PyProof.Rows L2
variable [Gh : Ghost]
/-! ### a, b, c = x, y, z with three plain local names -/
def mPar3 (i j l : Nat) (m : MA) : MS := fun en S => (m en S).stm en fun ds S1 => match ds with
  | [d, e, f] => .nx (((en.set i (some d)).set j (some e)).set l (some f)) S1
  | _ => .bad
section
variable {X : Cx} {a b c : Expr} {pos : Pos}
end
end Q

namespace Q
open PySem PySem.Spec PyProof.Rows L2
/-! ### wp rules: three at once, sets, dicts of tuples, super() -/
section
variable {en : En} {S : Store} {E : EK} {N : En → Store → Prop} {R : D → Store → Prop} {B C : En → Store → Prop} {X : XKs} {P : D → Store → Prop}
theorem wpS_par3 {i j l : Nat} {m : MA} (h : wpE (m en S) (fun ds T => ∃ d e f, ds = [d, e, f] ∧ N (((en.set i (some d)).set j (some e)).set l (some f)) T) (fun c n T => X c n en T)) : wpS (mPar3 i j l m en S) N R B C X :=
  wpS_stm (wpE_mono h (fun ds T ⟨d, e, f, hd, q⟩ => by subst hd; exact q) fun _ _ _ q => q)
/-- the dict that has True at the given keys -/
def trueT (ks : List (List Int)) (acc : List (List Int × D)) : List (List Int × D) := ks.foldl (fun a k => putT a k (.bl true)) acc
end
end Q

namespace Q
open PySem PySem.Spec PyProof.Rows L2
variable [Gh : Ghost] [Gr : Grd]
/-! ### tuple * 1 is the tuple itself -/
theorem times1 (l : Addr) (items : Array Value) (n : Nat) (dd : Option Addr) (sl : Array (Option Value)) (u : Tok) :
    Meets (Builtin.«tuple.__mul__» ⟨[.ref l, .int 1 u], []⟩) (fun _ R s => s.heap.get? l = some { cls := .type "tuple", dict := dd, data := .seq items n, slots := sl } ∧ R (.ok (.ret (Value.ref l))) s) :=
  .of_wp fun prog w A R s h => by
    obtain ⟨hp, g, d, tk, os⟩ := s
    obtain ⟨hl, h⟩ := h
    have f1 := AutoSeq1.idx_int
    have c1 : (items.isEmpty || ((1 : Int) == 1)) = true := Bool.or_true _
    wp_walk using wpAny_loadPart' hl
    repeat (first
      | (refine wpAny_ite_true (decide_eq_true c1) ?_; wp_walk using wpAny_loadPart' hl)
      | (refine wpAny_ite_true c1 ?_; wp_walk using wpAny_loadPart' hl))
    exact ⟨_, rfl, h⟩
section
variable {X : Cx} {k : Nat}
theorem op_times1 : OpR X (binaryOp .Mult) (fun x y H Q => ∃ l xs, x = .ref l ∧ y = .int 1 ∧ SqT X.K H l xs ∧ Q (.ref l) H) := by
  intro pins s σ H x y v u Q I rx ry h
  obtain ⟨l, xs, rfl, rfl, hT, q⟩ := h
  cases rx
  obtain ⟨t, rfl⟩ := ry
  obtain ⟨its, r, ⟨⟨cls, dd, data, sl⟩, ho, hc, n, hd⟩, hs⟩ := I.tuple hT
  simp only at hc hd
  subst hc hd
  refine wpAny_binaryOp_repeat_ref (T := "tuple") (U := "int") (by decide) ⟨_, ho, rfl⟩ (fun s' => typeIs_int s' 1 t) noFill_tuple_mul F.fills_int_mul F.slot_int_rmul repeat_tuple F.slot_int_index.lookup
    (call_meets F.slot_int_rmul (typeIs_int s 1 t) F.entry_int_rmul (F.args_int_rmul_2 _ _) (int_rmul_tuple 1 t l its.toArray n dd sl)
      ⟨ho, rfl, ⟨_, ho, rfl⟩, call_meets F.slot_tuple_mul ⟨_, ho, rfl⟩ F.entry_tuple_mul (F.args_tuple_mul_2 _ _) (times1 l its.toArray n dd sl t) ⟨ho, ?_⟩⟩)
  exact ⟨.ref l, H, I, rfl, q⟩
def gMulT : G2 := fun d e S => match d, e with
  | .tup xs, .int k => if k = 1 then some (.tup xs, S) else gMul (.tup xs) (.int k) S
  | d, e => gMul d e S
theorem o_mulT : OpD X (binaryOp .Mult) gMulT := by
  refine ⟨?_⟩
  intro d e z x y r H S S' Q q k1 k2 ro ed
  unfold gMulT at q
  split at q
  · split at q
    · rename_i he
      subst he
      cases q
      obtain ⟨a, vs, rfl, ha, hv⟩ := k1
      exact wO_of op_times1 ⟨a, vs, rfl, k2, sqT_of ha, ed.flat ro ⟨a, vs, rfl, ha, hv⟩⟩
    · exact o_mul.run _ _ z x y r H S S' Q q k1 k2 ro ed
  · exact o_mul.run _ _ z x y r H S S' Q q k1 k2 ro ed
end
/-! ### max(t), min(t) of a tuple of ints -/
section
variable {prog : Program} {w : World} {A : Around} {E : Value → Shared → Prop} {s : Shared} {l : Addr} {its : List Value} {ns : List Int} {Q : Value → Shared → Prop}
def tupIt (l : Addr) : Obj := { cls := .type "tuple_iterator", data := .fields #[.ref l, .int 0 0] }
/-- the iterator over a tuple, laid at the heap's end -/
theorem tup_iter (hl : s.heap.IsTuple l its.toArray) (R : Value → Shared → Prop)
    (h : (s.heap.push (tupIt l)).IsTupleIter s.heap.objs.size l 0 → (s.heap.push (tupIt l)).IsTuple l its.toArray → (∀ b ∈ [s.heap.objs.size, l], b < (s.heap.push (tupIt l)).objs.size) → l ≠ s.heap.objs.size → R (.ref s.heap.objs.size) { s with heap := s.heap.push (tupIt l) }) :
    wpAny (model prog w) A (pyIter (.ref l)) R E s := by
  have lt : l < s.heap.objs.size := let ⟨_, e, _⟩ := hl; Heap.lt_size e
  refine wpAny_pyIter_tuple hl (h ⟨_, Heap.get?_push_size _ rfl, rfl, rfl⟩ (hl.push _) (fun b hb => ?_) (Nat.ne_of_lt lt))
  rw [Heap.size_push]
  simp only [List.mem_cons, List.not_mem_nil, or_false] at hb
  rcases hb with rfl | rfl
  · exact Nat.lt_succ_self _
  · exact Nat.lt_succ_of_lt lt
theorem it_gone {h' : Heap} {o : Obj} (hk : ∀ b q, b ∉ [s.heap.objs.size] → (s.heap.push o).get? b = some q → h'.get? b = some q) (b : Addr) (q : Obj) (e : s.heap.get? b = some q) : h'.get? b = some q :=
  hk b q (fun hm => Nat.lt_irrefl _ (by have := Heap.lt_size e; rw [List.mem_singleton.mp hm] at this; exact this)) (Heap.get?_push_of_some _ e)
theorem rows_at (hi : IntsAre its ns) : ∃ xs : Array (Int × Tok), its.toArray = intItems xs ∧ xs.toList.map (·.1) = ns := by
  obtain ⟨xs, e⟩ := hi.allInts.items
  refine ⟨xs, e, ?_⟩
  rw [← nums_intItems, ← e]
  exact hi.numsOf
theorem maxTup (hh : A.handled = none) (hl : s.heap.IsTuple l its.toArray) (hi : IntsAre its ns) (hne : 0 < ns.length)
    (h : ∀ h' tk M t', (∀ b o, s.heap.get? b = some o → h'.get? b = some o) → M ∈ ns → (∀ a, a ∈ ns → a ≤ M) → Q (.int M t') { s with heap := h', toks := tk }) : wpAny (model prog w) A (call (.builtin "max") [.ref l]) Q E s := by
  obtain ⟨xs, e, hn⟩ := rows_at hi
  have hs : 0 < xs.size := by rw [← hn] at hne; simpa using hne
  have hz : its.toArray.size = xs.size := by rw [e]; simp [intItems]
  refine call_max_walk (tup_iter hl _ fun st ht fp ne => ⟨_, _, _, _, _, _, _, rfl, Walks.tuple (A := A.in1) hh _ l ne its.toArray, ⟨st, ht⟩, fp, by rw [hz]; exact hs, (CmpOf.ints_gt (numAt xs) fun i v hv => intItems_at (e ▸ hv)), fun v h' tk hv hk => ?_⟩)
  rw [hz] at hv
  obtain ⟨t, rfl⟩ := intItems_at (e ▸ hv)
  obtain ⟨h1, h2⟩ := argBest_gt (numAt xs) (xs.size - 1)
  refine h h' tk _ t (it_gone hk) ?_ fun a ha => ?_
  · rw [numAt_eq, ← hn]
    exact PySem.getD_mem (by rw [List.length_map, Array.length_toList]; omega)
  · rw [← hn] at ha
    obtain ⟨j, hj, rfl⟩ := mem_getD ha
    rw [List.length_map, Array.length_toList] at hj
    rw [← numAt_eq]
    exact h2 j (by omega)
theorem minTup (hh : A.handled = none) (hl : s.heap.IsTuple l its.toArray) (hi : IntsAre its ns) (hne : 0 < ns.length)
    (h : ∀ h' tk M t', (∀ b o, s.heap.get? b = some o → h'.get? b = some o) → M ∈ ns → (∀ a, a ∈ ns → M ≤ a) → Q (.int M t') { s with heap := h', toks := tk }) : wpAny (model prog w) A (call (.builtin "min") [.ref l]) Q E s := by
  obtain ⟨xs, e, hn⟩ := rows_at hi
  have hs : 0 < xs.size := by rw [← hn] at hne; simpa using hne
  have hz : its.toArray.size = xs.size := by rw [e]; simp [intItems]
  refine call_min_walk (tup_iter hl _ fun st ht fp ne => ⟨_, _, _, _, _, _, _, rfl, Walks.tuple (A := A.in1) hh _ l ne its.toArray, ⟨st, ht⟩, fp, by rw [hz]; exact hs, (CmpOf.ints_lt (numAt xs) fun i v hv => intItems_at (e ▸ hv)), fun v h' tk hv hk => ?_⟩)
  rw [hz] at hv
  obtain ⟨t, rfl⟩ := intItems_at (e ▸ hv)
  obtain ⟨h1, h2⟩ := argBest_lt (numAt xs) (xs.size - 1)
  refine h h' tk _ t (it_gone hk) ?_ fun a ha => ?_
  · rw [numAt_eq, ← hn]
    exact PySem.getD_mem (by rw [List.length_map, Array.length_toList]; omega)
  · rw [← hn] at ha
    obtain ⟨j, hj, rfl⟩ := mem_getD ha
    rw [List.length_map, Array.length_toList] at hj
    rw [← numAt_eq]
    exact h2 j (by omega)
end
def gMaxS : G1 := fun d S => match d with
  | .tup ds => (intsD ds).bind fun ns => ns.max?.map fun m => (.int m, S)
  | d => gMax1 d S
def gMinS : G1 := fun d S => match d with
  | .tup ds => (intsD ds).bind fun ns => ns.min?.map fun m => (.int m, S)
  | d => gMin1 d S
section
variable {X : Cx} {k : Nat}
theorem cr_maxT (hc : X.calm = true) : CallR X (.builtin "max") (fun vs H Q => ∃ (a : Addr) (ns : List Int), vs = [V.ref a] ∧ SqT X.K H a (ns.map V.int) ∧ 0 < ns.length ∧ ∀ m, m ∈ ns → (∀ y, y ∈ ns → y ≤ m) → Q (.int m) H) := by
  intro pins s σ H vs us Q I r h
  obtain ⟨a, ns, rfl, hs, hne, q⟩ := h
  obtain ⟨its, rv, hl, _⟩ := I.tuple hs
  rw [Vals.ref1 r]
  exact maxTup (I.ok.hd hc) hl rv.ints hne fun h' tk m t' hk h1 h2 => ⟨.int _, H, I.kept hk, ⟨_, rfl⟩, q m h1 h2⟩
theorem cr_minT (hc : X.calm = true) : CallR X (.builtin "min") (fun vs H Q => ∃ (a : Addr) (ns : List Int), vs = [V.ref a] ∧ SqT X.K H a (ns.map V.int) ∧ 0 < ns.length ∧ ∀ m, m ∈ ns → (∀ y, y ∈ ns → m ≤ y) → Q (.int m) H) := by
  intro pins s σ H vs us Q I r h
  obtain ⟨a, ns, rfl, hs, hne, q⟩ := h
  obtain ⟨its, rv, hl, _⟩ := I.tuple hs
  rw [Vals.ref1 r]
  exact minTup (I.ok.hd hc) hl rv.ints hne fun h' tk m t' hk h1 h2 => ⟨.int _, H, I.kept hk, ⟨_, rfl⟩, q m h1 h2⟩
theorem c_maxS (g : Gd X k) : Call1D X (.builtin "max") gMaxS := by
  refine ⟨?_⟩
  intro d z x r H S S' Q q k ro ed
  unfold gMaxS at q
  split at q
  · obtain ⟨ns, h2, q⟩ := Option.bind_eq_some_iff.mp q
    obtain ⟨m, h3, q⟩ := Option.map_eq_some_iff.mp q
    cases q
    obtain ⟨p, vs, rfl, hs, hv⟩ := k
    rw [intsD_ok h2 hv] at hs
    obtain ⟨hm, hb⟩ := List.max?_eq_some_iff.mp h3
    exact wC_of (cr_maxT g.calm) ⟨p, ns, rfl, sqT_of hs, List.length_pos_of_mem hm, fun m' h1 h2 => by
      cases Int.le_antisymm (hb _ h1) (h2 _ hm)
      exact ed.flat ro rfl⟩
  · exact (c_max1 g).run _ z x r H S S' Q q k ro ed
theorem c_minS (g : Gd X k) : Call1D X (.builtin "min") gMinS := by
  refine ⟨?_⟩
  intro d z x r H S S' Q q k ro ed
  unfold gMinS at q
  split at q
  · obtain ⟨ns, h2, q⟩ := Option.bind_eq_some_iff.mp q
    obtain ⟨m, h3, q⟩ := Option.map_eq_some_iff.mp q
    cases q
    obtain ⟨p, vs, rfl, hs, hv⟩ := k
    rw [intsD_ok h2 hv] at hs
    obtain ⟨hm, hb⟩ := List.min?_eq_some_iff.mp h3
    exact wC_of (cr_minT g.calm) ⟨p, ns, rfl, sqT_of hs, List.length_pos_of_mem hm, fun m' h1 h2 => by
      cases Int.le_antisymm (h2 _ hm) (hb _ h1)
      exact ed.flat ro rfl⟩
  · exact (c_min1 g).run _ z x r H S S' Q q k ro ed
/-! ### str(t) of a tuple -/
end
end Q

namespace Q
open PySem PySem.Spec PyProof.Rows L2
variable [Gh : Ghost]
/-! ### C.f, a constant of the class C (an int) -/
section
variable {X : Cx} {C : Addr} {x f : Str} {i : Int} {p pos : Pos}
end
end Q

namespace Q
open PySem PySem.Spec PyProof.Rows L2
variable [Gh : Ghost]
/-! ### [e for a in x if .. for b in y if ..] -/
section
variable {X : Cx} {k : Nat} {e : Expr} {me : ME} {mt mt1 : MT} {pos : Pos} {tg iter tg1 iter1 : Expr} {mi m1 : MIt} {g g1 : Pat}
end
end Q

namespace Q
open PySem PySem.Spec PyProof.Rows L2
variable [Gh : Ghost]
/-! ### o[i] += e (a list of ints), del o[i] -/
section
variable {X : Cx} {k : Nat} {o i v : Expr} {mo mi mv : ME} {pos tpos : Pos} {op : Operator} {f : Int → Int → Int}
end
end Q

namespace Q
open PySem PySem.Spec PyProof.Rows L2
variable [Gh : Ghost]
/-! ### o.f, a constant (an int) of o's class -/
def gCon (Cs : List Addr) (f : Str) (i : Int) : G1 := fun d S => (insD d S).bind fun p => if p.1 ∈ Cs ∧ p.2.lookup f = none then some (.int i, S) else none
section
variable {X : Cx} {e : Expr} {f : Str} {i : Int} {pos : Pos} {m : ME} {Cs : List Addr}
theorem e_icon (hC : ∀ C ∈ Cs, ∃ u, Con X.K C f (.int i) u) (ha : SndE X e m) (hb : attributeBase e f X.env (eval e X.env) = eval e X.env := by rfl) : SndE X (.Attribute e f pos) (m1 (gCon Cs f i) m) := by
  refine ⟨fun W tk en σ r H S Q er ro dn => ?_⟩
  refine wE_of (pe_con (pe_wE X e) hb) ?_
  refine ha.run W tk en σ r H S _ er ro (Dn.imp (Dn.bind dn) fun x H1 ⟨d, S1, r1, e1, s1, o1, k1, d1⟩ => ?_)
  obtain ⟨z, S', g1, ed⟩ := dn_ofOpt d1
  obtain ⟨⟨C, fs⟩, h1, g1⟩ := Option.bind_eq_some_iff.mp g1
  by_cases hm : C ∈ Cs ∧ fs.lookup f = none
  · rw [if_pos hm] at g1
    cases g1
    obtain ⟨u, con⟩ := hC C hm.1
    obtain ⟨n, a, dx, vs, rfl, hS, hr, rfl, hH, hf, ow⟩ := insD_ok o1 k1 h1
    exact ⟨a, C, dx, vs, .int i, u, rfl, hH, ow.cl, con, hf.no hm.2, ed.flat o1 rfl⟩
  · rw [if_neg hm] at g1; cases g1
end
end Q

namespace Q
open PySem PySem.Spec PyProof.Rows L2
variable [Gh : Ghost] [Gr : Grd]
/-! ### generator methods: what they hand out; list(o.m()) -/
abbrev MG := List D → Store → Res (List D)
section
variable {P : Program} {w : World} {K : PySem.W.Frag} {mg : Str → Option Value} {base : Heap}
end
section
variable {X : Cx} {k : Nat} {f : Addr} {fd : FuncData} {ps : List Str} {M : MG} {Cs : List Addr} {mo : ME} {o : Expr} {nm x : Str} {apos pos pos' p : Pos} {mgen : En → Store → Res (List D)} {dsv : List Value}
end
end Q

namespace Q
open PySem PySem.Spec PyProof.Rows L2
/-! ### generators, in what is wished -/
section
variable {en : En} {S : Store} {E : EK} {P : D → Store → Prop} {Cs : List Addr} {nm : Str} {M : MG} {mo : ME} {m : MA}
end
end Q

namespace Q
open PySem PySem.Spec PyProof.Rows L2
variable [Gh : Ghost]
/-! ### isinstance(e, (A, B)) in a suite -/
section
variable {Y : Cx} {a C d : Addr} {oe : Obj} {pn : List (Addr × Obj)} {od : Option Addr} {n : Option Nat} {B newId initId : String} {bb : List Value} {x : Str} {p pos p3 : Pos} {px : Nat} {e t1 t2 : Expr} {m : ME}
end
end Q

namespace Q
open PySem PySem.Spec PyProof.Rows L2
variable [Gh : Ghost]
/-! ### zip(*rows) begins: an iterator for each row -/
/-! ### a step of it -/
abbrev ZstN (z TI TO : Addr) (prs : List (Addr × Addr)) (i : Nat) (h : Heap) : Prop :=
  (∃ t f, IsZ h z TI TO t f) ∧ h.get? TI = some { cls := .type "tuple", data := .seq (prs.map fun p => Value.ref p.1).toArray } ∧
  (∃ outs : List Value, outs.length = prs.length ∧ h.get? TO = some { cls := .type "tuple", data := .seq outs.toArray }) ∧ ∀ p ∈ prs, h.IsTupleIter p.1 p.2 i
section
variable {P : Program} {w : World} {K : PySem.W.Frag} {z TI TO : Addr} {prs : List (Addr × Addr)}
/-- what holds while the rows are drawn from, one behind the other; dn: done, td: still to do; h₁: the heap ahead -/
structure MidN (X : Cx) (K : PySem.W.Frag) (prs : List (Addr × Addr)) (pins : List (Addr × Obj)) (σ : L2.St) (H : Hp) (far : List Addr) (h₁ : Heap) (i : Nat) (dn td : List (Addr × Addr)) (us : List Value) (vs : List V) (s' : Shared) : Prop where
  e : prs = dn ++ td
  rv : Vals vs us
  len : vs.length = dn.length
  col : ∀ (k : Nat) (p : Addr × Addr), dn[k]? = some p → ∃ x, vs[k]? = some x ∧ ∀ l, SqT K H p.2 l → l[i]? = some x
  inv : Inv X pins σ H s'
  new : ∀ p ∈ dn, s'.heap.IsTupleIter p.1 p.2 (i + 1)
  old : ∀ p ∈ td, s'.heap.IsTupleIter p.1 p.2 i
  sz : h₁.objs.size ≤ s'.heap.objs.size
  fr : ∀ b o, b ∉ far → h₁.get? b = some o → s'.heap.get? b = some o
theorem tit_keep {it a : Addr} {i : Nat} {h h' : Heap} (st : h.IsTupleIter it a i) (k : ∀ o, h.get? it = some o → h'.get? it = some o) : h'.IsTupleIter it a i := st.at fun o e => k o e
/-- one more row is drawn from -/
theorem MidN.go {X : Cx} (hP : X.prog = P) (hw : X.w = w) (hK : X.K = K) {pins : List (Addr × Obj)} {σ : L2.St} {H : Hp} {far : List Addr} {h₁ : Heap} {i : Nat} {dn td : List (Addr × Addr)} {p : Addr × Addr} {us : List Value} {vs : List V} {s' : Shared} {A : Around} {Q : Value → Shared → Prop} {E : Value → Shared → Prop}
    (M : MidN X K prs pins σ H far h₁ i dn (p :: td) us vs s') (nd : (prs.map (·.1)).Nodup) (hfar : ∀ q ∈ prs, q.1 ∈ far) (hf : ∀ q ∈ prs, FpOk X pins H q.1) (hg : ∃ xs x, SqT K H p.2 xs ∧ xs[i]? = some x)
    (h : ∀ (u : Value) (v : V) (s2 : Shared), MidN X K prs pins σ H far h₁ i (dn ++ [p]) td (us ++ [u]) (vs ++ [v]) s2 → (∀ b o, b ≠ p.1 → s'.heap.get? b = some o → s2.heap.get? b = some o) → Q u s2) : wpAny (model P w) A (Builtin.SmallTypes.nextOf (.ref p.1)) Q E s' := by
  have hp : p ∈ prs := by rw [M.e]; simp
  rw [M.e, List.map_append, List.map_cons] at nd
  obtain ⟨_, nd2, nd3⟩ := List.nodup_append.mp nd
  obtain ⟨nd4, _⟩ := List.nodup_cons.mp nd2
  have ne1 : ∀ q ∈ dn, q.1 ≠ p.1 := fun q hq => nd3 q.1 (List.mem_map.mpr ⟨q, hq, rfl⟩) p.1 List.mem_cons_self
  have ne2 : ∀ q ∈ td, q.1 ≠ p.1 := fun q hq e => nd4 (by rw [← e]; exact List.mem_map.mpr ⟨q, hq, rfl⟩)
  refine (drw_tuple (P := P) (w := w) (K := K) p.2 p.1).item X hP hw hK A i pins s' σ H Q E M.inv (fun b hb => by rw [List.mem_singleton.mp hb]; exact hf p hp) (M.old p List.mem_cons_self) hg fun u v s2 H' I2 r2 y2 n2 z2 _ k2 => ?_
  obtain ⟨eH, yv⟩ := y2
  subst eH
  have k2' : ∀ b o, b ≠ p.1 → s'.heap.get? b = some o → s2.heap.get? b = some o := fun b o hb e => k2 b o (by simpa using hb) e
  refine h u v s2 ⟨by rw [M.e]; simp, M.rv.append (.cons r2 .nil), by rw [List.length_append, List.length_append, M.len]; rfl, fun k q hq => ?_, I2, fun q hq => ?_, fun q hq => tit_keep (M.old q (List.mem_cons_of_mem _ hq)) fun o e => k2' _ o (ne2 q hq) e, Nat.le_trans M.sz z2, fun b o hb e => k2' b o (fun z => hb (by rw [z]; exact hfar p hp)) (M.fr b o hb e)⟩ k2'
  · by_cases hk : k < dn.length
    · rw [List.getElem?_append_left hk] at hq
      obtain ⟨x, h1, h2⟩ := M.col k q hq
      exact ⟨x, by rw [List.getElem?_append_left (by rw [M.len]; exact hk)]; exact h1, h2⟩
    · have : k = dn.length := by have := (List.getElem?_eq_some_iff.mp hq).1; rw [List.length_append, List.length_singleton] at this; omega
      subst this
      rw [List.getElem?_append_right (Nat.le_refl _), Nat.sub_self] at hq
      cases hq
      exact ⟨v, by rw [← M.len, List.getElem?_append_right (Nat.le_refl _), Nat.sub_self]; rfl, yv⟩
  · rcases List.mem_append.mp hq with q1 | q1
    · exact tit_keep (M.new q q1) fun o e => k2' _ o (ne1 q q1) e
    · rw [List.mem_singleton.mp q1]; exact n2
end
end Q

namespace Q
open PySem PySem.Spec PyProof.Rows L2
variable [Gh : Ghost]
section
variable {P : Program} {w : World} {K : PySem.W.Frag} {z TI TO : Addr} {prs : List (Addr × Addr)}
end
end Q

namespace Q
open PySem PySem.Spec PyProof.Rows L2
variable [Gh : Ghost]
section
variable {P : Program} {w : World} {K : PySem.W.Frag} {z TI TO : Addr} {prs : List (Addr × Addr)}
theorem ZstN.keep {i : Nat} {h h' : Heap} (st : ZstN z TI TO prs i h) (k : ∀ b ∈ z :: TI :: TO :: prs.map (·.1), ∀ o, h.get? b = some o → h'.get? b = some o) : ZstN z TI TO prs i h' := by
  obtain ⟨⟨t, f, hz⟩, hTI, ⟨outs, hol, hTO⟩, st1⟩ := st
  exact ⟨⟨t, f, k _ (by simp) _ hz⟩, k _ (by simp) _ hTI, ⟨outs, hol, k _ (by simp) _ hTO⟩, fun q hq => tit_keep (st1 q hq) fun o e => k _ (by simp only [List.mem_cons]; exact .inr (.inr (.inr (List.mem_map.mpr ⟨q, hq, rfl⟩)))) o e⟩
theorem ZstN.obj {i : Nat} {h : Heap} (st : ZstN z TI TO prs i h) : ∀ b ∈ z :: TI :: TO :: prs.map (·.1), ∃ o, h.get? b = some o ∧ ∀ v, o.data ≠ .cell v := by
  obtain ⟨⟨t, f, hz⟩, hTI, ⟨outs, hol, hTO⟩, st1⟩ := st
  intro b hb
  simp only [List.mem_cons] at hb
  rcases hb with q | q | q | q
  · rw [q]; exact ⟨_, hz, fun v q => nomatch q⟩
  · rw [q]; exact ⟨_, hTI, fun v q => nomatch q⟩
  · rw [q]; exact ⟨_, hTO, fun v q => nomatch q⟩
  · obtain ⟨p, hp, rfl⟩ := List.mem_map.mp q
    obtain ⟨o, e, _, d⟩ := st1 p hp
    exact ⟨o, e, fun v z => by rw [d] at z; cases z⟩
end
/-! ### the columns -/
section
variable {X : Cx} {pins : List (Addr × Obj)} {σ : L2.St} {r : List Addr} {H : Hp} {s : Shared} {S : Store}
/-- rows that are told: their addresses, their items -/
def RowsAt (K : PySem.W.Frag) (r : List Addr) (H : Hp) (rows : List (List D)) (as : List Addr) : Prop := rows.length = as.length ∧ ∀ (k : Nat) (xs : List D), rows[k]? = some xs → ∃ a vs, as[k]? = some a ∧ H a = some (.tup vs) ∧ VRs K r H xs vs
theorem RowsAt.mono {K : PySem.W.Frag} {r r' : List Addr} {H H' : Hp} {rows : List (List D)} {as : List Addr} (h : RowsAt K r H rows as) (s : Stp r H r' H') : RowsAt K r' H' rows as := ⟨h.1, fun k xs e => let ⟨a, vs, h1, h2, h3⟩ := h.2 k xs e; ⟨a, vs, h1, s.tup _ _ h2, h3.mono s⟩⟩
end
end Q

namespace Q
open PySem PySem.Spec PyProof.Rows L2
variable [Gh : Ghost]
/-! ### the columns are what the zip of the rows gives -/
section
variable {K : PySem.W.Frag} {r : List Addr} {H : Hp}
end
/-! ### zip(*rows) is made -/
section
variable {X : Cx} {pins : List (Addr × Obj)} {σ : L2.St} {r : List Addr} {H : Hp} {s : Shared} {S : Store}
end
/-! ### the call with a star; zip(*e) -/
section
variable {M : Model} {A : Around} {E : Value → Shared → Prop} {s : Shared} {env : Env}
end
section
variable {X : Cx} {k : Nat} {e : Expr} {me : ME} {p p2 p3 pos pos2 : Pos}
end
end Q

namespace Q
open PySem PySem.Spec PyProof.Rows L2
variable [Gh : Ghost] [Gr : Grd]
/-! ### list(zip(*e)) -/
section
variable {X : Cx} {pins : List (Addr × Obj)} {σ : L2.St} {S : Store} {cs : List D} {L z TI TO : Addr} {prs : List (Addr × Addr)} {r0 : List Addr} {H0 : Hp}
/-- what holds ahead of the turn i of the loop that fills the list at L -/
structure Drn (X : Cx) (pins : List (Addr × Obj)) (σ : L2.St) (S : Store) (cs : List D) (L z TI TO : Addr) (prs : List (Addr × Addr)) (r0 : List Addr) (H0 : Hp) (i : Nat) (r : List Addr) (H : Hp) (s : Shared) : Prop where
  le : i ≤ cs.length
  stp : Stp r0 H0 r H
  inv : Inv X pins σ H s
  ro : ROk X.K r H (S ++ [.lst (cs.take i)])
  at_ : r[S.length]? = some L
  fp : ∀ b ∈ z :: TI :: TO :: prs.map (·.1), FpOk X pins H b
  st : ZstN z TI TO prs i s.heap
theorem Drn.lst {i : Nat} {r : List Addr} {H : Hp} {s : Shared} (d : Drn X pins σ S cs L z TI TO prs r0 H0 i r H s) : ∃ vs, H L = some (.lst vs) ∧ VRs X.K r H (cs.take i) vs := d.ro.ob S.length (.lst (cs.take i)) L (by rw [List.getElem?_append_right (Nat.le_refl _), Nat.sub_self]; rfl) d.at_
end
end Q

namespace Q
open PySem PySem.Spec PyProof.Rows L2
/-! ### the loop of any comprehension's clause, by what stands behind its tests -/
section
variable {prog : Program} {w : World} {A : Around} {F : Result → Shared → Prop} {s : Shared} {env : Env} {elt : Expr} {gens : List Comprehension} {scope : Scope} {pos : Pos} {d : Nat} {it acc : Value}
end
section
variable {prog : Program} {w : World} {A : Around} {env : Env} {elt t0 i0 t1 i1 : Expr} {fs0 fs1 : List Expr} {scope : Scope} {pos : Pos} {it acc : Value}
end
end Q

namespace Q
open PySem PySem.Spec PyProof.Rows L2
section
variable {X : Cx}
end
end Q

namespace Q
open PySem PySem.Spec PyProof.Rows L2
variable [Gh : Ghost] [Gr : Grd]
/-! ### {e for a in x if .. for b in y if ..} -/
section
variable {X : Cx} {k : Nat} {e : Expr} {me : ME} {mt mt1 : MT} {pos : Pos} {tg iter tg1 iter1 : Expr} {mi m1 : MIt} {g g1 : Pat}
end
end Q

namespace Q
open PySem PySem.Spec PyProof.Rows L2
variable [Gh : Ghost]
/-! ### tuple * 0 is a new empty tuple -/
section
variable {X : Cx} {k : Nat}
end
end Q

namespace Q
open PySem PySem.Spec PyProof.Rows L2
variable [Gh : Ghost] [Gr : Grd]
/-! ### dict(l): a list of pairs whose keys are tuples of ints -/
section
variable {X : Cx} {k : Nat} {K : PySem.W.Frag} {r : List Addr} {H : Hp} {S : Store}
end
end Q

namespace Q
open PySem PySem.Spec PyProof.Rows L2
variable [Gh : Ghost] [Gr : Grd]
/-! ### tuple(range(n)) -/
/-! ### xs.clear() -/
/-! ### sum of a tuple -/
section
variable {prog : Program} {w : World} {A : Around} {E : Value → Shared → Prop} {s : Shared} {l : Addr} {its : List Value} {ns : List Int} {Q : Value → Shared → Prop}
end
section
variable {X : Cx} {k : Nat}
end
end Q

namespace Q
open PySem PySem.Spec PyProof.Rows L2
variable [Gh : Ghost] [Gr : Grd]
/-! ### C.m(..), m a classmethod: the class comes first -/
section
variable {X : Cx} {k : Nat} {f p C : Addr} {fd : FuncData} {ps : List Str} {M : MF} {dvs : List V} {dds : List D} {dsv : List Value} {x y nm : Str} {pc pos apos p1 px : Pos} {e : Expr} {es : List Expr} {m : MA} {mo : ME} {mc : Value}
end
end Q

namespace Q
open PySem PySem.Spec PyProof.Rows L2
variable [Gh : Ghost] [Gr : Grd]
/-! ### cls(..), cls a class that stands in a name -/
section
variable {X : Cx} {k : Nat} {ps : List Str} {x : Str} {p pos : Pos} {e : Expr} {es : List Expr} {m : MA} {mo : ME} {L : List (Addr × MF)}
end
end Q

namespace Q
open PySem PySem.Spec PyProof.Rows L2
variable [Gh : Ghost] [Gr : Grd]
/-! ### dicts whose keys are tuples of ints: new, o[k], o[k] = v, o.get(k), o.get(k, v) -/
section
variable {X : Cx} {k : Nat} {a b c o i value : Expr} {ma mb mc mo mv mi : ME} {pos pos' apos cpos : Pos}
end
end Q

namespace Q
open PySem PySem.Spec PyProof.Rows L2
variable [Gh : Ghost] [Gr : Grd]
/-! ### f(k = e, ..): a def called by names alone, in any order -/
section
variable {X : Cx} {k : Nat} {f : Addr} {fd : FuncData} {ps ks : List Str} {ixs : List Nat} {M : MF} {x : Str} {p pos : Pos} {kws : List Keyword} {m : MA}
end
end Q

namespace Q
open PySem PySem.Spec PyProof.Rows L2
/-! ### dicts with tuple keys, defs called by names: in what is wished -/
section
variable {en : En} {S : Store} {E : EK} {P : D → Store → Prop} {N : En → Store → Prop} {R : D → Store → Prop} {B C : En → Store → Prop} {X : XKs}
end
end Q

namespace Q
open PySem PySem.Spec PyProof.Rows L2
variable [Gh : Ghost] [Gr : Grd]
/-! ### an error kept beyond its suite: what stands behind the try runs where the error's object is pinned -/
def Cx.pin (X : Cx) (p : Addr × Obj) : Cx := { X with pn := p :: X.pn }
end Q
namespace Q
open PySem PySem.Spec PyProof.Rows L2
variable [Gh : Ghost] [Gr : Grd]
section
variable {X : Cx} {pins : List (Addr × Obj)} {σ : L2.St} {H : Hp} {s : Shared} {p : Addr × Obj}
theorem Gd.pin {k : Nat} (g : Gd X k) : Gd (Cx.pin X p) k := ⟨g.calm, g.room, g.gd⟩
end
/-! the try's one clause `except C as e: kept = e` -/
section
variable {X : Cx} {b0 : Stmt} {body su : List Stmt} {pos np hp : Pos} {x nm : Str} {j : Nat} {C : Addr} {tb : WX → TS} {pins : List (Addr × Obj)} {σ : L2.St} {H : Hp} {s : Shared} {Q : Flow → Shared → Prop} {Wf : WX} {D0 : Ends}
end
end Q
namespace Q
open PySem PySem.Spec PyProof.Rows L2
variable [Gh : Ghost] [Gr : Grd]
section
variable {X : Cx} {b0 : Stmt} {su body rest : List Stmt} {x nm : Str} {np hp pos : Pos} {i : Nat} {C : Addr} {mb r0 : MS} {ms rK : Addr → Addr → Option Nat → MS} {B newId initId : String} {bb : List Value}
end
end Q
namespace Q
open PySem PySem.Spec PyProof.Rows L2
variable [Gh : Ghost] [Gr : Grd]
/-! ### behind the try: kept.f, isinstance(kept, T) -/
section
variable {Y : Cx} {a d C : Addr} {n : Option Nat} {oe : Obj} {od : Option Addr} {e t t1 t2 : Expr} {m : ME} {B newId initId : String} {bb : List Value} {f x : Str} {p pos p3 : Pos} {px : Nat}
end
end Q

namespace Q
open PySem PySem.Spec PyProof.Rows L2
variable [Gh : Ghost] [Gr : Grd]
/-! ### o.f = e, where the class has a property f with a setter -/
structure SetOf (K : PySem.W.Frag) (C : Addr) (f : Str) (p g : Addr) : Prop where
  tk : PySem.W.takerIn K C f = some (some (.ref p))
  ty : PySem.W.typeIn K (.ref p) = some (.type "property")
  rec_ : ∃ a rest, PySem.W.recIn K p "property" = some (a :: .ref g :: rest)
def mSetP (Cs : List Addr) (M : MF) (mo mv : ME) : MS := fun en S => (mv en S).stm en fun z S1 => (mo en S1).stm en fun d S2 => match insD d S2 with
  | some p => if p.1 ∈ Cs then (M [d, z] S2).stm en fun _ S3 => .nx en S3 else .bad
  | none => .bad
section
variable {X : Cx} {k : Nat} {f pr : Addr} {fd : FuncData} {ps : List Str} {M : MF} {nm : Str} {pos pos' : Pos} {o value : Expr} {mo mv : ME} {Cs : List Addr}
theorem s_setP (hC : ∀ C ∈ Cs, SetOf X.K C nm pr f) (F : FnM X.prog X.w X.K X.mg X.base k f fd ps M) (g : Gd X (k + 2)) (hb : Binds X.K fd ps []) (hp2 : ps.length = 2) (ho : SndE X o mo) (hv : SndE X value mv)
    (hs : swapsWith value (some (.Attribute o nm pos')) pos.line X.env = pure false := by rfl) :
    SndS X (.Assign [.Attribute o nm pos'] value pos) (mSetP Cs M mo mv) := by
  refine ⟨?_⟩
  intro W tk en σ r H S D er ro dn pins s I
  refine plainObj_wpAny_Assign_Attribute (thn (hv.run W tk en σ r H S _ er ro (DnS.stm (R := VR X.K) er dn) pins s I) fun rv s1 ⟨v, H1, I1, rr, z, S1, r1, e1, t1, o1, k1, er1, d1⟩ => thn (ho.run W tk en σ r1 H1 S1 _ er1 o1 (DnS.stm (R := VR X.K) er1 d1) pins s1 I1) fun u s2 ⟨x, H2, I2, rx, d, S2, r2, e2, t2, o2, k2, er2, d2⟩ => ?_) hs
  have k1 := k1.mono t2
  cases q : insD d S2 with
  | none => rw [q] at d2; exact d2.elim
  | some p =>
    rw [q] at d2
    obtain ⟨C, fs⟩ := p
    dsimp only at d2
    by_cases hc : C ∈ Cs
    · rw [if_pos hc] at d2
      obtain ⟨n, a, dx, vs, rfl, hS, hr, rfl, hH, hf, ow⟩ := insD_ok o2 k2 q
      obtain rfl : u = Value.ref a := rx
      obtain ⟨mA, O, _, _, _, _⟩ := ins_get I2.hok hH
      obtain ⟨od, J, _⟩ := O.look
      have c := ow.cl
      obtain ⟨a0, rest, hrec⟩ := (hC C hc).rec_
      have I3 := I2.tok (s2.toks + 1)
      refine PySem.W.set_plain I2.kIn J c.sa (PySem.W.osa_descr (s := { s2 with toks := s2.toks + 1 }) PySem.W.KF.slot_pset I3.kIn J c.po (hC C hc).tk (hC C hc).ty (PySem.W.prop_set (s := { s2 with toks := s2.toks + 1 }) I3.kIn hrec ?_))
      have dm := DnS.stm (R := VR X.K) er2 d2
      refine codeAny_mono (F.run X.A.in1.in1 X.stack { s2 with toks := s2.toks + 1 } H2 ⟨[.ref a, rv], []⟩ [.ref a, rv] [.ref a, v] r2 [.ref n, z] S2 _ (WE W σ) g.room.in1.in1 (Grd.tr in1_guards (Grd.tr in1_guards g.gd)) I3.env0.in1.in1 (by have := hb { s2 with toks := s2.toks + 1 } [.ref a, rv] I3.kIn (by rw [hp2]; rfl); exact this) (.cons rfl (.cons rr .nil)) hp2.symm ⟨_, _, rfl, k2, ⟨_, _, rfl, k1, rfl⟩⟩ o2 dm) fun res s' hq => ?_
      match res, hq with
      | .error er, hq => exact tk er s' (XE.of_call I3 (fun _ _ _ h => h) hq)
      | .ok (.ret u), hq =>
        obtain ⟨v3, H3, I4, rv3, z3, S3, r3, e3, t3, o3, k3, er3, d3⟩ := I3.after hq
        exact ⟨σ, H3, I4, d3 r3 H3 σ (Stp.refl _ _) o3 er3⟩
      | .ok .next, hq => exact hq.elim
      | .ok .brk, hq => exact hq.elim
      | .ok .cont, hq => exact hq.elim
    · rw [if_neg hc] at d2
      exact d2.elim
end
end Q

namespace Q
open PySem PySem.Spec PyProof.Rows L2
variable [Gh : Ghost] [Gr : Grd]
/-! ### methods with a star: o.m( *x), o.m(e, ..) -/
def mMthS (Cs : List Addr) (nm : Str) (M : MF) (n : Nat) (mo : ME) (ma : MA) : ME := fun en S => (mo en S).bind fun d S1 => match insD d S1 with
  | some p => if p.1 ∈ Cs ∧ p.2.lookup nm = none then (ma en S1).bind fun ds S2 => if n ≤ ds.length + 1 ∧ ds.length ≤ 999 then M (d :: ds) S2 else .bad else .bad
  | none => .bad
section
variable {X : Cx} {k n i : Nat} {f : Addr} {M : MF} {x nm : Str} {p p0 pos apos : Pos} {o e : Expr} {es : List Expr} {m : MA} {mo : ME} {Cs : List Addr} {C : Addr}
theorem run_S {W : WX} {pins : List (Addr × Obj)} {σ : L2.St} {H : Hp} {s : Shared} {Q : VK} {us : List Value} {vs : List V} {ds : List D} {r : List Addr} {S : Store} (F : FnS X.prog X.w X.K X.mg X.base k f n M) (g : Gd X k) (tk : Takes X W)
    (I : Inv X pins σ H s) (rv : Vals vs us) (hl : n ≤ ds.length) (hz : ds.length ≤ 1000) (kv : VRs X.K r H ds vs) (ro : ROk X.K r H S) (dn : Dn X.K r H (VR X.K) (M ds S) Q (WE W σ)) :
    codeAny (model X.prog X.w) X.A (.call (.ref f) ⟨us, []⟩) (fun res s' => match res with | .ok (.ret u) => EP X pins σ Q u s' | .ok _ => False | .error e => X.xe e s') s := by
  have go := F.run X.A X.stack s H us vs r ds S Q (WE W σ) g.room g.gd I.env0 rv hl (Nat.le_trans hz (by rw [sizeLine_eq]; decide)) kv ro dn
  refine codeAny_mono go fun res s' hq => ?_
  match res, hq with
  | .error e, hq => exact tk e s' (XE.of_call I (fun _ _ _ h => h) hq)
  | .ok (.ret u), hq => exact I.after hq
  | .ok .next, hq => exact hq.elim
  | .ok .brk, hq => exact hq.elim
  | .ok .cont, hq => exact hq.elim
theorem e_mthS {pl : Sem Bool} (hC : ∀ C ∈ Cs, Meth X.K C nm f) (F : FnS X.prog X.w X.K X.mg X.base k f n M) (g : Gd X k)
    (ho : SndE X o mo) (ha : SndA X (e :: es) m) (hst : starEach (e :: es) X.env = (false, eval e X.env) :: starEach es X.env := by rfl) (hpl : (backTo pos (starEach es X.env)).any (·.1) = false := by rfl)
    (ht : eval (.Call (.Attribute o nm apos) (e :: es) [] pos) X.env = (do
      let ov ← eval o X.env
      standAt apos.atName
      let (f, first) ← holding [ov] (getMethod ov nm pl)
      callWith pos f first (backTo pos (starEach (e :: es) X.env)) (backToKw pos (keywordEach [] X.env))) := by rfl) :
    SndE X (.Call (.Attribute o nm apos) (e :: es) [] pos) (mMthS Cs nm M n mo m) := by
  refine ⟨?_⟩
  intro W tk en σ r H S Q er ro dn pins s I
  refine PySem.W.methodCall_KW (pl := pl) (thn (ho.run W tk en σ r H S _ er ro (Dn.bind dn) pins s I) fun u s1 ⟨x, H1, I1, rx, d, S1, r1, e1, st1, o1, k1, d1⟩ => ?_) ht
  cases q : insD d S1 with
  | none => rw [q] at d1; exact d1.elim
  | some p =>
    rw [q] at d1
    obtain ⟨C, fs⟩ := p
    dsimp only at d1
    obtain ⟨hc, d1⟩ := dn_if d1
    obtain ⟨j, a, dx, vs, rfl, hS, hr, rfl, hH, hf, ow⟩ := insD_ok o1 k1 q
    obtain rfl : u = Value.ref a := rx
    refine getmeth_ok I1 hH ow.cl (hC C hc.1) (hf.no hc.2) ?_
    refine PySem.W.callWith_K (first := [.ref a]) (h₀ := X.base) I.ok.mod.kin (hC C hc.1).kp (thn (ha.run W tk en σ r1 H1 S1 _ (er.mono st1) o1 (Dn.bind d1) pos pins s1 I1) fun us s2 ⟨vs2, H2, I2, rv, ds, S2, r2, e2, st2, o2, k2, d2⟩ => ⟨I2.kIn, ?_⟩) hst hpl
    obtain ⟨⟨hn, hz⟩, d2⟩ := dn_if d2
    refine wpAny_call (codeAny_mono (run_S (us := .ref a :: us) (vs := .ref a :: vs2) (ds := .ref j :: ds) F g tk I2 (.cons rfl rv) (by simp only [List.length_cons]; omega) (by simp only [List.length_cons]; omega) ⟨_, _, rfl, k1.mono st2, k2⟩ o2 d2) fun res s' hq => ?_)
    match res, hq with
    | .error e, hq => exact hq
    | .ok (.ret u), hq => exact hq
    | .ok .next, hq => exact hq.elim
    | .ok .brk, hq => exact hq.elim
    | .ok .cont, hq => exact hq.elim
end
end Q

namespace Q
open PySem PySem.Spec PyProof.Rows L2
variable [Gh : Ghost] [Gr : Grd]
/-! ### a default that is the empty tuple: a value of the module; o.m() of a method with a star -/
def itemsK (dv : Addr) (d : D) (S : Store) : Option (List D) := match d with
  | .adr a => if a = dv then some [] else none
  | d => itemsD d S
theorem itemsK_ok {dv : Addr} {K : PySem.W.Frag} {r : List Addr} {H : Hp} {S : Store} {d : D} {x : V} {ds : List D} (hdv : ∃ o n, K.lookup dv = some o ∧ o.cls = .type "tuple" ∧ o.data = .seq #[] n) (ro : ROk K r H S) (h : VR K r H d x) (e : itemsK dv d S = some ds) : ∃ p vs, x = .ref p ∧ (SqL K H p vs ∨ SqT K H p vs) ∧ VRs K r H ds vs := by
  cases d with
  | adr a =>
    unfold itemsK at e
    dsimp only at e
    split at e
    · rename_i ha
      cases e
      obtain ⟨o, n, h1, h2, h3⟩ := hdv
      exact ⟨a, [], h, .inr (.inr ⟨o, #[], n, ha ▸ h1, h2, h3, by simp, .nil⟩), rfl⟩
    · cases e
  | _ => exact itemsD_ok ro h e
def mMthLd (dv : Addr) (Cs : List Addr) (nm : Str) (M : MF) (n : Nat) (mo : ME) (i : Nat) : ME := fun en S => (mo en S).bind fun d S1 => match insD d S1 with
  | some p => if p.1 ∈ Cs ∧ p.2.lookup nm = none then (match en[i]? with
    | some (some z) => (match itemsK dv z S1 with
      | some xs => if n ≤ xs.length + 1 ∧ xs.length ≤ 999 then M (d :: xs) S1 else .bad
      | none => .bad)
    | _ => .bad) else .bad
  | none => .bad
section
variable {X : Cx} {k n i : Nat} {f : Addr} {M : MF} {x nm : Str} {p p0 pos apos : Pos} {o e : Expr} {es : List Expr} {m : MA} {mo : ME} {Cs : List Addr} {C : Addr}
theorem e_mthLd {dv : Addr} (hdv : ∃ o n, X.K.lookup dv = some o ∧ o.cls = .type "tuple" ∧ o.data = .seq #[] n) (hC : ∀ C ∈ Cs, BMeth X.K C nm f) (F : FnS X.prog X.w X.K X.mg X.base k f n M) (g : Gd X k) (ho : SndE X o mo) (hN : X.N[i]? = some x) (hv : Vis X.env.scope x)
    (hd : (x == ("__debug__" : Str)) = false := by decide) (hcd : (x == ("__classdict__" : Str)) = false := by decide) (hbase : attributeBase o nm X.env (eval o X.env) = eval o X.env := by rfl) :
    SndE X (.Call (.Attribute o nm apos) [.Starred (.Name x p0) p] [] pos) (mMthLd dv Cs nm M n mo i) := by
  refine ⟨?_⟩
  intro W tk en σ r H S Q er ro dn pins s I
  refine starcall_of hbase (thn (ho.run W tk en σ r H S _ er ro (Dn.bind dn) pins s I) fun u s1 ⟨xv, H1, I1, rx, d, S1, r1, e1, st1, o1, k1, d1⟩ => ?_)
  cases q : insD d S1 with
  | none => rw [q] at d1; exact d1.elim
  | some pr =>
    rw [q] at d1
    obtain ⟨C, fs⟩ := pr
    dsimp only at d1
    obtain ⟨hc, d1⟩ := dn_if d1
    obtain ⟨j, a, dx, vs0, rfl, hS, hr, rfl, hH, hf, ow⟩ := insD_ok o1 k1 q
    obtain rfl : u = Value.ref a := rx
    have er1 := er.mono st1
    cases qe : en[i]? with
    | none => rw [qe] at d1; exact d1.elim
    | some oz =>
      cases oz with
      | none => rw [qe] at d1; exact d1.elim
      | some z =>
        rw [qe] at d1
        dsimp only at d1
        cases qi : itemsK dv z S1 with
        | none => rw [qi] at d1; exact d1.elim
        | some xs =>
          rw [qi] at d1
          dsimp only at d1
          obtain ⟨⟨hn, hx⟩, d1⟩ := dn_if d1
          refine getbound_ok I1 hH ow.cl (hC C hc.1) (hf.no hc.2) fun q1 s2 hq1 I2 => ?_
          have sl : Stp r1 H1 r1 (upd H1 q1 (.met f a)) := Stp.loose hq1
          have o2 : ROk X.K r1 (upd H1 q1 (.met f a)) S1 := o1.loose hq1
          have er2 := er1.mono sl
          refine PySem.W.ks_call (P := PySem.W.MethP X.K q1 f (.ref a)) rfl (PySem.W.keeps_M (hC C hc.1).fi) (PySem.W.ks_lone ?_)
          obtain ⟨v0, hv1, hv2⟩ := er2.at_ i z qe
          have ev := wE_of (X := X) (e := .Name x p0) (Q := fun y H2 => H2 = upd H1 q1 (.met f a) ∧ VR X.K r1 (upd H1 q1 (.met f a)) z y) (pe_var hN hv hd hcd) ⟨v0, hv1, rfl, hv2⟩ pins s2 I2
          refine thn ev fun v s3 ⟨y, H2, I3, ry, eH, kz⟩ => ?_
          subst eH
          obtain ⟨pa, vs, rfl, hq, hvs⟩ := itemsK_ok hdv o2 kz qi
          obtain rfl : v = Value.ref pa := ry
          refine StX.star_any I3 (hq.symm) fun us s4 I4 rv => ⟨met_P I4 upd_same, ?_⟩
          refine wpAny_call (PySem.W.method_call (met_P I4 upd_same).1 (codeAny_mono (run_S (ds := .ref j :: xs) (us := Value.ref a :: us) (vs := V.ref a :: vs) F g tk I4 (.cons rfl rv) (by simp only [List.length_cons]; omega) (by simp only [List.length_cons]; omega) ⟨_, _, rfl, k1.mono sl, hvs⟩ o2 (Dn.mono sl d1)) fun res s' hq => ?_))
          match res, hq with
          | .error e, hq => exact hq
          | .ok (.ret u), hq => exact hq
          | .ok .next, hq => exact hq.elim
          | .ok .brk, hq => exact hq.elim
          | .ok .cont, hq => exact hq.elim
theorem e_mthS0 {pl : Sem Bool} (hC : ∀ C ∈ Cs, Meth X.K C nm f) (F : FnS X.prog X.w X.K X.mg X.base k f n M) (g : Gd X k)
    (ho : SndE X o mo)
    (ht : eval (.Call (.Attribute o nm apos) [] [] pos) X.env = (do
      let ov ← eval o X.env
      standAt apos.atName
      let (f, first) ← holding [ov] (getMethod ov nm pl)
      callWith pos f first (backTo pos (starEach [] X.env)) (backToKw pos (keywordEach [] X.env))) := by rfl) :
    SndE X (.Call (.Attribute o nm apos) [] [] pos) (mMthS Cs nm M n mo mNil) := by
  refine ⟨?_⟩
  intro W tk en σ r H S Q er ro dn pins s I
  refine PySem.W.methodCall_KW (pl := pl) (thn (ho.run W tk en σ r H S _ er ro (Dn.bind dn) pins s I) fun u s1 ⟨x, H1, I1, rx, d, S1, r1, e1, st1, o1, k1, d1⟩ => ?_) ht
  cases q : insD d S1 with
  | none => rw [q] at d1; exact d1.elim
  | some p =>
    rw [q] at d1
    obtain ⟨C, fs⟩ := p
    dsimp only at d1
    obtain ⟨hc, d1⟩ := dn_if d1
    obtain ⟨j, a, dx, vs, rfl, hS, hr, rfl, hH, hf, ow⟩ := insD_ok o1 k1 q
    obtain rfl : u = Value.ref a := rx
    refine getmeth_ok I1 hH ow.cl (hC C hc.1) (hf.no hc.2) ?_
    have d1 : Dn X.K r1 H1 (VR X.K) (if n ≤ ([] : List D).length + 1 ∧ ([] : List D).length ≤ 999 then M [.ref j] S1 else .bad) Q (WE W σ) := d1
    obtain ⟨⟨hn, hz⟩, d2⟩ := dn_if d1
    refine PySem.W.callWith_K0 (first := [.ref a]) I1.kIn (hC C hc.1).kp ?_
    refine wpAny_call (codeAny_mono (run_S (us := [.ref a]) (vs := [.ref a]) (ds := [.ref j]) F g tk I1 (.cons rfl .nil) (by simpa using hn) (by simp) ⟨_, _, rfl, k1, rfl⟩ o1 d2) fun res s' hq => ?_)
    match res, hq with
    | .error e, hq => exact hq
    | .ok (.ret u), hq => exact hq
    | .ok .next, hq => exact hq.elim
    | .ok .brk, hq => exact hq.elim
    | .ok .cont, hq => exact hq.elim
end
end Q

namespace Q
open PySem PySem.Spec PyProof.Rows L2
/-! ### {x for x in ..} of ints, and its length -/
def SetI (w : World) (h : Heap) (a : Addr) (acc : List Int) : Prop := (∃ o, h.get? a = some o ∧ ∀ v, o.data ≠ .cell v) ∧ ∃ S : Int → Bool, L2.SetR w h a S (nub acc).length ∧ ∀ k, S k = decide (k ∈ acc)
theorem SetI.at' {w : World} {h h' : Heap} {a : Addr} {acc : List Int} (S : SetI w h a acc) (k : ∀ o, h.get? a = some o → h'.get? a = some o) : SetI w h' a acc := by
  obtain ⟨⟨o, ho, hc⟩, f, R, e⟩ := S
  exact ⟨⟨o, k o ho, hc⟩, f, R.at k, e⟩
section
variable {X : Cx}
end
end Q
namespace Q
open PySem PySem.Spec PyProof.Rows L2
variable [Gh : Ghost] [Gr : Grd]
section
variable {X : Cx} {k : Nat} {e : Expr} {me : ME} {mt : MT} {pos : Pos} {tg iter : Expr} {mi : MIt} {g : Pat}
end
end Q

namespace Q
open PySem PySem.Spec PyProof.Rows L2
variable [Gh : Ghost]
/-! ### truth values as numbers -/
def b2 (c : Bool) : Int := if c = true then 1 else 0
section
variable {X : Cx}
/-! ### (d,) * k, k great -/
end
end Q

namespace Q
open PySem PySem.Spec PyProof.Rows L2
/-! ### isinstance of an own class, own ==, truth values as numbers: in what is wished -/
section
variable {en : En} {S : Store} {E : EK} {P : D → Store → Prop} {C : Addr} {fs : List (Str × D)} {k : Nat} {M : MF} {g : G2} {ma mb : ME} {neg : Bool}
theorem wpO_isiO {d : D} {q : Kd} {b : Bool} (h : kindD d S = some q) (hb : isO C q = some b) (p : P (.bl b) S) : wpO (gIsiO C d S) P := by
  refine wpO_of ?_ p
  unfold gIsiO
  rw [h, Option.bind_some, hb]
  rfl
end
end Q

namespace Q
/-! ### jump systems: sums of them are such -/
def IsStep (x y : Nat → Int) (i : Nat) (s : Int) : Prop := (s = 1 ∧ x i < y i) ∨ (s = -1 ∧ y i < x i)
def mv (x : Nat → Int) (i : Nat) (s : Int) : Nat → Int := fun k => if k = i then x k + s else x k
abbrev VSet := (Nat → Int) → Prop
/-- J has z itself, or a step from z towards y leads into it -/
def Near (n : Nat) (J : VSet) (z y : Nat → Int) : Prop := J z ∨ ∃ j t, j < n ∧ IsStep z y j t ∧ J (mv z j t)
def Jump (n : Nat) (J : VSet) : Prop := ∀ x y, J x → J y → ∀ i s, i < n → IsStep x y i s → Near n J (mv x i s) y
/-! ### small ones, boxes, shifts -/
end Q

namespace Q
open PySem PySem.Spec PyProof.Rows L2
/-! ### tables of sets, of any size: each place is met by a search -/
end Q


namespace Q
open PySem PySem.Spec PyProof.Rows L2
theorem wpO_mulT {S : Store} {P : D → Store → Prop} {k : Nat} {xs : List D} (h0 : xs ≠ []) (h1 : 1 ≤ k) (h2 : k ≤ 1000) (h3 : xs.length ≤ 1000) (h : P (.tup (List.replicate k xs).flatten) S) : wpO (gMulT (.tup xs) (.int ((k : Nat) : Int)) S) P := by
  refine wpO_of ?_ h
  unfold gMulT
  dsimp only
  by_cases hk : k = 1
  · subst hk
    rw [if_pos (by omega)]
    simp
  · rw [if_neg (by omega)]
    unfold gMul
    dsimp only
    rw [if_pos ⟨h0, by omega, by omega, h3⟩]
    rfl
theorem plain_ints : ∀ as : List Int, PyData.plainAll (as.map PyData.int) = true
  | [] => rfl
  | a :: as => by show (true && PyData.plainAll (as.map PyData.int)) = true; rw [plain_ints as]; rfl
theorem deep_ints : ∀ as : List Int, PyData.depthAll (as.map PyData.int) = 0
  | [] => rfl
  | a :: as => by show max 0 (PyData.depthAll (as.map PyData.int)) = 0; rw [deep_ints as]; rfl
theorem eqP_vec {T : Store} (v w : List Int) (hl : v.length = w.length) : eqP (tupD v) (tupD w) T = some (decide (v = w)) := by
  have e : eqLen (tupD v) (tupD w) T = none := by
    unfold eqLen seqOf tupD
    dsimp only
    simp [hl]
  unfold eqP
  show (match eqLen (tupD v) (tupD w) T with | some b => some b | none => eqPD (tupD v) (tupD w) T) = _
  rw [e]
  dsimp only
  unfold eqPD
  rw [show pyD T (tupD v) = some (.tuple (v.map .int)) from py_vec v, show pyD T (tupD w) = some (.tuple (w.map .int)) from py_vec w, ← eqv_ints]
  exact if_pos ⟨plain_ints v, plain_ints w, by show PyData.depthAll (v.map PyData.int) + 1 ≤ 64; rw [deep_ints]; decide⟩
theorem wpO_eqVec {T : Store} {P : D → Store → Prop} {v w : List Int} (hl : v.length = w.length) (h : P (.bl (decide (v = w))) T) : wpO (gEq (tupD v) (tupD w) T) P := by
  refine wpO_of ?_ h
  unfold gEq
  rw [eqP_vec v w hl]
  rfl

theorem all2_eq {α : Type} {f : α → D} : ∀ {zs : List D} {bs : List α}, All2 (fun z b => z = f b) zs bs → zs = bs.map f
  | _, _, .nil => rfl
  | _, _, .cons h r => by rw [List.map_cons, ← h, ← all2_eq r]
def fnV (v : List Int) : Nat → Int := fun k => v.getD k 0
def setL (ks : List (List Int)) : VSet := fun f => ∃ v ∈ ks, f = fnV v
def JumpL (n : Nat) (ks : List (List Int)) : Prop := Jump n (setL ks)
/-- a list of vectors of n entries within b -/
def Vs (n b : Nat) (vs : List (List Int)) : Prop := ∀ v ∈ vs, v.length = n ∧ ∀ z ∈ v, z.natAbs ≤ b
def Asc (ds : List (List Int)) : Prop := ds.Pairwise (· ≤ ·) ∧ ds.Nodup
theorem Vs.up {n b c : Nat} {vs : List (List Int)} (h : Vs n b vs) (hb : b ≤ c) : Vs n c vs := fun v hv => ⟨(h v hv).1, fun z hz => Nat.le_trans ((h v hv).2 z hz) hb⟩
theorem wpO_min2 {S : Store} {P : D → Store → Prop} {i j : Int} (h : P (.int (if j < i then j else i)) S) : wpO (gMin2 (.int i) (.int j) S) P := wpO_of rfl h
def JL (most p c n m : Nat) (S : Store) (b : Nat) (e : En) (U : Store) : Prop := ∃ (F : Nat) (vs : List (List Int)) (x4 x5 x6 x7 x8 x9 x10 : Option D), e = [some (.ref p), some (.int ((n : Nat) : Int)), some (.int ((most : Nat) : Int)), some (.ref F), x4, x5, x6, x7, x8, x9, x10] ∧ U[F]? = some (.lst (vs.map tupD)) ∧ Vs n b vs ∧ vs ≠ [] ∧ vs.length ≤ most ∧ S.length ≤ F ∧ KpX p S U ∧ Pen p c m U ∧ JumpL n vs ∧ Asc vs
theorem JL.up {most p c n m m' b b' : Nat} {S U : Store} {e : En} (h : JL most p c n m S b e U) (hb : b ≤ b') (hm : m ≤ m') : JL most p c n m' S b' e U :=
  let ⟨F, vs, x4, x5, x6, x7, x8, x9, x10, h1, h2, h3, h4, h5, h6, h7, h8, h9, h10⟩ := h
  ⟨F, vs, x4, x5, x6, x7, x8, x9, x10, h1, h2, h3.up hb, h4, h5, h6, h7, h8.le hm, h9, h10⟩
def isIntK : Kd → Bool
  | .int => true
  | _ => false
def btw (d : D) (lo hi : Int) : Bool := match d with
  | .int i => decide (lo ≤ i) && decide (i ≤ hi)
  | _ => false
theorem btw_no {d : D} {lo hi : Int} (h : ∀ i, d ≠ .int i) : btw d lo hi = false := by
  cases d with
  | int i => exact absurd rfl (h i)
  | _ => rfl
theorem kind_nint {S : Store} {d : D} {q : Kd} (hq : kindD d S = some q) (h : isIntK q = false) : ∀ i, d ≠ .int i := fun i e => by
  subst e
  cases hq
  cases h
def vecB (d : D) : Bool := match d with
  | .tup xs => (decide (1 ≤ xs.length) && decide (xs.length ≤ 5)) && xs.all fun x => btw x (-1000) 1000
  | _ => false
theorem vecB_no {d : D} (h : ∀ xs, d ≠ .tup xs) : vecB d = false := by
  cases d with
  | tup xs => exact absurd rfl (h xs)
  | _ => rfl
theorem kind_ntup {S : Store} {d : D} {q : Kd} (hq : kindD d S = some q) (h : isKd q .tup = false) : ∀ xs, d ≠ .tup xs := fun xs e => by
  subst e
  cases hq
  cases h
/-- an entry's kind is found in every later store -/
def Kinds (S : Store) (d : D) : Prop := (∃ q, ∀ T, Kp S T → kindD d T = some q) ∧ ∀ xs, d = .tup xs → ∀ x ∈ xs, ∃ q, ∀ T, Kp S T → kindD x T = some q
theorem kinds_vec {S : Store} (v : List Int) : Kinds S (tupD v) := ⟨⟨.tup, fun _ _ => rfl⟩, fun xs e x hx => by
  cases e
  obtain ⟨i, _, rfl⟩ := List.mem_map.mp hx
  exact ⟨.int, fun _ _ => rfl⟩⟩
def fitV (v : List Int) : Bool := (decide (1 ≤ v.length) && decide (v.length ≤ 5)) && v.all fun i => decide (-1000 ≤ i) && decide (i ≤ 1000)
theorem vecB_tup (v : List Int) : vecB (tupD v) = fitV v := by
  unfold vecB tupD fitV
  dsimp only
  rw [List.length_map, List.all_map]
  rfl
theorem fit_ok {n : Nat} {v : List Int} (h1 : 1 ≤ n) (h5 : n ≤ 5) (h : v.length = n ∧ ∀ z ∈ v, z.natAbs ≤ 1000) : fitV v = true := by
  unfold fitV
  rw [Bool.and_eq_true, Bool.and_eq_true, decide_eq_true_eq, decide_eq_true_eq, List.all_eq_true]
  refine ⟨⟨by omega, by omega⟩, fun z hz => ?_⟩
  have := h.2 z hz
  rw [Bool.and_eq_true, decide_eq_true_eq, decide_eq_true_eq]
  omega
theorem kind_noitems {S : Store} {d : D} {q : Kd} (h : kindD d S = some q) (hn : itemsD d S = none) : [Bt.lst, .tup].any (isKd q) = false := by
  cases d with
  | tup xs => cases hn
  | kl xs => cases hn
  | ref n =>
    unfold kindD at h
    unfold itemsD at hn
    dsimp only at h hn
    cases e : S[n]? with
    | none => rw [e] at h; cases h
    | some o =>
      rw [e] at h hn
      cases o with
      | lst xs => cases hn
      | dct xs => cases h; rfl
      | dcT xs => cases h; rfl
      | ins C xs => cases h; rfl
      | _ => cases h
  | non => cases h; rfl
  | bl b => cases h; rfl
  | int b => cases h; rfl
  | str b => cases h; rfl
  | _ => cases h
/-- an object of the class A that stands for the members ks -/
def SetAt (U : Store) (A : Addr) (K : Nat) (ks : List (List Int)) : Prop := ∃ q, U[K]? = some (.ins A [("kept", .tup (ks.map tupD)), ("known", .ref q)]) ∧ U[q]? = some (.dcT (trueT ks [])) ∧ K < q
theorem SetAt.kp {S T : Store} {A : Addr} {K : Nat} {ks : List (List Int)} (h : SetAt S A K ks) (k : Kp S T) : SetAt T A K ks := let ⟨q, h1, h2, h3⟩ := h; ⟨q, k _ _ h1, k _ _ h2, h3⟩
theorem SetAt.lt {S : Store} {A : Addr} {K : Nat} {ks : List (List Int)} (h : SetAt S A K ks) : K < S.length := let ⟨_, h1, _⟩ := h; lt_of_at h1
theorem SetAt.kx {S T : Store} {A : Addr} {K p : Nat} {ks : List (List Int)} {kv : List (Key × D)} (h : SetAt S A K ks) (hp : S[p]? = some (.dct kv)) (k : KpX p S T) : SetAt T A K ks := by
  obtain ⟨q, h1, h2, h3⟩ := h
  have e1 : K ≠ p := fun e => by rw [e, hp] at h1; cases h1
  have e2 : q ≠ p := fun e => by rw [e, hp] at h2; cases h2
  exact ⟨q, k.k _ _ e1 h1, k.k _ _ e2 h2, h3⟩
theorem SetAt.up {S T : Store} {A : Addr} {K p : Nat} {ks : List (List Int)} (h : SetAt S A K ks) (hp : p < K) (k : KpX p S T) : SetAt T A K ks := let ⟨q, h1, h2, h3⟩ := h; ⟨q, k.k _ _ (by omega) h1, k.k _ _ (by omega) h2, h3⟩
section
variable {en : En} {S : Store} {N : En → Store → Prop} {R : D → Store → Prop} {B C : En → Store → Prop} {X : XKs}
end

theorem kind_kp {S T : Store} {d : D} {q : Kd} (k : Kp S T) (h : kindD d S = some q) : kindD d T = some q := by
  cases d with
  | ref n =>
    unfold kindD at h ⊢
    dsimp only at h ⊢
    cases e : S[n]? with
    | none => rw [e] at h; cases h
    | some o => rw [e] at h; rw [k _ _ e]; exact h
  | _ => exact h
def ChOk (x : Str) : Prop := ∀ c ∈ x.cps.toList, c < 16 ^ 8
theorem ChOk.of (x : String) : ChOk (Str.ofString x) := fun c hc => by
  rw [signs_ofString x] at hc
  obtain ⟨z, _, rfl⟩ := List.mem_map.mp hc
  have hz : z.toNat < 1114112 := by
    rcases z.valid with h | ⟨_, h⟩
    · exact Nat.lt_trans h (by decide)
    · exact h
  exact Nat.lt_trans hz (by decide)
theorem ChOk.app {x y : Str} (h1 : ChOk x) (h2 : ChOk y) : ChOk (x ++ y) := fun c hc => by
  have e : (x ++ y).cps = x.cps ++ y.cps := rfl
  rw [e, Array.toList_append] at hc
  exact (List.mem_append.mp hc).elim (h1 c) (h2 c)
theorem ChOk.join : ∀ ts : List Str, (∀ t ∈ ts, ChOk t) → ChOk (Str.join ", " ts)
  | [], _ => fun c hc => nomatch hc
  | [x], h => h x List.mem_cons_self
  | x :: y :: r, h => ChOk.app (ChOk.app (h x List.mem_cons_self) (ChOk.of ", ")) (ChOk.join (y :: r) fun t ht => h t (List.mem_cons_of_mem _ ht))
/-- what is asked of a value that is shown and looked up -/
structure Val (S : Store) (d : D) : Prop where
  kd : Kinds S d
  rp : ∃ x, ∀ T, Kp S T → reprP d T = some x
  ln : ∀ xs, d = .tup xs → xs.length ≤ 1000
theorem Nc.val {n m b : Nat} {S : Store} {d : D} (h : Nc n m b S d) (hn : n ≤ 64) (hm : m ≤ 800) (hb : b ≤ 1900) : Val S d := by
  refine ⟨⟨?_, fun xs e x hx => ?_⟩, h.repr hn hm hb, fun xs e => ?_⟩
  · obtain ⟨q, hq⟩ := h.kind
    exact ⟨q, fun T k => kind_kp k hq⟩
  · subst e
    cases n with
    | zero => obtain ⟨p, h1, _, _⟩ := h.ex; cases h1
    | succ n =>
      obtain ⟨i, hi, e⟩ := List.getElem_of_mem hx
      obtain ⟨q, hq⟩ := (h.of_tup.get (i := i) (by rw [List.getElem?_eq_getElem hi, e])).kind
      exact ⟨q, fun T k => kind_kp k hq⟩
  · subst e
    cases n with
    | zero => obtain ⟨p, h1, _, _⟩ := h.ex; cases h1
    | succ n =>
      obtain ⟨ps, h1, h2, h3⟩ := h.of_tup.ex
      have := mapM_len h1
      have l : ∀ ps : List PyData, ps.length ≤ nds ps := fun ps => by
        induction ps with
        | nil => exact Nat.le_refl _
        | cons p ps ih =>
          have : 1 ≤ nd p := by cases p <;> simp [nd]
          simp only [nds, List.length_cons]
          omega
      have := l ps
      omega
theorem btw_all : ∀ {xs : List D}, (xs.all fun x => btw x (-1000) 1000) = true → ∃ v : List Int, xs = v.map D.int
  | [], _ => ⟨[], rfl⟩
  | x :: xs, h => by
    rw [List.all_cons, Bool.and_eq_true] at h
    obtain ⟨v, rfl⟩ := btw_all h.2
    cases x with
    | int i => exact ⟨i :: v, rfl⟩
    | _ => exact Bool.noConfusion h.1
theorem vecB_vec {d : D} (h : vecB d = true) : ∃ v, d = tupD v := by
  cases d with
  | tup xs =>
    unfold vecB at h
    dsimp only at h
    rw [Bool.and_eq_true] at h
    obtain ⟨v, rfl⟩ := btw_all h.2
    exact ⟨v, rfl⟩
  | _ => exact Bool.noConfusion h
def vecP (v : List Int) : PyData := .tuple (v.map .int)
theorem eqv_vecs : ∀ a b : List (List Int), PyData.eqvAll (a.map vecP) (b.map vecP) = decide (a = b)
  | [], [] => by simp [PyData.eqvAll]
  | [], b :: bs => by simp [PyData.eqvAll]
  | a :: as, [] => by simp [PyData.eqvAll]
  | a :: as, b :: bs => by
    rw [List.map_cons, List.map_cons, PyData.eqvAll, eqv_vecs as bs]
    show (PyData.eqvAll (a.map .int) (b.map .int) && decide (as = bs)) = _
    rw [eqv_ints]
    by_cases h : a = b <;> by_cases h2 : as = bs <;> simp [h, h2]
theorem plain_vecs : ∀ as : List (List Int), PyData.plainAll (as.map vecP) = true
  | [] => rfl
  | a :: as => by
    show (PyData.plainAll (a.map PyData.int) && PyData.plainAll (as.map vecP)) = true
    rw [plain_ints, plain_vecs as]
    rfl
theorem eqLen_no {d e : D} {T : Store} {b : Bool} (h : eqLen d e T = some b) : b = false ∧ ∃ p q, seqOf d T = some p ∧ seqOf e T = some q ∧ p.2 ≠ q.2 := by
  unfold eqLen at h
  obtain ⟨p, h1, h⟩ := Option.bind_eq_some_iff.mp h
  obtain ⟨q, h2, h⟩ := Option.bind_eq_some_iff.mp h
  split at h
  · rename_i c
    cases h
    exact ⟨rfl, p, q, h1, h2, c.2.1⟩
  · cases h
theorem eqP_vecsT {T : Store} (a b : List (List Int)) : eqP (.tup (a.map tupD)) (.tup (b.map tupD)) T = some (decide (a = b)) := by
  have pv : ∀ v : List (List Int), pyD T (.tup (v.map tupD)) = some (.tuple (v.map vecP)) := fun v => by
    show ((v.map fun w => D.tup (w.map D.int)).mapM (toPy T 63)).map PyData.tuple = _
    rw [py_vecs]
    rfl
  unfold eqP
  show (match eqLen (.tup (a.map tupD)) (.tup (b.map tupD)) T with | some b => some b | none => eqPD (.tup (a.map tupD)) (.tup (b.map tupD)) T) = _
  cases q : eqLen (.tup (a.map tupD)) (.tup (b.map tupD)) T with
  | some c =>
    obtain ⟨rfl, p, r, h1, h2, h3⟩ := eqLen_no q
    cases h1
    cases h2
    rw [List.length_map, List.length_map] at h3
    exact congrArg some (decide_eq_false fun e => h3 (by rw [e])).symm
  | none =>
    show eqPD _ _ T = _
    unfold eqPD
    rw [pv, pv, ← eqv_vecs]
    exact if_pos ⟨plain_vecs a, plain_vecs b, by have := depth_vecs a; show PyData.depthAll (a.map vecP) + 1 ≤ 64; unfold vecP; omega⟩
theorem wpO_eqVecs {T : Store} {P : D → Store → Prop} {a b : List (List Int)} (h : P (.bl (decide (a = b))) T) : wpO (gEq (.tup (a.map tupD)) (.tup (b.map tupD)) T) P := by
  refine wpO_of ?_ h
  unfold gEq
  rw [eqP_vecsT]
  rfl
theorem eqP_vecsL {T : Store} {m n : Nat} {a b : List (List Int)} (hm : T[m]? = some (.lst (a.map tupD))) (hn : T[n]? = some (.lst (b.map tupD))) : eqP (.ref m) (.ref n) T = some (decide (a = b)) := by
  have pv : ∀ {m : Nat} {v : List (List Int)}, T[m]? = some (.lst (v.map tupD)) → pyD T (.ref m) = some (.list (v.map vecP)) := fun {m v} h => by
    show toPy T (63 + 1) (.ref m) = _
    unfold toPy
    rw [h]
    show ((v.map fun w => D.tup (w.map D.int)).mapM (toPy T 63)).map PyData.list = _
    rw [py_vecs]
    rfl
  unfold eqP
  show (match eqLen (.ref m) (.ref n) T with | some b => some b | none => eqPD (.ref m) (.ref n) T) = _
  cases q : eqLen (.ref m) (.ref n) T with
  | some c =>
    obtain ⟨rfl, p, r, h1, h2, h3⟩ := eqLen_no q
    unfold seqOf at h1 h2
    dsimp only at h1 h2
    rw [hm] at h1
    rw [hn] at h2
    cases h1
    cases h2
    rw [List.length_map, List.length_map] at h3
    exact congrArg some (decide_eq_false fun e => h3 (by rw [e])).symm
  | none =>
    show eqPD _ _ T = _
    unfold eqPD
    rw [pv hm, pv hn, ← eqv_vecs]
    exact if_pos ⟨plain_vecs a, plain_vecs b, by have := depth_vecs a; show PyData.depthAll (a.map vecP) + 1 ≤ 64; unfold vecP; omega⟩
theorem wpO_eqVecsL {T : Store} {P : D → Store → Prop} {m n : Nat} {a b : List (List Int)} (hm : T[m]? = some (.lst (a.map tupD))) (hn : T[n]? = some (.lst (b.map tupD))) (h : P (.bl (decide (a = b))) T) : wpO (gEq (.ref m) (.ref n) T) P := by
  refine wpO_of ?_ h
  unfold gEq
  rw [eqP_vecsL hm hn]
  rfl
theorem wpO_con {Cs : List Addr} {f : Str} {i : Int} {S : Store} {P : D → Store → Prop} {K : Nat} {A : Addr} {fs : List (Str × D)} (hK : S[K]? = some (.ins A fs)) (hA : A ∈ Cs) (hf : fs.lookup f = none) (h : P (.int i) S) : wpO (gCon Cs f i (.ref K) S) P := by
  refine wpO_of ?_ h
  unfold gCon
  rw [insD_at hK, Option.bind_some]
  dsimp only
  rw [if_pos ⟨hA, hf⟩]
def maxI (l : List Int) : Int := l.max?.getD 0
def hiV (n : Nat) (vs : List (List Int)) : List Int := (List.range n).map fun j => maxI (vs.map fun v => v.getD j 0)
theorem wpE_eqOwn {en : En} {S : Store} {E : EK} {P : D → Store → Prop} {C : Addr} {M : MF} {neg : Bool} {g : G2} {ma mb : ME} (h : wpE (ma en S) (fun d T => wpE (mb en T) (fun e U => ∃ n fs, d = .ref n ∧ U[n]? = some (.ins C fs) ∧ otherOk C e U = true ∧ wpE (M [d, e] U) (fun z V => ∃ b, z = .bl b ∧ P (.bl (b != neg)) V) (fun _ _ _ => False)) E) E) : wpE (mEqO C M neg g ma mb en S) P E := by
  refine wpE_bind (wpE_mono h (fun d T q => wpE_bind (wpE_mono q (fun e U ⟨n, fs, e1, h1, h2, w⟩ => ?_) fun _ _ _ z => z)) fun _ _ _ z => z)
  subst e1
  rw [insD_at h1]
  dsimp only
  rw [if_pos ⟨rfl, h2⟩]
  refine wpE_bind (wpE_calm (wpE_mono w (fun z V ⟨b, e2, p⟩ => ?_) fun _ _ _ z => z))
  subst e2
  exact p
theorem other_ins {C : Addr} {n : Nat} {fs : List (Str × D)} {U : Store} (h : U[n]? = some (.ins C fs)) : otherOk C (.ref n) U = true := by
  unfold otherOk kindD
  dsimp only
  rw [h]
  exact decide_eq_true rfl

end Q


namespace Q
open PySem PySem.Spec PyProof.Rows L2
/-! ### networks: links, and the counts of all selections -/
def linkD (p : Nat × Nat) : D := .tup [natD p.1, natD p.2]
def LkOk (n : Nat) (ls : List (Nat × Nat)) : Prop := ∀ p ∈ ls, p.1 < n ∧ p.2 < n
theorem LkOk.take {n : Nat} {ls : List (Nat × Nat)} (h : LkOk n ls) (i : Nat) : LkOk n (ls.take i) := fun p hp => h p (List.mem_of_mem_take hp)
theorem LkOk.drop {n : Nat} {ls : List (Nat × Nat)} (h : LkOk n ls) (i : Nat) : LkOk n (ls.drop i) := fun p hp => h p (List.mem_of_mem_drop hp)
theorem LkOk.snoc {n : Nat} {ls : List (Nat × Nat)} {p : Nat × Nat} (h : LkOk n (ls ++ [p])) : LkOk n ls ∧ p.1 < n ∧ p.2 < n := ⟨fun q hq => h q (List.mem_append_left _ hq), h p (List.mem_append_right _ (List.mem_singleton.mpr rfl))⟩
def normP (p : Nat × Nat) : Nat × Nat := (min p.1 p.2, max p.1 p.2)
/-! ### rules: star methods, setters -/
section
variable {en : En} {S : Store} {E : EK} {P : D → Store → Prop} {N : En → Store → Prop} {R : D → Store → Prop} {B C : En → Store → Prop} {X : XKs} {Cs : List Addr} {nm : Str} {M : MF} {n i : Nat} {mo mv : ME} {ma : MA}
theorem wpE_mthS (h : wpE (mo en S) (fun d T => ∃ k A fs, d = .ref k ∧ T[k]? = some (.ins A fs) ∧ A ∈ Cs ∧ fs.lookup nm = none ∧ wpE (ma en T) (fun ds U => (n ≤ ds.length + 1 ∧ ds.length ≤ 999) ∧ wpE (M (d :: ds) U) P E) E) E) : wpE (mMthS Cs nm M n mo ma en S) P E := by
  refine wpE_bind (wpE_mono h (fun d T ⟨k, A, fs, e, h1, h2, h3, q⟩ => ?_) fun _ _ _ q => q)
  subst e
  rw [insD_at h1]
  dsimp only
  rw [if_pos ⟨h2, h3⟩]
  exact wpE_bind (wpE_mono q (fun ds U q => by rw [if_pos q.1]; exact q.2) fun _ _ _ q => q)
theorem wpS_setP (h : wpE (mv en S) (fun z T => wpE (mo en T) (fun d U => ∃ k A fs, d = .ref k ∧ U[k]? = some (.ins A fs) ∧ A ∈ Cs ∧ wpE (M [d, z] U) (fun _ V => N en V) (fun c n V => X c n en V)) (fun c n T => X c n en T)) (fun c n T => X c n en T)) : wpS (mSetP Cs M mo mv en S) N R B C X :=
  wpS_stm (wpE_mono h (fun z T q => wpS_stm (wpE_mono q (fun d U ⟨k, A, fs, e, h1, h2, q⟩ => by
    subst e
    rw [insD_at h1]
    dsimp only
    rw [if_pos h2]
    exact wpS_stm q) fun _ _ _ q => q)) fun _ _ _ q => q)
theorem wpO_gcon {Cs : List Addr} {f : Str} {i : Int} {K : Nat} {A : Addr} {fs : List (Str × D)} (hK : S[K]? = some (.ins A fs)) (hA : A ∈ Cs) (hf : fs.lookup f = none) (h : P (.int i) S) : wpO (gCon Cs f i (.ref K) S) P := wpO_con hK hA hf h
end
section
variable {en : En} {S : Store} {E : EK} {P : D → Store → Prop}
end
theorem wpO_neBo {S : Store} {P : D → Store → Prop} {a b : Bool} (h : P (.bl (a != b)) S) : wpO (gNe (.bl a) (.bl b) S) P := by
  refine wpO_of (d := .bl (a != b)) (T := S) ?_ h
  cases a <;> cases b <;> rfl
/-! ### two nodes made one, nodes in another order, parity -/
end Q

namespace Q
open PySem PySem.Spec PyProof.Rows L2
/-! ### the text of the law -/
def topS (i : Nat) : Stmt := PySem.Challenge.pw_jumpsets_k62_networks_link_by_link.main.body.getD i (.Pass ⟨0, 0, 0, 0⟩)
abbrev s__law_pen : Stmt := topS 15
abbrev s__law_draw : Stmt := topS 16
abbrev s__law_pick : Stmt := topS 17
abbrev s__law_odd : Stmt := topS 18
abbrev s__law_some : Stmt := topS 25
abbrev s__law_is_node : Stmt := topS 19
abbrev s__law_refused : Stmt := topS 21
abbrev s_is_integer : Stmt := topS 8
abbrev s_is_between : Stmt := topS 9
abbrev s_is_list : Stmt := topS 10
abbrev s_Network_is_link : Stmt := clsDef (topS 13) 5
abbrev s_Network_link : Stmt := clsDef (topS 13) 6
abbrev s_Network___init__ : Stmt := clsDef (topS 13) 3
abbrev s__law_is_link : Stmt := topS 20
abbrev s__law_due : Stmt := topS 24
abbrev s__law_refused_right : Stmt := topS 30
abbrev s__law_ordered : Stmt := topS 26
abbrev s__law_spoil : Stmt := topS 29
abbrev s__law_linked : Stmt := topS 22
abbrev s__law_limits : Stmt := topS 27
abbrev s__law_is_limits : Stmt := topS 28
abbrev s_fits_vector : Stmt := topS 11
abbrev s_Network_limits_set : Stmt := clsDef (topS 13) 10
abbrev s_Network_limit_to : Stmt := clsDef (topS 13) 11
abbrev s__law_limited : Stmt := topS 23
abbrev s_Network_limits : Stmt := clsDef (topS 13) 9
abbrev s_Network_links : Stmt := clsDef (topS 13) 8
abbrev s_Network_nodes : Stmt := clsDef (topS 13) 7
abbrev s_Network___eq__ : Stmt := clsDef (topS 13) 4
abbrev s__law_equal_right : Stmt := topS 31
abbrev s_law : Stmt := topS 32
theorem bb_ValueError : bootBuiltins "ValueError" = some (.type "ValueError") := by decide +kernel
theorem bb_abs : bootBuiltins "abs" = some (.builtin "abs") := by decide +kernel
theorem bb_all : bootBuiltins "all" = some (.builtin "all") := by decide +kernel
theorem bb_bool : bootBuiltins "bool" = some (.type "bool") := by decide +kernel
theorem bb_int : bootBuiltins "int" = some (.type "int") := by decide +kernel
theorem bb_isinstance : bootBuiltins "isinstance" = some (.builtin "isinstance") := by decide +kernel
theorem bb_len : bootBuiltins "len" = some (.builtin "len") := by decide +kernel
theorem bb_list : bootBuiltins "list" = some (.type "list") := by decide +kernel
theorem bb_max : bootBuiltins "max" = some (.builtin "max") := by decide +kernel
theorem bb_min : bootBuiltins "min" = some (.builtin "min") := by decide +kernel
theorem bb_repr : bootBuiltins "repr" = some (.builtin "repr") := by decide +kernel
theorem bb_str : bootBuiltins "str" = some (.type "str") := by decide +kernel
theorem bb_tuple : bootBuiltins "tuple" = some (.type "tuple") := by decide +kernel
theorem sc__law_pen : FnScope ["_law_script"] ["_law_script"] (defScope s__law_pen) := ⟨rfl, rfl, rfl, by decide +kernel, rfl, by decide +kernel, by decide +kernel⟩
theorem sc__law_draw : FnScope ["_law_pen_here", "_law_many", "_law_digit", "_law_at", "_law_cell", "_law_primes", "_law_mixed"] ["_law_pen_here", "_law_many"] (defScope s__law_draw) := ⟨rfl, rfl, rfl, by decide +kernel, rfl, by decide +kernel, by decide +kernel⟩
theorem sc__law_pick : FnScope ["_law_pen_here", "_law_choices"] ["_law_pen_here", "_law_choices"] (defScope s__law_pick) := ⟨rfl, rfl, rfl, by decide +kernel, rfl, by decide +kernel, by decide +kernel⟩
theorem sc__law_odd : FnScope ["_law_pen_here", "_law_some_here"] ["_law_pen_here"] (defScope s__law_odd) := ⟨rfl, rfl, rfl, by decide +kernel, rfl, by decide +kernel, by decide +kernel⟩
theorem sc__law_some : FnScope ["_law_pen_here", "_law_nodes", "_law_most", "_law_found", "_law_turn", "_law_pair", "_law_odd_here"] ["_law_pen_here", "_law_nodes", "_law_most"] (defScope s__law_some) := ⟨rfl, rfl, rfl, by decide +kernel, rfl, by decide +kernel, by decide +kernel⟩
theorem sc__law_is_node : FnScope ["_law_value", "_law_nodes"] ["_law_value", "_law_nodes"] (defScope s__law_is_node) := ⟨rfl, rfl, rfl, by decide +kernel, rfl, by decide +kernel, by decide +kernel⟩
theorem sc__law_refused : FnScope ["_law_call", "e"] ["_law_call"] (defScope s__law_refused) := ⟨rfl, rfl, rfl, by decide +kernel, rfl, by decide +kernel, by decide +kernel⟩
theorem sc_is_integer : FnScope ["value"] ["value"] (defScope s_is_integer) := ⟨rfl, rfl, rfl, by decide +kernel, rfl, by decide +kernel, by decide +kernel⟩
theorem sc_is_between : FnScope ["value", "low", "high"] ["value", "low", "high"] (defScope s_is_between) := ⟨rfl, rfl, rfl, by decide +kernel, rfl, by decide +kernel, by decide +kernel⟩
theorem sc_is_list : FnScope ["value"] ["value"] (defScope s_is_list) := ⟨rfl, rfl, rfl, by decide +kernel, rfl, by decide +kernel, by decide +kernel⟩
theorem sc_Network_is_link : FnScope ["self", "value", "node"] ["self", "value"] (defScope s_Network_is_link) := ⟨rfl, rfl, rfl, by decide +kernel, rfl, by decide +kernel, by decide +kernel⟩
theorem sc_Network_link : FnScope ["self", "links", "index", "link"] ["self", "links"] (defScope s_Network_link) := ⟨rfl, rfl, rfl, by decide +kernel, rfl, by decide +kernel, by decide +kernel⟩
theorem sc_Network___init__ : FnScope ["self", "nodes", "links"] ["self", "nodes", "links"] (defScope s_Network___init__) := ⟨rfl, rfl, rfl, by decide +kernel, rfl, by decide +kernel, by decide +kernel⟩
theorem sc__law_is_link : FnScope ["_law_value", "_law_nodes"] ["_law_value", "_law_nodes"] (defScope s__law_is_link) := ⟨rfl, rfl, rfl, by decide +kernel, rfl, by decide +kernel, by decide +kernel⟩
theorem sc__law_due : FnScope ["_law_links", "_law_some_here", "_law_nodes", "_law_wrong", "_law_k"] ["_law_links", "_law_some_here", "_law_nodes"] (defScope s__law_due) := ⟨rfl, rfl, rfl, by decide +kernel, rfl, by decide +kernel, by decide +kernel⟩
theorem sc__law_refused_right : FnScope ["_law_pen_here", "_law_nodes", "_law_given", "_law_value", "_law_many", "_law_row"] ["_law_pen_here", "_law_nodes", "_law_given"] (defScope s__law_refused_right) := ⟨rfl, rfl, rfl, by decide +kernel, rfl, by decide +kernel, by decide +kernel⟩
theorem sc__law_ordered : FnScope ["_law_some_here", "_law_pair"] ["_law_some_here"] (defScope s__law_ordered) := ⟨rfl, rfl, rfl, by decide +kernel, rfl, by decide +kernel, by decide +kernel⟩
theorem sc__law_spoil : FnScope ["_law_some_here", "_law_pair"] ["_law_some_here"] (defScope s__law_spoil) := ⟨rfl, rfl, rfl, by decide +kernel, rfl, by decide +kernel, by decide +kernel⟩
theorem sc__law_linked : FnScope ["_law_net", "_law_some_here"] ["_law_net", "_law_some_here"] (defScope s__law_linked) := ⟨rfl, rfl, rfl, by decide +kernel, rfl, by decide +kernel, by decide +kernel⟩
theorem sc__law_limits : FnScope ["_law_pen_here", "_law_nodes", "_law_good", "_law_odd_here", "_law_node"] ["_law_pen_here", "_law_nodes"] (defScope s__law_limits) := ⟨rfl, rfl, rfl, by decide +kernel, rfl, by decide +kernel, by decide +kernel⟩
theorem sc__law_is_limits : FnScope ["_law_value", "_law_nodes", "_law_entry"] ["_law_value", "_law_nodes"] (defScope s__law_is_limits) := ⟨rfl, rfl, rfl, by decide +kernel, rfl, by decide +kernel, by decide +kernel⟩
theorem sc_fits_vector : FnScope ["value", "entry"] ["value"] (defScope s_fits_vector) := ⟨rfl, rfl, rfl, by decide +kernel, rfl, by decide +kernel, by decide +kernel⟩
theorem sc_Network_limits_set : FnScope ["self", "value", "entry"] ["self", "value"] (defScope s_Network_limits_set) := ⟨rfl, rfl, rfl, by decide +kernel, rfl, by decide +kernel, by decide +kernel⟩
theorem sc_Network_limit_to : FnScope ["self", "limits"] ["self", "limits"] (defScope s_Network_limit_to) := ⟨rfl, rfl, rfl, by decide +kernel, rfl, by decide +kernel, by decide +kernel⟩
theorem sc__law_limited : FnScope ["_law_net", "_law_value", "e"] ["_law_net", "_law_value"] (defScope s__law_limited) := ⟨rfl, rfl, rfl, by decide +kernel, rfl, by decide +kernel, by decide +kernel⟩
theorem sc_Network_limits : FnScope ["self"] ["self"] (defScope s_Network_limits) := ⟨rfl, rfl, rfl, by decide +kernel, rfl, by decide +kernel, by decide +kernel⟩
theorem sc_Network_links : FnScope ["self"] ["self"] (defScope s_Network_links) := ⟨rfl, rfl, rfl, by decide +kernel, rfl, by decide +kernel, by decide +kernel⟩
theorem sc_Network_nodes : FnScope ["self"] ["self"] (defScope s_Network_nodes) := ⟨rfl, rfl, rfl, by decide +kernel, rfl, by decide +kernel, by decide +kernel⟩
theorem sc_Network___eq__ : FnScope ["self", "other"] ["self", "other"] (defScope s_Network___eq__) := ⟨rfl, rfl, rfl, by decide +kernel, rfl, by decide +kernel, by decide +kernel⟩
theorem sc__law_equal_right : FnScope ["_law_net", "_law_nodes", "_law_links", "_law_limits_here", "_law_twin", "_law_turned"] ["_law_net", "_law_nodes", "_law_links", "_law_limits_here"] (defScope s__law_equal_right) := ⟨rfl, rfl, rfl, by decide +kernel, rfl, by decide +kernel, by decide +kernel⟩
theorem sc_law : FnScope ["_law_script", "_law_pen_here", "_law_turn", "_law_nodes", "_law_given", "_law_limits_here", "_law_links", "_law_net", "_law_again", "_law_some_here", "_law_kept", "_law_due_here", "_law_value", "_law_is_good"] ["_law_script"] (defScope s_law) := ⟨rfl, rfl, rfl, by decide +kernel, rfl, by decide +kernel, by decide +kernel⟩
abbrev si_InvalidLinks : Stmt := clsDef (topS 4) 0
theorem sci_InvalidLinks : FnScope ["self", "index"] ["self", "index"] (defScope si_InvalidLinks) := ⟨rfl, rfl, rfl, by decide +kernel, rfl, by decide +kernel, by decide +kernel⟩
abbrev si_InvalidIndex : Stmt := clsDef (topS 3) 0
theorem sci_InvalidIndex : FnScope ["self", "value"] ["self", "value"] (defScope si_InvalidIndex) := ⟨rfl, rfl, rfl, by decide +kernel, rfl, by decide +kernel, by decide +kernel⟩
abbrev si_InvalidVector : Stmt := clsDef (topS 2) 0
theorem sci_InvalidVector : FnScope ["self", "value"] ["self", "value"] (defScope si_InvalidVector) := ⟨rfl, rfl, rfl, by decide +kernel, rfl, by decide +kernel, by decide +kernel⟩
/-! ### the addresses of the classes -/
structure CA where
  c_InvalidLinks : Addr
  c_InvalidIndex : Addr
  c_InvalidVector : Addr
  c_Network : Addr
  lc__law_refused_right : Addr
  lP__law_refused_right : Addr
  lc__law_linked : Addr
  lP__law_linked : Addr
  dv_Network___init__ : Addr
structure TBs (base : Heap) (mg : Str → Option Value) (ca : CA) : Prop where
  tb__law_refused_right : LamX.TabB base mg ca.lc__law_refused_right ca.lP__law_refused_right
  tb__law_linked : LamX.TabB base mg ca.lc__law_linked ca.lP__law_linked
def allC (ca : CA) : List Addr := [ca.c_InvalidLinks, ca.c_InvalidIndex, ca.c_InvalidVector]
structure CaOk (ca : CA) : Prop where
  ne_InvalidLinks_InvalidIndex : ca.c_InvalidLinks ≠ ca.c_InvalidIndex
  ne_InvalidLinks_InvalidVector : ca.c_InvalidLinks ≠ ca.c_InvalidVector
  ne_InvalidIndex_InvalidLinks : ca.c_InvalidIndex ≠ ca.c_InvalidLinks
  ne_InvalidIndex_InvalidVector : ca.c_InvalidIndex ≠ ca.c_InvalidVector
  ne_InvalidVector_InvalidLinks : ca.c_InvalidVector ≠ ca.c_InvalidLinks
  ne_InvalidVector_InvalidIndex : ca.c_InvalidVector ≠ ca.c_InvalidIndex
/-! ### the mirror -/
noncomputable def b__law_pen (ca : CA) : MS :=
(mRet (mDisp (mPsC (mC (.str "cells")) (mCall (g1N gList) (mCons (mSl (mVar 0) mNone (mSome (mC (.int 63)))) mNil)) (mPsC (mC (.str "next")) (mC (.int 0)) (mPsC (mC (.str "left")) (mC (.int 0)) mPsN)))))
noncomputable def M__law_pen (ca : CA) : MF := mDef 1 (b__law_pen ca)
noncomputable def b__law_draw (ca : CA) : MS :=
(mSeq
(mIfS (mB (m2 gGt (m2 gSubs (mVar 0) (mC (.str "left"))) (mC (.int 0))))
(mSeq
(mSet 2 (m2 gMod (mCall (g1N gInt) (mCons (m2 gSubs (mVar 0) (mC (.str "left"))) mNil)) (mVar 1)))
(mSeq
(mStore (mVar 0) (mC (.str "left")) (m2 gDiv (m2 gSubs (mVar 0) (mC (.str "left"))) (mVar 1)))
(mRet (mVar 2))))
mSkip)
(mSeq
(mSet 3 (m2 gSubs (mVar 0) (mC (.str "next"))))
(mSeq
(mStore (mVar 0) (mC (.str "next")) (m2 gAdd (mVar 3) (mC (.int 1))))
(mSeq
(mSet 4 (m2 gAdd (m2 gMul (mC (.int 43)) (mVar 3)) (mC (.int 19))))
(mSeq
(mIfS (mB (m2 gNe (m2 gSubs (mVar 0) (mC (.str "cells"))) (mLst mNil)))
(mSet 4 (m2 gSubs (m2 gSubs (mVar 0) (mC (.str "cells"))) (m2 gMod (mCall (g1N gInt) (mCons (mVar 3) mNil)) (mCall (g1N gLen) (mCons (m2 gSubs (mVar 0) (mC (.str "cells"))) mNil)))))
mSkip)
(mSeq
(mIfS (mAnd (mB (m2 gLt (mVar 3) (mCall (g1N gLen) (mCons (m2 gSubs (mVar 0) (mC (.str "cells"))) mNil)))) (mB (m2 gGe (mCall (g1N gAbs) (mCons (mVar 4) mNil)) (m2 gPow (mC (.int 10)) (mC (.int 18))))))
(mSeq
(mStore (mVar 0) (mC (.str "left")) (m2 gDiv (m2 gSub (mCall (g1N gAbs) (mCons (mVar 4) mNil)) (m2 gPow (mC (.int 10)) (mC (.int 18)))) (mVar 1)))
(mRet (m2 gMod (m2 gSub (mCall (g1N gAbs) (mCons (mVar 4) mNil)) (m2 gPow (mC (.int 10)) (mC (.int 18)))) (mVar 1))))
mSkip)
(mSeq
(mSet 5 (mLst (mCons (mC (.int 2147483647)) (mCons (mC (.int 2147483629)) (mCons (mC (.int 2147483587)) (mCons (mC (.int 2147483579)) mNil))))))
(mSeq
(mSet 6 (m2 gAdd (m2 gAdd (m2 gAdd (m2 gMul (m2 gMod (mCall (g1N gInt) (mCons (mVar 4) mNil)) (mC (.int 4294967291))) (mC (.int 48271))) (m2 gMul (m2 gMul (mC (.int 40692)) (mVar 3)) (mVar 3))) (m2 gMul (mC (.int 69621)) (mVar 3))) (mC (.int 17))))
(mSeq
(mSet 6 (m2 gMod (mCall (g1N gInt) (mCons (mVar 6) mNil)) (m2 gSubs (mVar 5) (m2 gMod (mCall (g1N gInt) (mCons (mVar 3) mNil)) (mC (.int 4))))))
(mSeq
(mSet 6 (m2 gMod (mCall (g1N gInt) (mCons (m2 gAdd (m2 gAdd (m2 gAdd (m2 gMul (mVar 6) (mVar 6)) (m2 gMul (mC (.int 16807)) (mVar 6))) (m2 gMul (mC (.int 5)) (mVar 3))) (mC (.int 3))) mNil)) (mC (.int 4294967279))))
(mRet (m2 gMod (mCall (g1N gInt) (mCons (m2 gDiv (m2 gMod (mCall (g1N gInt) (mCons (m2 gMul (mVar 6) (m2 gAdd (mVar 6) (mC (.int 39916801)))) mNil)) (mC (.int 4294967231))) (mC (.int 64))) mNil)) (mVar 1)))))))))))))
noncomputable def M__law_draw (ca : CA) : MF := mDef 7 (b__law_draw ca)
noncomputable def b__law_pick (ca : CA) : MS :=
(mRet (m2 gSubs (mVar 1) (mCallF (M__law_draw ca) 2 [] (mCons (mVar 0) (mCons (mCall (g1N gLen) (mCons (mVar 1) mNil)) mNil)))))
noncomputable def M__law_pick (ca : CA) : MF := mDef 2 (b__law_pick ca)
noncomputable def b__law_odd (ca : CA) : MS :=
(mSeq
(mSet 1 (mLst (mCons (mC .non) (mCons (mC (.bl true)) (mCons (mC (.bl false)) (mCons (mC (.int 0)) (mCons (mC (.int 1)) (mCons (m1 gNeg (mC (.int 1))) (mCons (mC (.int 5)) (mCons (m2 gPow (mC (.int 10)) (mC (.int 29))) (mCons (mC (.str "")) (mCons (mC (.str "0")) (mCons (mC (.str "ab")) (mCons (mTup mNil) (mCons (mTup (mCons (mC (.int 0)) mNil)) (mCons (mLst mNil) (mCons (mLst (mCons (mC (.int 1)) mNil)) (mCons mDnew (mCons (mDisp (mPsC (mC (.int 0)) (mC (.int 1)) mPsN)) (mCons (mTup (mCons (mC .non) mNil)) (mCons (mTup (mCons (mTup (mCons (mC (.int 0)) mNil)) mNil)) mNil)))))))))))))))))))))
(mRet (mCallF (M__law_pick ca) 2 [] (mCons (mVar 0) (mCons (mVar 1) mNil)))))
noncomputable def M__law_odd (ca : CA) : MF := mDef 2 (b__law_odd ca)
noncomputable def b__law_some (ca : CA) : MS :=
(mSeq
(mSet 3 (mLst mNil))
(mSeq
(mFor (iRng1M (mCons (mCallF (M__law_draw ca) 2 [] (mCons (mVar 0) (mCons (m2 gAdd (mVar 2) (mC (.int 1))) mNil))) mNil)) (pName 4)
(mSeq
(mSet 5 (mTup (mCons (mCallF (M__law_draw ca) 2 [] (mCons (mVar 0) (mCons (mVar 1) mNil))) (mCons (mCallF (M__law_draw ca) 2 [] (mCons (mVar 0) (mCons (mVar 1) mNil))) mNil))))
(mSeq
(mSet 6 (mLst (mCons (mCallF (M__law_odd ca) 1 [] (mCons (mVar 0) mNil)) (mCons (mTup (mCons (mC (.int 0)) (mCons (mVar 1) mNil))) (mCons (mTup (mCons (m1 gNeg (mC (.int 1))) (mCons (mC (.int 0)) mNil))) (mCons (mTup (mCons (mC (.int 0)) mNil)) (mCons (mTup (mCons (mC (.int 0)) (mCons (mC (.int 0)) (mCons (mC (.int 0)) mNil)))) (mCons (mTup (mCons (mC (.bl true)) (mCons (mC (.int 0)) mNil))) (mCons (mTup (mCons (mC (.int 0)) (mCons (mC .non) mNil))) (mCons (mC (.str "00")) (mCons (mDisp (mPsC (mC (.int 0)) (mC (.int 0)) (mPsC (mC (.int 1)) (mC (.int 0)) mPsN))) mNil)))))))))))
(mExpr (mMeth "list" gApp (mVar 3) (mCons (mCallF (M__law_pick ca) 2 [] (mCons (mVar 0) (mCons (mLst (mCons (mVar 5) (mCons (mCall (g1N gList) (mCons (mVar 5) mNil)) (mCons (mVar 5) (mCons (m1 gRev (mVar 5)) (mCons (mVar 5) (mCons (mCallF (M__law_pick ca) 2 [] (mCons (mVar 0) (mCons (mVar 6) mNil))) mNil))))))) mNil))) mNil))))) bigN)
(mRet (mVar 3))))
noncomputable def M__law_some (ca : CA) : MF := mDef 7 (b__law_some ca)
noncomputable def b__law_is_node (ca : CA) : MS :=
(mRet (mAndV (m1 (gIsi .int) (mVar 0)) (mAndV (mNotV (m1 (gIsi .bool) (mVar 0))) (mChain gLe gLt (mC (.int 0)) (mVar 0) (mVar 1)))))
noncomputable def M__law_is_node (ca : CA) : MF := mDef 2 (b__law_is_node ca)
noncomputable def b__law_refused (ca : CA) (f0 : Addr) (T0 : Thk) : MS :=
(mSeq
(mTry (allC ca)
(mExpr (mThk f0 T0))
((Hd.mk ca.c_InvalidIndex 1 (fun ax dx nx =>
(mRet (mTup (mCons (mC (.str "index")) (mCons (mCall (g1N gRepr) (mCons (mXf ax dx nx "value" (mVar 1)) mNil)) (mCons (mIsX ax dx nx true (mVar 1)) mNil))))))) :: ((Hd.mk ca.c_InvalidLinks 1 (fun ax dx nx =>
(mRet (mTup (mCons (mC (.str "links")) (mCons (mCall (g1N gRepr) (mCons (mXf ax dx nx "index" (mVar 1)) mNil)) (mCons (mIsX ax dx nx true (mVar 1)) mNil))))))) :: [])))
(mRet (mC .non)))
noncomputable def M__law_refused (ca : CA) : MFT := mDefT 2 (b__law_refused ca)
noncomputable def b_is_integer (ca : CA) : MS :=
(mRet (mAndV (m1 (gIsi .int) (mVar 0)) (mNotV (m1 (gIsi .bool) (mVar 0)))))
noncomputable def M_is_integer (ca : CA) : MF := mDef 1 (b_is_integer ca)
noncomputable def b_is_between (ca : CA) : MS :=
(mRet (mAndV (mCallF (M_is_integer ca) 1 [] (mCons (mVar 0) mNil)) (mChain gLe gLe (mVar 1) (mVar 0) (mVar 2))))
noncomputable def M_is_between (ca : CA) : MF := mDef 3 (b_is_between ca)
noncomputable def b_is_list (ca : CA) : MS :=
(mRet (m1 (gIsiA [.lst, .tup]) (mVar 0)))
noncomputable def M_is_list (ca : CA) : MF := mDef 1 (b_is_list ca)
noncomputable def b_Network_is_link (ca : CA) : MS :=
(mRet (mAndV (mCallF (M_is_list ca) 1 [] (mCons (mVar 1) mNil)) (mAndV (m2 gEq (mCall (g1N gLen) (mCons (mVar 1) mNil)) (mC (.int 2))) (mCall (g1N gAll) (mCons (mComp (iSeq (mVar 1)) (pName 2) mYes
(mCallF (M_is_between ca) 3 [] (mCons (mVar 2) (mCons (mC (.int 0)) (mCons (m2 gSub (m1 (gFld [ca.c_Network] "size") (mVar 0)) (mC (.int 1))) mNil)))) [2] bigN) mNil)))))
noncomputable def M_Network_is_link (ca : CA) : MF := mDef 3 (b_Network_is_link ca)
noncomputable def b_Network_link (ca : CA) : MS :=
(mSeq
(mFor (mIt (mCons (mVar 1) mNil) (enuD 0)) (pTup 2 (pCons (pName 2) (pCons (pName 3) pNil)))
(mIfS (mNot (mTr (mMth [ca.c_Network] "is_link" (M_Network_is_link ca) 2 [] (mVar 0) (mCons (mVar 3) mNil))))
(mRaise ca.c_InvalidLinks ["index"] (mCons (mVar 2) mNil))
mSkip) bigN)
(mSeq
(mIfS (mB (m2 gGt (m2 gAdd (mCall (g1N gLen) (mCons (m1 (gFld [ca.c_Network] "pairs") (mVar 0)) mNil)) (mCall (g1N gLen) (mCons (mVar 1) mNil))) (m1 (gCon [ca.c_Network] "MAX_LINKS" 8) (mVar 0))))
(mRaise ca.c_InvalidLinks ["index"] (mCons (m1 (gCon [ca.c_Network] "MAX_LINKS" 8) (mVar 0)) mNil))
mSkip)
(mExpr (mMeth "list" gExtend (m1 (gFld [ca.c_Network] "pairs") (mVar 0)) (mCons (mComp (iSeq (mVar 1)) (pName 3) mYes
(mTup (mCons (mCall (g1N gMinS) (mCons (mVar 3) mNil)) (mCons (mCall (g1N gMaxS) (mCons (mVar 3) mNil)) mNil))) [3] bigN) mNil)))))
noncomputable def M_Network_link (ca : CA) : MF := mDefS 1 4 (b_Network_link ca)
noncomputable def b_Network___init__ (ca : CA) : MS :=
(mSeq
(mIfS (mNot (mTr (mCallF (M_is_between ca) 3 [] (mCons (mVar 1) (mCons (mC (.int 1)) (mCons (m1 (gCon [ca.c_Network] "MAX_NODES" 5) (mVar 0)) mNil))))))
(mRaise ca.c_InvalidIndex ["value"] (mCons (mVar 1) mNil))
mSkip)
(mSeq
(mSetF [ca.c_Network] "size" (mVar 0) (mVar 1))
(mSeq
(mSetF [ca.c_Network] "pairs" (mVar 0) (mLst mNil))
(mSeq
(mSetF [ca.c_Network] "caps" (mVar 0) (m2 gMulT (mTup (mCons (m1 (gCon [ca.c_Network] "MAX_LIMIT" 16) (mVar 0)) mNil)) (mVar 1)))
(mExpr (mMthLd ca.dv_Network___init__ [ca.c_Network] "link" (M_Network_link ca) 1 (mVar 0) 2))))))
noncomputable def M_Network___init__ (ca : CA) : MF := mDef 3 (b_Network___init__ ca)
noncomputable def b__law_is_link (ca : CA) : MS :=
(mSeq
(mIfS (mOr (mNot (mTr (m1 (gIsiA [.lst, .tup]) (mVar 0)))) (mB (m2 gNe (mCall (g1N gLen) (mCons (mVar 0) mNil)) (mC (.int 2)))))
(mRet (mC (.bl false)))
mSkip)
(mRet (mAndV (mCallF (M__law_is_node ca) 2 [] (mCons (m2 gSubs (mVar 0) (mC (.int 0))) (mCons (mVar 1) mNil))) (mCallF (M__law_is_node ca) 2 [] (mCons (m2 gSubs (mVar 0) (mC (.int 1))) (mCons (mVar 1) mNil))))))
noncomputable def M__law_is_link (ca : CA) : MF := mDef 2 (b__law_is_link ca)
noncomputable def b__law_due (ca : CA) : MS :=
(mSeq
(mSet 3 (mComp (iRng1M (mCons (mCall (g1N gLen) (mCons (mVar 1) mNil)) mNil)) (pName 4) (mNot (mTr (mCallF (M__law_is_link ca) 2 [] (mCons (m2 gSubs (mVar 1) (mVar 4)) (mCons (mVar 2) mNil)))))
(mVar 4) [4] bigN))
(mSeq
(mIfS (mB (m2 gNe (mVar 3) (mLst mNil)))
(mRet (mTup (mCons (mC (.str "links")) (mCons (mCall (g1N gStr) (mCons (m2 gSubs (mVar 3) (mC (.int 0))) mNil)) (mCons (mC (.bl true)) mNil)))))
mSkip)
(mRet (mIf (mB (m2 gGt (m2 gAdd (mCall (g1N gLen) (mCons (mVar 0) mNil)) (mCall (g1N gLen) (mCons (mVar 1) mNil))) (mC (.int 8)))) (mTup (mCons (mC (.str "links")) (mCons (mC (.str "8")) (mCons (mC (.bl true)) mNil)))) (mC .non)))))
noncomputable def M__law_due (ca : CA) : MF := mDef 5 (b__law_due ca)
noncomputable def b__law_refused_right (ca : CA) : MS :=
(mSeq
(mFor (iSeq (mLst (mCons (mC (.int 0)) (mCons (mC (.int 6)) (mCons (mCallF (M__law_odd ca) 1 [] (mCons (mVar 0) mNil)) (mCons (mC (.bl true)) (mCons (mTup (mCons (mVar 1) mNil)) (mCons (mCall (g1N gStr) (mCons (mVar 1) mNil)) mNil)))))))) (pName 3)
(mIfS (mOr (mNot (mTr (mCallF (M__law_is_node ca) 2 [] (mCons (mVar 3) (mCons (mC (.int 6)) mNil))))) (mB (m2 gEq (mVar 3) (mC (.int 0)))))
(mIfS (mB (m2 gNe (mLam 0 ca.lP__law_refused_right (("_law_refused_right" : Str) ++ ".<locals>." ++ "<lambda>") (M__law_refused ca) (mMake ca.c_Network (M_Network___init__ ca) 3 [] (mCons (mVar 3) (mCons (mVar 2) mNil)))) (mTup (mCons (mC (.str "index")) (mCons (mCall (g1N gRepr) (mCons (mVar 3) mNil)) (mCons (mC (.bl true)) mNil))))))
(mRet (mC (.bl false)))
mSkip)
mSkip) bigN)
(mSeq
(mSet 4 (m2 gMul (mLst (mCons (mTup (mCons (mC (.int 0)) (mCons (m2 gSub (mVar 1) (mC (.int 1))) mNil))) mNil)) (m2 gAdd (mC (.int 7)) (mCallF (M__law_draw ca) 2 [] (mCons (mVar 0) (mCons (mC (.int 4)) mNil))))))
(mSeq
(mFor (iSeq (mLst (mCons (mVar 2) (mCons (mVar 4) (mCons (m2 gAdd (mVar 4) (mLst (mCons (mC .non) mNil))) mNil))))) (pName 5)
(mIfS (mB (m2 gNe (mLam 0 ca.lP__law_refused_right (("_law_refused_right" : Str) ++ ".<locals>." ++ "<lambda>") (M__law_refused ca) (mMake ca.c_Network (M_Network___init__ ca) 3 [] (mCons (mVar 1) (mCons (mVar 5) mNil)))) (mCallF (M__law_due ca) 3 [] (mCons (mTup mNil) (mCons (mVar 5) (mCons (mVar 1) mNil))))))
(mRet (mC (.bl false)))
mSkip) bigN)
(mRet (m2 gIs (mLam 0 ca.lP__law_refused_right (("_law_refused_right" : Str) ++ ".<locals>." ++ "<lambda>") (M__law_refused ca) (mMake ca.c_Network (M_Network___init__ ca) 3 [.adr ca.dv_Network___init__] (mCons (mVar 1) mNil))) (mC .non))))))
noncomputable def M__law_refused_right (ca : CA) : MF := mDef 6 (b__law_refused_right ca)
noncomputable def b__law_ordered (ca : CA) : MS :=
(mRet (mCall (g1N gTuple) (mCons (mComp (iSeq (mVar 0)) (pName 1) mYes
(mTup (mCons (mCall (g1N gMinS) (mCons (mVar 1) mNil)) (mCons (mCall (g1N gMaxS) (mCons (mVar 1) mNil)) mNil))) [1] bigN) mNil)))
noncomputable def M__law_ordered (ca : CA) : MF := mDef 2 (b__law_ordered ca)
noncomputable def b__law_spoil (ca : CA) : MS :=
(mFor (iSeq (mVar 0)) (pName 1)
(mIfS (mTr (m1 (gIsi .lst) (mVar 1)))
(mExpr (mMeth "list" gApp (mVar 1) (mCons (mC (.int 9)) mNil)))
mSkip) bigN)
noncomputable def M__law_spoil (ca : CA) : MF := mDef 2 (b__law_spoil ca)
noncomputable def b__law_linked (ca : CA) : MS :=
(mSeq
(mIfS (mB (m2 gEq (mCall (g1N gLen) (mCons (mVar 1) mNil)) (mC (.int 0))))
(mRet (mLam 1 ca.lP__law_linked (("_law_linked" : Str) ++ ".<locals>." ++ "<lambda>") (M__law_refused ca) (mMthS [ca.c_Network] "link" (M_Network_link ca) 1 (mVar 0) mNil)))
mSkip)
(mSeq
(mIfS (mB (m2 gEq (mCall (g1N gLen) (mCons (mVar 1) mNil)) (mC (.int 1))))
(mRet (mLam 1 ca.lP__law_linked (("_law_linked" : Str) ++ ".<locals>." ++ "<lambda>") (M__law_refused ca) (mMthS [ca.c_Network] "link" (M_Network_link ca) 1 (mVar 0) (mCons (m2 gSubs (mVar 1) (mC (.int 0))) mNil))))
mSkip)
(mSeq
(mIfS (mB (m2 gEq (mCall (g1N gLen) (mCons (mVar 1) mNil)) (mC (.int 2))))
(mRet (mLam 1 ca.lP__law_linked (("_law_linked" : Str) ++ ".<locals>." ++ "<lambda>") (M__law_refused ca) (mMthS [ca.c_Network] "link" (M_Network_link ca) 1 (mVar 0) (mCons (m2 gSubs (mVar 1) (mC (.int 0))) (mCons (m2 gSubs (mVar 1) (mC (.int 1))) mNil)))))
mSkip)
(mRet (mLam 1 ca.lP__law_linked (("_law_linked" : Str) ++ ".<locals>." ++ "<lambda>") (M__law_refused ca) (mMthS [ca.c_Network] "link" (M_Network_link ca) 1 (mVar 0) (mCons (m2 gSubs (mVar 1) (mC (.int 0))) (mCons (m2 gSubs (mVar 1) (mC (.int 1))) (mCons (m2 gSubs (mVar 1) (mC (.int 2))) mNil)))))))))
noncomputable def M__law_linked (ca : CA) : MF := mDef 2 (b__law_linked ca)
noncomputable def b__law_limits (ca : CA) : MS :=
(mSeq
(mSet 2 (mCall (g1N gTuple) (mCons (mComp (iRng1M (mCons (mVar 1) mNil)) (pName 4) mYes
(mCallF (M__law_pick ca) 2 [] (mCons (mVar 0) (mCons (mLst (mCons (mC (.int 0)) (mCons (mC (.int 1)) (mCons (mC (.int 2)) (mCons (mC (.int 16)) (mCons (mCallF (M__law_draw ca) 2 [] (mCons (mVar 0) (mCons (mC (.int 17)) mNil))) mNil)))))) mNil))) [4] bigN) mNil)))
(mSeq
(mSet 3 (mLst (mCons (mCall (g1N gList) (mCons (mVar 2) mNil)) (mCons (mSl (mVar 2) (mSome (mC (.int 1))) mNone) (mCons (m2 gAdd (mVar 2) (mTup (mCons (mC (.int 0)) mNil))) (mCons (m2 gAdd (mTup (mCons (mC (.int 17)) mNil)) (mSl (mVar 2) (mSome (mC (.int 1))) mNone)) (mCons (m2 gAdd (mSl (mVar 2) mNone (mSome (m1 gNeg (mC (.int 1))))) (mTup (mCons (m1 gNeg (mC (.int 1))) mNil))) (mCons (m2 gAdd (mTup (mCons (mC (.bl true)) mNil)) (mSl (mVar 2) (mSome (mC (.int 1))) mNone)) (mCons (mCallF (M__law_odd ca) 1 [] (mCons (mVar 0) mNil)) mNil)))))))))
(mRet (mCallF (M__law_pick ca) 2 [] (mCons (mVar 0) (mCons (mLst (mCons (mVar 2) (mCons (mVar 2) (mCons (mVar 2) (mCons (mCallF (M__law_pick ca) 2 [] (mCons (mVar 0) (mCons (mVar 3) mNil))) mNil))))) mNil))))))
noncomputable def M__law_limits (ca : CA) : MF := mDef 5 (b__law_limits ca)
noncomputable def b__law_is_limits (ca : CA) : MS :=
(mSeq
(mIfS (mOr (mNot (mTr (m1 (gIsi .tup) (mVar 0)))) (mB (m2 gNe (mCall (g1N gLen) (mCons (mVar 0) mNil)) (mVar 1))))
(mRet (mC (.bl false)))
mSkip)
(mRet (m2 gEq (mComp (iSeq (mVar 0)) (pName 2) (mNot (mTr (mCallF (M__law_is_node ca) 2 [] (mCons (mVar 2) (mCons (mC (.int 17)) mNil)))))
(mVar 2) [2] bigN) (mLst mNil))))
noncomputable def M__law_is_limits (ca : CA) : MF := mDef 3 (b__law_is_limits ca)
noncomputable def b_fits_vector (ca : CA) : MS :=
(mSeq
(mIfS (mOr (mNot (mTr (m1 (gIsi .tup) (mVar 0)))) (mNot (mB (mChain gLe gLe (mC (.int 1)) (mCall (g1N gLen) (mCons (mVar 0) mNil)) (mC (.int 5))))))
(mRet (mC (.bl false)))
mSkip)
(mRet (mCall (g1N gAll) (mCons (mComp (iSeq (mVar 0)) (pName 1) mYes
(mCallF (M_is_between ca) 3 [] (mCons (mVar 1) (mCons (m1 gNeg (mC (.int 1000))) (mCons (mC (.int 1000)) mNil)))) [1] bigN) mNil))))
noncomputable def M_fits_vector (ca : CA) : MF := mDef 2 (b_fits_vector ca)
noncomputable def b_Network_limits_set (ca : CA) : MS :=
(mSeq
(mIfS (mOr (mNot (mTr (mCallF (M_fits_vector ca) 1 [] (mCons (mVar 1) mNil)))) (mB (m2 gNe (mCall (g1N gLen) (mCons (mVar 1) mNil)) (m1 (gFld [ca.c_Network] "size") (mVar 0)))))
(mRaise ca.c_InvalidVector ["value"] (mCons (mVar 1) mNil))
mSkip)
(mSeq
(mIfS (mNot (mTr (mCall (g1N gAll) (mCons (mComp (iSeq (mVar 1)) (pName 2) mYes
(mChain gLe gLe (mC (.int 0)) (mVar 2) (m1 (gCon [ca.c_Network] "MAX_LIMIT" 16) (mVar 0))) [2] bigN) mNil))))
(mRaise ca.c_InvalidVector ["value"] (mCons (mVar 1) mNil))
mSkip)
(mSetF [ca.c_Network] "caps" (mVar 0) (mVar 1))))
noncomputable def M_Network_limits_set (ca : CA) : MF := mDef 3 (b_Network_limits_set ca)
noncomputable def b_Network_limit_to (ca : CA) : MS :=
(mSetP [ca.c_Network] (M_Network_limits_set ca) (mVar 0) (mVar 1))
noncomputable def M_Network_limit_to (ca : CA) : MF := mDef 2 (b_Network_limit_to ca)
noncomputable def b__law_limited (ca : CA) : MS :=
(mSeq
(mTry (allC ca)
(mExpr (mMth [ca.c_Network] "limit_to" (M_Network_limit_to ca) 2 [] (mVar 0) (mCons (mVar 1) mNil)))
((Hd.mk ca.c_InvalidVector 2 (fun ax dx nx =>
(mRet (mTup (mCons (mCall (g1N gRepr) (mCons (mXf ax dx nx "value" (mVar 2)) mNil)) (mCons (mIsX ax dx nx true (mVar 2)) mNil)))))) :: []))
(mRet (mC .non)))
noncomputable def M__law_limited (ca : CA) : MF := mDef 3 (b__law_limited ca)
noncomputable def b_Network_limits (ca : CA) : MS :=
(mRet (m1 (gFld [ca.c_Network] "caps") (mVar 0)))
noncomputable def M_Network_limits (ca : CA) : MF := mDef 1 (b_Network_limits ca)
noncomputable def b_Network_links (ca : CA) : MS :=
(mRet (mCall (g1N gTuple) (mCons (m1 (gFld [ca.c_Network] "pairs") (mVar 0)) mNil)))
noncomputable def M_Network_links (ca : CA) : MF := mDef 1 (b_Network_links ca)
noncomputable def b_Network_nodes (ca : CA) : MS :=
(mRet (m1 (gFld [ca.c_Network] "size") (mVar 0)))
noncomputable def M_Network_nodes (ca : CA) : MF := mDef 1 (b_Network_nodes ca)
noncomputable def b_Network___eq__ (ca : CA) : MS :=
(mSeq
(mIfS (mOr (mNot (mTr (m1 (gIsiO ca.c_Network) (mVar 1)))) (mB (m2 gNe (m1 (gFld [ca.c_Network] "size") (mVar 0)) (m1 (gFld [ca.c_Network] "size") (mVar 1)))))
(mRet (mC (.bl false)))
mSkip)
(mRet (mAndV (m2 gEq (m1 (gFld [ca.c_Network] "pairs") (mVar 0)) (m1 (gFld [ca.c_Network] "pairs") (mVar 1))) (m2 gEq (m1 (gFld [ca.c_Network] "caps") (mVar 0)) (m1 (gFld [ca.c_Network] "caps") (mVar 1))))))
noncomputable def M_Network___eq__ (ca : CA) : MF := mDef 2 (b_Network___eq__ ca)
noncomputable def b__law_equal_right (ca : CA) : MS :=
(mSeq
(mPar 4 5 (mCons (mMake ca.c_Network (M_Network___init__ ca) 3 [] (mCons (mVar 1) (mCons (mVar 2) mNil))) (mCons (mMake ca.c_Network (M_Network___init__ ca) 3 [] (mCons (mVar 1) (mCons (m1 gRev (mVar 2)) mNil))) mNil)))
(mSeq
(mIfS (mOr (mB (m2 gNe (mEqO ca.c_Network (M_Network___eq__ ca) false gEq (mVar 0) (mVar 4)) (m2 gEq (mVar 3) (m2 gMulT (mTup (mCons (mC (.int 16)) mNil)) (mVar 1))))) (mOr (mB (mEqO ca.c_Network (M_Network___eq__ ca) false gEq (mVar 0) (mVar 2))) (mB (mEqO ca.c_Network (M_Network___eq__ ca) false gEq (mVar 0) (mMake ca.c_Network (M_Network___init__ ca) 3 [] (mCons (m2 gAdd (m2 gMod (mCall (g1N gInt) (mCons (mVar 1) mNil)) (mC (.int 5))) (mC (.int 1))) (mCons (mTup mNil) mNil)))))))
(mRet (mC (.bl false)))
mSkip)
(mSeq
(mExpr (mMth [ca.c_Network] "limit_to" (M_Network_limit_to ca) 2 [] (mVar 4) (mCons (mVar 3) mNil)))
(mSeq
(mExpr (mMth [ca.c_Network] "limit_to" (M_Network_limit_to ca) 2 [] (mVar 5) (mCons (mVar 3) mNil)))
(mSeq
(mIfS (mB (m2 gNe (mEqO ca.c_Network (M_Network___eq__ ca) false gEq (mVar 0) (mVar 5)) (m2 gEq (mVar 2) (m1 gRev (mVar 2)))))
(mRet (mC (.bl false)))
mSkip)
(mRet (mAndV (mEqO ca.c_Network (M_Network___eq__ ca) false gEq (mVar 0) (mVar 4)) (mAndV (mEqO ca.c_Network (M_Network___eq__ ca) false gEq (mVar 4) (mVar 0)) (mOrV (m2 gEq (mVar 2) (mTup mNil)) (mEqO ca.c_Network (M_Network___eq__ ca) true gNe (mVar 0) (mMake ca.c_Network (M_Network___init__ ca) 3 [] (mCons (mVar 1) (mCons (mSl (mVar 2) (mSome (mC (.int 1))) mNone) mNil)))))))))))))
noncomputable def M__law_equal_right (ca : CA) : MF := mDef 6 (b__law_equal_right ca)
noncomputable def b_law (ca : CA) : MS :=
(mSeq
(mSet 1 (mCallF (M__law_pen ca) 1 [] (mCons (mVar 0) mNil)))
(mSeq
(mFor (iRng1M (mCons (m2 gAdd (mC (.int 2)) (mCall (g2N gMin2) (mCons (mC (.int 3)) (mCons (mCall (g1N gLen) (mCons (mVar 0) mNil)) mNil)))) mNil)) (pName 2)
(mSeq
(mSet 3 (m2 gAdd (mC (.int 1)) (mCallF (M__law_draw ca) 2 [] (mCons (mVar 1) (mCons (mC (.int 5)) mNil)))))
(mSeq
(mSet 4 (mCallF (M__law_some ca) 3 [] (mCons (mVar 1) (mCons (mVar 3) (mCons (mC (.int 3)) mNil)))))
(mSeq
(mIfS (mNot (mTr (mCallF (M__law_refused_right ca) 3 [] (mCons (mVar 1) (mCons (mVar 3) (mCons (mVar 4) mNil))))))
(mRet (mC (.bl false)))
mSkip)
(mSeq
(mPar 4 5 (mCons (mIf (mB (m2 gIs (mCallF (M__law_due ca) 3 [] (mCons (mTup mNil) (mCons (mVar 4) (mCons (mVar 3) mNil)))) (mC .non))) (mVar 4) (mLst mNil)) (mCons (m2 gMulT (mTup (mCons (mC (.int 16)) mNil)) (mVar 3)) mNil)))
(mSeq
(mPar 6 7 (mCons (mCallF (M__law_ordered ca) 1 [] (mCons (mVar 4) mNil)) (mCons (mMake ca.c_Network (M_Network___init__ ca) 3 [] (mCons (mVar 3) (mCons (mVar 4) mNil))) mNil)))
(mSeq
(mExpr (mMeth "list" gApp (mVar 4) (mCons (mTup (mCons (mC (.int 0)) (mCons (mC (.int 0)) mNil))) mNil)))
(mSeq
(mExpr (mCallF (M__law_spoil ca) 1 [] (mCons (mVar 4) mNil)))
(mFor (iRng1M (mCons (mC (.int 8)) mNil)) (pName 8)
(mSeq
(mSet 9 (mCallF (M__law_some ca) 3 [] (mCons (mVar 1) (mCons (mVar 3) (mCons (mC (.int 3)) mNil)))))
(mSeq
(mPar 10 11 (mCons (mCall (g1N gRepr) (mCons (mVar 9) mNil)) (mCons (mCallF (M__law_due ca) 3 [] (mCons (mVar 6) (mCons (mVar 9) (mCons (mVar 3) mNil)))) mNil)))
(mSeq
(mIfS (mOr (mB (m2 gNe (mCallF (M__law_linked ca) 2 [] (mCons (mVar 7) (mCons (mVar 9) mNil))) (mVar 11))) (mB (m2 gNe (mCall (g1N gRepr) (mCons (mVar 9) mNil)) (mVar 10))))
(mRet (mC (.bl false)))
mSkip)
(mSeq
(mSet 6 (mIf (mB (m2 gIs (mVar 11) (mC .non))) (m2 gAdd (mVar 6) (mCallF (M__law_ordered ca) 1 [] (mCons (mVar 9) mNil))) (mVar 6)))
(mSeq
(mExpr (mCallF (M__law_spoil ca) 1 [] (mCons (mVar 9) mNil)))
(mSeq
(mSet 12 (mCallF (M__law_limits ca) 2 [] (mCons (mVar 1) (mCons (mVar 3) mNil))))
(mSeq
(mSet 13 (mCallF (M__law_is_limits ca) 2 [] (mCons (mVar 12) (mCons (mVar 3) mNil))))
(mSeq
(mIfS (mB (m2 gNe (mCallF (M__law_limited ca) 2 [] (mCons (mVar 7) (mCons (mVar 12) mNil))) (mIf (mTr (mVar 13)) (mC .non) (mTup (mCons (mCall (g1N gRepr) (mCons (mVar 12) mNil)) (mCons (mC (.bl true)) mNil))))))
(mRet (mC (.bl false)))
mSkip)
(mSeq
(mSet 5 (mIf (mTr (mVar 13)) (mVar 12) (mVar 5)))
(mSeq
(mIfS (mB (m2 gNe (mCall (g1N gRepr) (mCons (mTup (mCons (mProp [ca.c_Network] (M_Network_nodes ca) (mVar 7)) (mCons (mProp [ca.c_Network] (M_Network_links ca) (mVar 7)) (mCons (mProp [ca.c_Network] (M_Network_limits ca) (mVar 7)) mNil)))) mNil)) (mCall (g1N gRepr) (mCons (mTup (mCons (mVar 3) (mCons (mVar 6) (mCons (mVar 5) mNil)))) mNil))))
(mRet (mC (.bl false)))
mSkip)
(mIfS (mNot (mTr (mCallF (M__law_equal_right ca) 4 [] (mCons (mVar 7) (mCons (mVar 3) (mCons (mVar 6) (mCons (mVar 5) mNil)))))))
(mRet (mC (.bl false)))
mSkip))))))))))) bigN)))))))) bigN)
(mRet (mC (.bl true)))))
noncomputable def M_law (ca : CA) : MF := mDef 14 (b_law ca)
/-! ### what the top has written -/
structure Tx (K : PySem.W.Frag) (mg : Str → Option Value) (ca : CA) where
  f__law_pen : Addr
  fd__law_pen : FuncData
  F__law_pen : FunD K "_law_pen" "_law_pen" (defArgs s__law_pen) (defBody s__law_pen) (defScope s__law_pen) [] [] f__law_pen fd__law_pen
  g__law_pen : mg "_law_pen" = some (.ref f__law_pen)
  f__law_draw : Addr
  fd__law_draw : FuncData
  F__law_draw : FunD K "_law_draw" "_law_draw" (defArgs s__law_draw) (defBody s__law_draw) (defScope s__law_draw) [] [] f__law_draw fd__law_draw
  g__law_draw : mg "_law_draw" = some (.ref f__law_draw)
  f__law_pick : Addr
  fd__law_pick : FuncData
  F__law_pick : FunD K "_law_pick" "_law_pick" (defArgs s__law_pick) (defBody s__law_pick) (defScope s__law_pick) [] [] f__law_pick fd__law_pick
  g__law_pick : mg "_law_pick" = some (.ref f__law_pick)
  f__law_odd : Addr
  fd__law_odd : FuncData
  F__law_odd : FunD K "_law_odd" "_law_odd" (defArgs s__law_odd) (defBody s__law_odd) (defScope s__law_odd) [] [] f__law_odd fd__law_odd
  g__law_odd : mg "_law_odd" = some (.ref f__law_odd)
  f__law_some : Addr
  fd__law_some : FuncData
  F__law_some : FunD K "_law_some" "_law_some" (defArgs s__law_some) (defBody s__law_some) (defScope s__law_some) [] [] f__law_some fd__law_some
  g__law_some : mg "_law_some" = some (.ref f__law_some)
  f__law_is_node : Addr
  fd__law_is_node : FuncData
  F__law_is_node : FunD K "_law_is_node" "_law_is_node" (defArgs s__law_is_node) (defBody s__law_is_node) (defScope s__law_is_node) [] [] f__law_is_node fd__law_is_node
  g__law_is_node : mg "_law_is_node" = some (.ref f__law_is_node)
  f__law_refused : Addr
  fd__law_refused : FuncData
  F__law_refused : FunD K "_law_refused" "_law_refused" (defArgs s__law_refused) (defBody s__law_refused) (defScope s__law_refused) [] [] f__law_refused fd__law_refused
  g__law_refused : mg "_law_refused" = some (.ref f__law_refused)
  f_is_integer : Addr
  fd_is_integer : FuncData
  F_is_integer : FunD K "is_integer" "is_integer" (defArgs s_is_integer) (defBody s_is_integer) (defScope s_is_integer) [] [] f_is_integer fd_is_integer
  g_is_integer : mg "is_integer" = some (.ref f_is_integer)
  f_is_between : Addr
  fd_is_between : FuncData
  F_is_between : FunD K "is_between" "is_between" (defArgs s_is_between) (defBody s_is_between) (defScope s_is_between) [] [] f_is_between fd_is_between
  g_is_between : mg "is_between" = some (.ref f_is_between)
  f_is_list : Addr
  fd_is_list : FuncData
  F_is_list : FunD K "is_list" "is_list" (defArgs s_is_list) (defBody s_is_list) (defScope s_is_list) [] [] f_is_list fd_is_list
  g_is_list : mg "is_list" = some (.ref f_is_list)
  f_Network_is_link : Addr
  fd_Network_is_link : FuncData
  F_Network_is_link : FunD K "is_link" "Network.is_link" (defArgs s_Network_is_link) (defBody s_Network_is_link) (defScope s_Network_is_link) [] [] f_Network_is_link fd_Network_is_link
  f_Network_link : Addr
  fd_Network_link : FuncData
  F_Network_link : FunD K "link" "Network.link" (defArgs s_Network_link) (defBody s_Network_link) (defScope s_Network_link) [] [] f_Network_link fd_Network_link
  dvk_Network___init__ : ∃ o n, K.lookup ca.dv_Network___init__ = some o ∧ o.cls = .type "tuple" ∧ o.data = .seq #[] n
  f_Network___init__ : Addr
  fd_Network___init__ : FuncData
  F_Network___init__ : FunD K "__init__" "Network.__init__" (defArgs s_Network___init__) (defBody s_Network___init__) (defScope s_Network___init__) [.ref ca.dv_Network___init__] [] f_Network___init__ fd_Network___init__
  f__law_is_link : Addr
  fd__law_is_link : FuncData
  F__law_is_link : FunD K "_law_is_link" "_law_is_link" (defArgs s__law_is_link) (defBody s__law_is_link) (defScope s__law_is_link) [] [] f__law_is_link fd__law_is_link
  g__law_is_link : mg "_law_is_link" = some (.ref f__law_is_link)
  f__law_due : Addr
  fd__law_due : FuncData
  F__law_due : FunD K "_law_due" "_law_due" (defArgs s__law_due) (defBody s__law_due) (defScope s__law_due) [] [] f__law_due fd__law_due
  g__law_due : mg "_law_due" = some (.ref f__law_due)
  f__law_refused_right : Addr
  fd__law_refused_right : FuncData
  F__law_refused_right : FunD K "_law_refused_right" "_law_refused_right" (defArgs s__law_refused_right) (defBody s__law_refused_right) (defScope s__law_refused_right) [] [] f__law_refused_right fd__law_refused_right
  g__law_refused_right : mg "_law_refused_right" = some (.ref f__law_refused_right)
  f__law_ordered : Addr
  fd__law_ordered : FuncData
  F__law_ordered : FunD K "_law_ordered" "_law_ordered" (defArgs s__law_ordered) (defBody s__law_ordered) (defScope s__law_ordered) [] [] f__law_ordered fd__law_ordered
  g__law_ordered : mg "_law_ordered" = some (.ref f__law_ordered)
  f__law_spoil : Addr
  fd__law_spoil : FuncData
  F__law_spoil : FunD K "_law_spoil" "_law_spoil" (defArgs s__law_spoil) (defBody s__law_spoil) (defScope s__law_spoil) [] [] f__law_spoil fd__law_spoil
  g__law_spoil : mg "_law_spoil" = some (.ref f__law_spoil)
  f__law_linked : Addr
  fd__law_linked : FuncData
  F__law_linked : FunD K "_law_linked" "_law_linked" (defArgs s__law_linked) (defBody s__law_linked) (defScope s__law_linked) [] [] f__law_linked fd__law_linked
  g__law_linked : mg "_law_linked" = some (.ref f__law_linked)
  f__law_limits : Addr
  fd__law_limits : FuncData
  F__law_limits : FunD K "_law_limits" "_law_limits" (defArgs s__law_limits) (defBody s__law_limits) (defScope s__law_limits) [] [] f__law_limits fd__law_limits
  g__law_limits : mg "_law_limits" = some (.ref f__law_limits)
  f__law_is_limits : Addr
  fd__law_is_limits : FuncData
  F__law_is_limits : FunD K "_law_is_limits" "_law_is_limits" (defArgs s__law_is_limits) (defBody s__law_is_limits) (defScope s__law_is_limits) [] [] f__law_is_limits fd__law_is_limits
  g__law_is_limits : mg "_law_is_limits" = some (.ref f__law_is_limits)
  f_fits_vector : Addr
  fd_fits_vector : FuncData
  F_fits_vector : FunD K "fits_vector" "fits_vector" (defArgs s_fits_vector) (defBody s_fits_vector) (defScope s_fits_vector) [] [] f_fits_vector fd_fits_vector
  g_fits_vector : mg "fits_vector" = some (.ref f_fits_vector)
  f_Network_limits_set : Addr
  fd_Network_limits_set : FuncData
  F_Network_limits_set : FunD K "limits" "Network.limits" (defArgs s_Network_limits_set) (defBody s_Network_limits_set) (defScope s_Network_limits_set) [] [] f_Network_limits_set fd_Network_limits_set
  f_Network_limit_to : Addr
  fd_Network_limit_to : FuncData
  F_Network_limit_to : FunD K "limit_to" "Network.limit_to" (defArgs s_Network_limit_to) (defBody s_Network_limit_to) (defScope s_Network_limit_to) [] [] f_Network_limit_to fd_Network_limit_to
  f__law_limited : Addr
  fd__law_limited : FuncData
  F__law_limited : FunD K "_law_limited" "_law_limited" (defArgs s__law_limited) (defBody s__law_limited) (defScope s__law_limited) [] [] f__law_limited fd__law_limited
  g__law_limited : mg "_law_limited" = some (.ref f__law_limited)
  f_Network_limits : Addr
  fd_Network_limits : FuncData
  F_Network_limits : FunD K "limits" "Network.limits" (defArgs s_Network_limits) (defBody s_Network_limits) (defScope s_Network_limits) [] [] f_Network_limits fd_Network_limits
  f_Network_links : Addr
  fd_Network_links : FuncData
  F_Network_links : FunD K "links" "Network.links" (defArgs s_Network_links) (defBody s_Network_links) (defScope s_Network_links) [] [] f_Network_links fd_Network_links
  f_Network_nodes : Addr
  fd_Network_nodes : FuncData
  F_Network_nodes : FunD K "nodes" "Network.nodes" (defArgs s_Network_nodes) (defBody s_Network_nodes) (defScope s_Network_nodes) [] [] f_Network_nodes fd_Network_nodes
  f_Network___eq__ : Addr
  fd_Network___eq__ : FuncData
  F_Network___eq__ : FunD K "__eq__" "Network.__eq__" (defArgs s_Network___eq__) (defBody s_Network___eq__) (defScope s_Network___eq__) [] [] f_Network___eq__ fd_Network___eq__
  f__law_equal_right : Addr
  fd__law_equal_right : FuncData
  F__law_equal_right : FunD K "_law_equal_right" "_law_equal_right" (defArgs s__law_equal_right) (defBody s__law_equal_right) (defScope s__law_equal_right) [] [] f__law_equal_right fd__law_equal_right
  g__law_equal_right : mg "_law_equal_right" = some (.ref f__law_equal_right)
  f_law : Addr
  fd_law : FuncData
  F_law : FunD K "law" "law" (defArgs s_law) (defBody s_law) (defScope s_law) [] [] f_law fd_law
  g_law : mg "law" = some (.ref f_law)
  lk__law_refused_right : ∃ oc od dV kV doc pm an ct osl, fd__law_refused_right = PySem.W.fnOf "_law_refused_right" "_law_refused_right" (defArgs s__law_refused_right) (defBody s__law_refused_right) (defScope s__law_refused_right) dV kV doc pm an (.ref ca.lc__law_refused_right) ct ∧ K.lookup f__law_refused_right = some ⟨oc, od, .func fd__law_refused_right, osl⟩ ∧ PySem.W.codeIn K (.ref ca.lc__law_refused_right) "_law_refused_right" = true
  lk__law_linked : ∃ oc od dV kV doc pm an ct osl, fd__law_linked = PySem.W.fnOf "_law_linked" "_law_linked" (defArgs s__law_linked) (defBody s__law_linked) (defScope s__law_linked) dV kV doc pm an (.ref ca.lc__law_linked) ct ∧ K.lookup f__law_linked = some ⟨oc, od, .func fd__law_linked, osl⟩ ∧ PySem.W.codeIn K (.ref ca.lc__law_linked) "_law_linked" = true
  d_Network___init___2 : List Value
  v_Network___init___2 : Vals [.ref ca.dv_Network___init__] d_Network___init___2
  b_Network___init___2 : Binds K fd_Network___init__ ["self", "nodes", "links"] d_Network___init___2
  d_Network___init___3 : List Value
  v_Network___init___3 : Vals [] d_Network___init___3
  b_Network___init___3 : Binds K fd_Network___init__ ["self", "nodes", "links"] d_Network___init___3
  d_Network_is_link_2 : List Value
  v_Network_is_link_2 : Vals [] d_Network_is_link_2
  b_Network_is_link_2 : Binds K fd_Network_is_link ["self", "value"] d_Network_is_link_2
  d_Network_limit_to_2 : List Value
  v_Network_limit_to_2 : Vals [] d_Network_limit_to_2
  b_Network_limit_to_2 : Binds K fd_Network_limit_to ["self", "limits"] d_Network_limit_to_2
  d__law_draw_2 : List Value
  v__law_draw_2 : Vals [] d__law_draw_2
  b__law_draw_2 : Binds K fd__law_draw ["_law_pen_here", "_law_many"] d__law_draw_2
  d__law_due_3 : List Value
  v__law_due_3 : Vals [] d__law_due_3
  b__law_due_3 : Binds K fd__law_due ["_law_links", "_law_some_here", "_law_nodes"] d__law_due_3
  d__law_equal_right_4 : List Value
  v__law_equal_right_4 : Vals [] d__law_equal_right_4
  b__law_equal_right_4 : Binds K fd__law_equal_right ["_law_net", "_law_nodes", "_law_links", "_law_limits_here"] d__law_equal_right_4
  d__law_is_limits_2 : List Value
  v__law_is_limits_2 : Vals [] d__law_is_limits_2
  b__law_is_limits_2 : Binds K fd__law_is_limits ["_law_value", "_law_nodes"] d__law_is_limits_2
  d__law_is_link_2 : List Value
  v__law_is_link_2 : Vals [] d__law_is_link_2
  b__law_is_link_2 : Binds K fd__law_is_link ["_law_value", "_law_nodes"] d__law_is_link_2
  d__law_is_node_2 : List Value
  v__law_is_node_2 : Vals [] d__law_is_node_2
  b__law_is_node_2 : Binds K fd__law_is_node ["_law_value", "_law_nodes"] d__law_is_node_2
  d__law_limited_2 : List Value
  v__law_limited_2 : Vals [] d__law_limited_2
  b__law_limited_2 : Binds K fd__law_limited ["_law_net", "_law_value"] d__law_limited_2
  d__law_limits_2 : List Value
  v__law_limits_2 : Vals [] d__law_limits_2
  b__law_limits_2 : Binds K fd__law_limits ["_law_pen_here", "_law_nodes"] d__law_limits_2
  d__law_linked_2 : List Value
  v__law_linked_2 : Vals [] d__law_linked_2
  b__law_linked_2 : Binds K fd__law_linked ["_law_net", "_law_some_here"] d__law_linked_2
  d__law_odd_1 : List Value
  v__law_odd_1 : Vals [] d__law_odd_1
  b__law_odd_1 : Binds K fd__law_odd ["_law_pen_here"] d__law_odd_1
  d__law_ordered_1 : List Value
  v__law_ordered_1 : Vals [] d__law_ordered_1
  b__law_ordered_1 : Binds K fd__law_ordered ["_law_some_here"] d__law_ordered_1
  d__law_pen_1 : List Value
  v__law_pen_1 : Vals [] d__law_pen_1
  b__law_pen_1 : Binds K fd__law_pen ["_law_script"] d__law_pen_1
  d__law_pick_2 : List Value
  v__law_pick_2 : Vals [] d__law_pick_2
  b__law_pick_2 : Binds K fd__law_pick ["_law_pen_here", "_law_choices"] d__law_pick_2
  b__law_refused_1 : Binds K fd__law_refused ["_law_call"] []
  d__law_refused_right_3 : List Value
  v__law_refused_right_3 : Vals [] d__law_refused_right_3
  b__law_refused_right_3 : Binds K fd__law_refused_right ["_law_pen_here", "_law_nodes", "_law_given"] d__law_refused_right_3
  d__law_some_3 : List Value
  v__law_some_3 : Vals [] d__law_some_3
  b__law_some_3 : Binds K fd__law_some ["_law_pen_here", "_law_nodes", "_law_most"] d__law_some_3
  d__law_spoil_1 : List Value
  v__law_spoil_1 : Vals [] d__law_spoil_1
  b__law_spoil_1 : Binds K fd__law_spoil ["_law_some_here"] d__law_spoil_1
  d_fits_vector_1 : List Value
  v_fits_vector_1 : Vals [] d_fits_vector_1
  b_fits_vector_1 : Binds K fd_fits_vector ["value"] d_fits_vector_1
  d_is_between_3 : List Value
  v_is_between_3 : Vals [] d_is_between_3
  b_is_between_3 : Binds K fd_is_between ["value", "low", "high"] d_is_between_3
  d_is_integer_1 : List Value
  v_is_integer_1 : Vals [] d_is_integer_1
  b_is_integer_1 : Binds K fd_is_integer ["value"] d_is_integer_1
  d_is_list_1 : List Value
  v_is_list_1 : Vals [] d_is_list_1
  b_is_list_1 : Binds K fd_is_list ["value"] d_is_list_1
  kb_Network___eq___ : Binds K fd_Network___eq__ ["self", "other"] []
  kb_Network_limits_ : Binds K fd_Network_limits ["self"] []
  kb_Network_limits_set_ : Binds K fd_Network_limits_set ["self", "value"] []
  kb_Network_links_ : Binds K fd_Network_links ["self"] []
  kb_Network_nodes_ : Binds K fd_Network_nodes ["self"] []
  b_law : ∀ (s : Shared) (u : Value), BindsTo s fd_law ⟨[u], []⟩ [("_law_script", u)]
  t_MAX_DIMENSION : Tok
  c_MAX_DIMENSION : mg "MAX_DIMENSION" = some (.int 5 t_MAX_DIMENSION)
  t_MAX_ENTRY : Tok
  c_MAX_ENTRY : mg "MAX_ENTRY" = some (.int 1000 t_MAX_ENTRY)
  e_InvalidLinks : EcOk K "ValueError" "ValueError.__new__" "ValueError.__init__" [.type "ValueError", .type "Exception", .type "BaseException", .type "object"] ca.c_InvalidLinks
  h_InvalidLinks : mg "InvalidLinks" = some (.ref ca.c_InvalidLinks)
  i_InvalidLinks : Addr
  fdi_InvalidLinks : FuncData
  Fi_InvalidLinks : FunD K "__init__" "InvalidLinks.__init__" (defArgs si_InvalidLinks) (defBody si_InvalidLinks) (defScope si_InvalidLinks) [] [] i_InvalidLinks fdi_InvalidLinks
  bi_InvalidLinks : Binds K fdi_InvalidLinks ["self", "index"] []
  iC_InvalidLinks : PySem.W.findIn K (.ref ca.c_InvalidLinks) "__init__" = some (some (.ref i_InvalidLinks))
  tI_InvalidLinks : PySem.W.typeIn K (.ref i_InvalidLinks) = some (.type "function")
  e_InvalidIndex : EcOk K "ValueError" "ValueError.__new__" "ValueError.__init__" [.type "ValueError", .type "Exception", .type "BaseException", .type "object"] ca.c_InvalidIndex
  h_InvalidIndex : mg "InvalidIndex" = some (.ref ca.c_InvalidIndex)
  i_InvalidIndex : Addr
  fdi_InvalidIndex : FuncData
  Fi_InvalidIndex : FunD K "__init__" "InvalidIndex.__init__" (defArgs si_InvalidIndex) (defBody si_InvalidIndex) (defScope si_InvalidIndex) [] [] i_InvalidIndex fdi_InvalidIndex
  bi_InvalidIndex : Binds K fdi_InvalidIndex ["self", "value"] []
  iC_InvalidIndex : PySem.W.findIn K (.ref ca.c_InvalidIndex) "__init__" = some (some (.ref i_InvalidIndex))
  tI_InvalidIndex : PySem.W.typeIn K (.ref i_InvalidIndex) = some (.type "function")
  e_InvalidVector : EcOk K "ValueError" "ValueError.__new__" "ValueError.__init__" [.type "ValueError", .type "Exception", .type "BaseException", .type "object"] ca.c_InvalidVector
  h_InvalidVector : mg "InvalidVector" = some (.ref ca.c_InvalidVector)
  i_InvalidVector : Addr
  fdi_InvalidVector : FuncData
  Fi_InvalidVector : FunD K "__init__" "InvalidVector.__init__" (defArgs si_InvalidVector) (defBody si_InvalidVector) (defScope si_InvalidVector) [] [] i_InvalidVector fdi_InvalidVector
  bi_InvalidVector : Binds K fdi_InvalidVector ["self", "value"] []
  iC_InvalidVector : PySem.W.findIn K (.ref ca.c_InvalidVector) "__init__" = some (some (.ref i_InvalidVector))
  tI_InvalidVector : PySem.W.typeIn K (.ref i_InvalidVector) = some (.type "function")
  vV_ValueError : PySem.W.findCls K (.type "ValueError") (.type "type") "__init__" = some (.val (.builtin "ValueError.__init__"))
  no_InvalidIndex_value : PySem.W.findIn K (.ref ca.c_InvalidIndex) "value" = some none
  no_InvalidLinks_index : PySem.W.findIn K (.ref ca.c_InvalidLinks) "index" = some none
  no_InvalidVector_value : PySem.W.findIn K (.ref ca.c_InvalidVector) "value" = some none
  kit_InvalidIndex_ValueError : PySem.W.kitOne K (.ref ca.c_InvalidIndex) (.type "ValueError") = some true
  kit_InvalidLinks_ValueError : PySem.W.kitOne K (.ref ca.c_InvalidLinks) (.type "ValueError") = some true
  kit_InvalidVector_ValueError : PySem.W.kitOne K (.ref ca.c_InvalidVector) (.type "ValueError") = some true
  h_Network : mg "Network" = some (.ref ca.c_Network)
  ow_Network : OwnOk K ca.c_Network
  mk_Network : Mk K ca.c_Network f_Network___init__
  ki_Network : KitO K ca.c_Network
  eo_Network : EqOf K ca.c_Network f_Network___eq__
  me_Network_is_link_c0 : ∀ C ∈ [ca.c_Network], Meth K C "is_link" f_Network_is_link
  me_Network_limit_to_c0 : ∀ C ∈ [ca.c_Network], Meth K C "limit_to" f_Network_limit_to
  me_Network_link_c0 : ∀ C ∈ [ca.c_Network], Meth K C "link" f_Network_link
  bm_Network_link_c0 : ∀ C ∈ [ca.c_Network], BMeth K C "link" f_Network_link
  prs_Network_limits : Addr
  sq_Network_limits_set_c0 : ∀ C ∈ [ca.c_Network], SetOf K C "limits" prs_Network_limits f_Network_limits_set
  pr_Network_limits : Addr
  pr_Network_links : Addr
  pr_Network_nodes : Addr
  pp_Network_limits_c0 : ∀ C ∈ [ca.c_Network], PropOf K C "limits" pr_Network_limits f_Network_limits
  pp_Network_links_c0 : ∀ C ∈ [ca.c_Network], PropOf K C "links" pr_Network_links f_Network_links
  pp_Network_nodes_c0 : ∀ C ∈ [ca.c_Network], PropOf K C "nodes" pr_Network_nodes f_Network_nodes
  na_c0_caps : ∀ C ∈ [ca.c_Network], NoAttr K C "caps"
  na_c0_pairs : ∀ C ∈ [ca.c_Network], NoAttr K C "pairs"
  na_c0_size : ∀ C ∈ [ca.c_Network], NoAttr K C "size"
  itk_Network_MAX_LIMIT : Tok
  ic_Network_MAX_LIMIT : Con K ca.c_Network "MAX_LIMIT" (.int 16) (.int 16 itk_Network_MAX_LIMIT)
  itk_Network_MAX_LINKS : Tok
  ic_Network_MAX_LINKS : Con K ca.c_Network "MAX_LINKS" (.int 8) (.int 8 itk_Network_MAX_LINKS)
  itk_Network_MAX_NODES : Tok
  ic_Network_MAX_NODES : Con K ca.c_Network "MAX_NODES" (.int 5) (.int 5 itk_Network_MAX_NODES)
  n_ValueError : mg "ValueError" = none
  n_abs : mg "abs" = none
  n_all : mg "all" = none
  n_bool : mg "bool" = none
  n_enumerate : mg "enumerate" = none
  n_int : mg "int" = none
  n_isinstance : mg "isinstance" = none
  n_len : mg "len" = none
  n_list : mg "list" = none
  n_max : mg "max" = none
  n_min : mg "min" = none
  n_range : mg "range" = none
  n_repr : mg "repr" = none
  n_str : mg "str" = none
  n_tuple : mg "tuple" = none
section
variable {P : Program} {w : World} {K : PySem.W.Frag} {mg : Str → Option Value} {base : Heap} {ca : CA} [Gh : Ghost]
theorem hAll (T : Tx K mg ca) : ∀ C ∈ allC ca, ∃ B newId initId bb, EcOk K B newId initId bb C := (ec_cons T.e_InvalidLinks (ec_cons T.e_InvalidIndex (ec_cons T.e_InvalidVector ec_nil)))
theorem in_InvalidIndex (T : Tx K mg ca) : FnOk P w K mg base (fun _ _ _ _ _ _ => False) 1 T.i_InvalidIndex T.fdi_InvalidIndex ["self", "value"] (spI ca.c_InvalidIndex ["value"]) :=
  FunD.ok T.Fi_InvalidIndex sci_InvalidIndex (fun vs H Q E h => spI_len (by rfl) h) fun cd A outer s H vs Q E hr h => ⟨_, (pss_cons (ps_expr (pe_bi T.e_InvalidIndex.eb (by show _ = _; kernel_rfl) T.n_ValueError bb_ValueError T.vV_ValueError (pa_cons (pv 0 (by rfl) (by exact .inl (by kernel_rfl))) (pa_cons pe_str pa_nil)))) (pss_one (ps_fl (B := "ValueError") (newId := "ValueError.__new__") (initId := "ValueError.__init__") (bb := [.type "ValueError", .type "Exception", .type "BaseException", .type "object"]) (pv 0 (by rfl) (by exact .inl (by kernel_rfl))) (pv 1 (by rfl) (by exact .inl (by kernel_rfl)))))), rd1 T.e_InvalidIndex T.no_InvalidIndex_value h⟩
theorem in_InvalidLinks (T : Tx K mg ca) : FnOk P w K mg base (fun _ _ _ _ _ _ => False) 1 T.i_InvalidLinks T.fdi_InvalidLinks ["self", "index"] (spI ca.c_InvalidLinks ["index"]) :=
  FunD.ok T.Fi_InvalidLinks sci_InvalidLinks (fun vs H Q E h => spI_len (by rfl) h) fun cd A outer s H vs Q E hr h => ⟨_, (pss_cons (ps_expr (pe_bi T.e_InvalidLinks.eb (by show _ = _; kernel_rfl) T.n_ValueError bb_ValueError T.vV_ValueError (pa_cons (pv 0 (by rfl) (by exact .inl (by kernel_rfl))) (pa_cons pe_str pa_nil)))) (pss_one (ps_fl (B := "ValueError") (newId := "ValueError.__new__") (initId := "ValueError.__init__") (bb := [.type "ValueError", .type "Exception", .type "BaseException", .type "object"]) (pv 0 (by rfl) (by exact .inl (by kernel_rfl))) (pv 1 (by rfl) (by exact .inl (by kernel_rfl)))))), rd1 T.e_InvalidLinks T.no_InvalidLinks_index h⟩
theorem in_InvalidVector (T : Tx K mg ca) : FnOk P w K mg base (fun _ _ _ _ _ _ => False) 1 T.i_InvalidVector T.fdi_InvalidVector ["self", "value"] (spI ca.c_InvalidVector ["value"]) :=
  FunD.ok T.Fi_InvalidVector sci_InvalidVector (fun vs H Q E h => spI_len (by rfl) h) fun cd A outer s H vs Q E hr h => ⟨_, (pss_cons (ps_expr (pe_bi T.e_InvalidVector.eb (by show _ = _; kernel_rfl) T.n_ValueError bb_ValueError T.vV_ValueError (pa_cons (pv 0 (by rfl) (by exact .inl (by kernel_rfl))) (pa_cons pe_str pa_nil)))) (pss_one (ps_fl (B := "ValueError") (newId := "ValueError.__new__") (initId := "ValueError.__init__") (bb := [.type "ValueError", .type "Exception", .type "BaseException", .type "object"]) (pv 0 (by rfl) (by exact .inl (by kernel_rfl))) (pv 1 (by rfl) (by exact .inl (by kernel_rfl)))))), rd1 T.e_InvalidVector T.no_InvalidVector_value h⟩
theorem fn__law_pen (T : Tx K mg ca) : FnM P w K mg base 1 T.f__law_pen T.fd__law_pen ["_law_script"] (M__law_pen ca) := by
  have nd := sc__law_pen.nd
  refine fnM_of (N := ["_law_script"]) (m := b__law_pen ca) T.F__law_pen sc__law_pen fun cd A outer s H E g own => ?_
  exact
(s_one (s_ret (e_disp (ks := [_, _, _]) (ps_c e_str (e_callT c_list.call (by show _ = _; kernel_rfl) T.n_list bb_list (a_cons (e_slice (e_var (i := 0) (by rfl) (by exact .inl (by kernel_rfl))) p_none (p_some e_int)) a_nil)) (ps_c e_str e_int (ps_c e_str e_int ps_n))))))
theorem fn__law_draw (T : Tx K mg ca) : FnM P w K mg base 1 T.f__law_draw T.fd__law_draw ["_law_pen_here", "_law_many"] (M__law_draw ca) := by
  have nd := sc__law_draw.nd
  refine fnM_of (N := ["_law_pen_here", "_law_many", "_law_digit", "_law_at", "_law_cell", "_law_primes", "_law_mixed"]) (m := b__law_draw ca) T.F__law_draw sc__law_draw fun cd A outer s H E g own => ?_
  exact
(s_cons
(s_if (t_cmp o_gt (e_sub g (e_var (i := 0) (by rfl) (by exact .inl (by kernel_rfl))) e_str) e_int (by rfl))
(s_cons
(s_set (i := 2) nd (by rfl) (by exact .inl (by kernel_rfl)) (e_op o_mod (e_callT c_int.call (by show _ = _; kernel_rfl) T.n_int bb_int (a_cons (e_sub g (e_var (i := 0) (by rfl) (by exact .inl (by kernel_rfl))) e_str) a_nil)) (e_var (i := 1) (by rfl) (by exact .inl (by kernel_rfl)))))
(s_cons
(s_store g (e_var (i := 0) (by rfl) (by exact .inl (by kernel_rfl))) e_str (e_op o_div (e_sub g (e_var (i := 0) (by rfl) (by exact .inl (by kernel_rfl))) e_str) (e_var (i := 1) (by rfl) (by exact .inl (by kernel_rfl)))))
(s_one (s_ret (e_var (i := 2) (by rfl) (by exact .inl (by kernel_rfl)))))))
s_nil)
(s_cons
(s_set (i := 3) nd (by rfl) (by exact .inl (by kernel_rfl)) (e_sub g (e_var (i := 0) (by rfl) (by exact .inl (by kernel_rfl))) e_str))
(s_cons
(s_store g (e_var (i := 0) (by rfl) (by exact .inl (by kernel_rfl))) e_str (e_op o_add (e_var (i := 3) (by rfl) (by exact .inl (by kernel_rfl))) e_int))
(s_cons
(s_set (i := 4) nd (by rfl) (by exact .inl (by kernel_rfl)) (e_op o_add (e_op o_mul e_int (e_var (i := 3) (by rfl) (by exact .inl (by kernel_rfl)))) e_int))
(s_cons
(s_if (t_cmp (o_ne g.eq) (e_sub g (e_var (i := 0) (by rfl) (by exact .inl (by kernel_rfl))) e_str) (e_lst a_nil) (by rfl))
(s_one (s_set (i := 4) nd (by rfl) (by exact .inl (by kernel_rfl)) (e_sub g (e_sub g (e_var (i := 0) (by rfl) (by exact .inl (by kernel_rfl))) e_str) (e_op o_mod (e_callT c_int.call (by show _ = _; kernel_rfl) T.n_int bb_int (a_cons (e_var (i := 3) (by rfl) (by exact .inl (by kernel_rfl))) a_nil)) (e_callB c_len.call (by show _ = _; kernel_rfl) T.n_len bb_len (a_cons (e_sub g (e_var (i := 0) (by rfl) (by exact .inl (by kernel_rfl))) e_str) a_nil))))))
s_nil)
(s_cons
(s_if (t_w (w_and (t_cmp o_lt (e_var (i := 3) (by rfl) (by exact .inl (by kernel_rfl))) (e_callB c_len.call (by show _ = _; kernel_rfl) T.n_len bb_len (a_cons (e_sub g (e_var (i := 0) (by rfl) (by exact .inl (by kernel_rfl))) e_str) a_nil)) (by rfl)) (w_and1 (t_cmp o_ge (e_callB c_abs.call (by show _ = _; kernel_rfl) T.n_abs bb_abs (a_cons (e_var (i := 4) (by rfl) (by exact .inl (by kernel_rfl))) a_nil)) (e_op o_pow e_int e_int) (by rfl)))))
(s_cons
(s_store g (e_var (i := 0) (by rfl) (by exact .inl (by kernel_rfl))) e_str (e_op o_div (e_op o_sub (e_callB c_abs.call (by show _ = _; kernel_rfl) T.n_abs bb_abs (a_cons (e_var (i := 4) (by rfl) (by exact .inl (by kernel_rfl))) a_nil)) (e_op o_pow e_int e_int)) (e_var (i := 1) (by rfl) (by exact .inl (by kernel_rfl)))))
(s_one (s_ret (e_op o_mod (e_op o_sub (e_callB c_abs.call (by show _ = _; kernel_rfl) T.n_abs bb_abs (a_cons (e_var (i := 4) (by rfl) (by exact .inl (by kernel_rfl))) a_nil)) (e_op o_pow e_int e_int)) (e_var (i := 1) (by rfl) (by exact .inl (by kernel_rfl)))))))
s_nil)
(s_cons
(s_set (i := 5) nd (by rfl) (by exact .inl (by kernel_rfl)) (e_lst (a_cons e_int (a_cons e_int (a_cons e_int (a_cons e_int a_nil))))))
(s_cons
(s_set (i := 6) nd (by rfl) (by exact .inl (by kernel_rfl)) (e_op o_add (e_op o_add (e_op o_add (e_op o_mul (e_op o_mod (e_callT c_int.call (by show _ = _; kernel_rfl) T.n_int bb_int (a_cons (e_var (i := 4) (by rfl) (by exact .inl (by kernel_rfl))) a_nil)) e_int) e_int) (e_op o_mul (e_op o_mul e_int (e_var (i := 3) (by rfl) (by exact .inl (by kernel_rfl)))) (e_var (i := 3) (by rfl) (by exact .inl (by kernel_rfl))))) (e_op o_mul e_int (e_var (i := 3) (by rfl) (by exact .inl (by kernel_rfl))))) e_int))
(s_cons
(s_set (i := 6) nd (by rfl) (by exact .inl (by kernel_rfl)) (e_op o_mod (e_callT c_int.call (by show _ = _; kernel_rfl) T.n_int bb_int (a_cons (e_var (i := 6) (by rfl) (by exact .inl (by kernel_rfl))) a_nil)) (e_sub g (e_var (i := 5) (by rfl) (by exact .inl (by kernel_rfl))) (e_op o_mod (e_callT c_int.call (by show _ = _; kernel_rfl) T.n_int bb_int (a_cons (e_var (i := 3) (by rfl) (by exact .inl (by kernel_rfl))) a_nil)) e_int))))
(s_cons
(s_set (i := 6) nd (by rfl) (by exact .inl (by kernel_rfl)) (e_op o_mod (e_callT c_int.call (by show _ = _; kernel_rfl) T.n_int bb_int (a_cons (e_op o_add (e_op o_add (e_op o_add (e_op o_mul (e_var (i := 6) (by rfl) (by exact .inl (by kernel_rfl))) (e_var (i := 6) (by rfl) (by exact .inl (by kernel_rfl)))) (e_op o_mul e_int (e_var (i := 6) (by rfl) (by exact .inl (by kernel_rfl))))) (e_op o_mul e_int (e_var (i := 3) (by rfl) (by exact .inl (by kernel_rfl))))) e_int) a_nil)) e_int))
(s_one (s_ret (e_op o_mod (e_callT c_int.call (by show _ = _; kernel_rfl) T.n_int bb_int (a_cons (e_op o_div (e_op o_mod (e_callT c_int.call (by show _ = _; kernel_rfl) T.n_int bb_int (a_cons (e_op o_mul (e_var (i := 6) (by rfl) (by exact .inl (by kernel_rfl))) (e_op o_add (e_var (i := 6) (by rfl) (by exact .inl (by kernel_rfl))) e_int)) a_nil)) e_int) e_int) a_nil)) (e_var (i := 1) (by rfl) (by exact .inl (by kernel_rfl))))))))))))))))
theorem fn__law_pick (T : Tx K mg ca) : FnM P w K mg base 2 T.f__law_pick T.fd__law_pick ["_law_pen_here", "_law_choices"] (M__law_pick ca) := by
  have nd := sc__law_pick.nd
  refine fnM_of (N := ["_law_pen_here", "_law_choices"]) (m := b__law_pick ca) T.F__law_pick sc__law_pick fun cd A outer s H E g own => ?_
  exact
(s_one (s_ret (e_sub g (e_var (i := 1) (by rfl) (by exact .inl (by kernel_rfl))) (e_call (dds := []) ((fn__law_draw T).mono (by decide)) g (by show _ = _; kernel_rfl) T.g__law_draw T.F__law_draw.kp T.b__law_draw_2 T.v__law_draw_2 (fun _ _ => rfl) (a_cons (e_var (i := 0) (by rfl) (by exact .inl (by kernel_rfl))) (a_cons (e_callB c_len.call (by show _ = _; kernel_rfl) T.n_len bb_len (a_cons (e_var (i := 1) (by rfl) (by exact .inl (by kernel_rfl))) a_nil)) a_nil))))))
theorem fn__law_odd (T : Tx K mg ca) : FnM P w K mg base 3 T.f__law_odd T.fd__law_odd ["_law_pen_here"] (M__law_odd ca) := by
  have nd := sc__law_odd.nd
  refine fnM_of (N := ["_law_pen_here", "_law_some_here"]) (m := b__law_odd ca) T.F__law_odd sc__law_odd fun cd A outer s H E g own => ?_
  exact
(s_cons
(s_set (i := 1) nd (by rfl) (by exact .inl (by kernel_rfl)) (e_lst (a_cons e_non (a_cons e_bl (a_cons e_bl (a_cons e_int (a_cons e_int (a_cons (e_un o_neg e_int) (a_cons e_int (a_cons (e_op o_pow e_int e_int) (a_cons e_str (a_cons e_str (a_cons e_str (a_cons (e_tup a_nil) (a_cons (e_tup (a_cons e_int a_nil)) (a_cons (e_lst a_nil) (a_cons (e_lst (a_cons e_int a_nil)) (a_cons e_dnew (a_cons (e_disp (ks := [_]) (ps_c e_int e_int ps_n)) (a_cons (e_tup (a_cons e_non a_nil)) (a_cons (e_tup (a_cons (e_tup (a_cons e_int a_nil)) a_nil)) a_nil)))))))))))))))))))))
(s_one (s_ret (e_call (dds := []) ((fn__law_pick T).mono (by decide)) g (by show _ = _; kernel_rfl) T.g__law_pick T.F__law_pick.kp T.b__law_pick_2 T.v__law_pick_2 (fun _ _ => rfl) (a_cons (e_var (i := 0) (by rfl) (by exact .inl (by kernel_rfl))) (a_cons (e_var (i := 1) (by rfl) (by exact .inl (by kernel_rfl))) a_nil))))))
theorem fn__law_some (T : Tx K mg ca) : FnM P w K mg base 4 T.f__law_some T.fd__law_some ["_law_pen_here", "_law_nodes", "_law_most"] (M__law_some ca) := by
  have nd := sc__law_some.nd
  refine fnM_of (N := ["_law_pen_here", "_law_nodes", "_law_most", "_law_found", "_law_turn", "_law_pair", "_law_odd_here"]) (m := b__law_some ca) T.F__law_some sc__law_some fun cd A outer s H E g own => ?_
  exact
(s_cons
(s_set (i := 3) nd (by rfl) (by exact .inl (by kernel_rfl)) (e_lst a_nil))
(s_cons
(s_for (own := [4]) bigN own rfl (i_rng1 (by show _ = _; kernel_rfl) T.n_range (a_cons (e_call (dds := []) ((fn__law_draw T).mono (by decide)) g (by show _ = _; kernel_rfl) T.g__law_draw T.F__law_draw.kp T.b__law_draw_2 T.v__law_draw_2 (fun _ _ => rfl) (a_cons (e_var (i := 0) (by rfl) (by exact .inl (by kernel_rfl))) (a_cons (e_op o_add (e_var (i := 2) (by rfl) (by exact .inl (by kernel_rfl))) e_int) a_nil))) a_nil)) (g_name (i := 4) nd (by rfl) (by exact .inl (by kernel_rfl)))
(s_cons
(s_set (i := 5) nd (by rfl) (by exact .inl (by kernel_rfl)) (e_tup (a_cons (e_call (dds := []) ((fn__law_draw T).mono (by decide)) g (by show _ = _; kernel_rfl) T.g__law_draw T.F__law_draw.kp T.b__law_draw_2 T.v__law_draw_2 (fun _ _ => rfl) (a_cons (e_var (i := 0) (by rfl) (by exact .inl (by kernel_rfl))) (a_cons (e_var (i := 1) (by rfl) (by exact .inl (by kernel_rfl))) a_nil))) (a_cons (e_call (dds := []) ((fn__law_draw T).mono (by decide)) g (by show _ = _; kernel_rfl) T.g__law_draw T.F__law_draw.kp T.b__law_draw_2 T.v__law_draw_2 (fun _ _ => rfl) (a_cons (e_var (i := 0) (by rfl) (by exact .inl (by kernel_rfl))) (a_cons (e_var (i := 1) (by rfl) (by exact .inl (by kernel_rfl))) a_nil))) a_nil))))
(s_cons
(s_set (i := 6) nd (by rfl) (by exact .inl (by kernel_rfl)) (e_lst (a_cons (e_call (dds := []) ((fn__law_odd T).mono (by decide)) g (by show _ = _; kernel_rfl) T.g__law_odd T.F__law_odd.kp T.b__law_odd_1 T.v__law_odd_1 (fun _ _ => rfl) (a_cons (e_var (i := 0) (by rfl) (by exact .inl (by kernel_rfl))) a_nil)) (a_cons (e_tup (a_cons e_int (a_cons (e_var (i := 1) (by rfl) (by exact .inl (by kernel_rfl))) a_nil))) (a_cons (e_tup (a_cons (e_un o_neg e_int) (a_cons e_int a_nil))) (a_cons (e_tup (a_cons e_int a_nil)) (a_cons (e_tup (a_cons e_int (a_cons e_int (a_cons e_int a_nil)))) (a_cons (e_tup (a_cons e_bl (a_cons e_int a_nil))) (a_cons (e_tup (a_cons e_int (a_cons e_non a_nil))) (a_cons e_str (a_cons (e_disp (ks := [_, _]) (ps_c e_int e_int (ps_c e_int e_int ps_n))) a_nil)))))))))))
(s_one (s_expr (e_meth m_append PySem.F.plainAttrs_list PySem.F.slot_list_append PySem.F.type_list_append (e_var (i := 3) (by rfl) (by exact .inl (by kernel_rfl))) (a_cons (e_call (dds := []) ((fn__law_pick T).mono (by decide)) g (by show _ = _; kernel_rfl) T.g__law_pick T.F__law_pick.kp T.b__law_pick_2 T.v__law_pick_2 (fun _ _ => rfl) (a_cons (e_var (i := 0) (by rfl) (by exact .inl (by kernel_rfl))) (a_cons (e_lst (a_cons (e_var (i := 5) (by rfl) (by exact .inl (by kernel_rfl))) (a_cons (e_callT c_list.call (by show _ = _; kernel_rfl) T.n_list bb_list (a_cons (e_var (i := 5) (by rfl) (by exact .inl (by kernel_rfl))) a_nil)) (a_cons (e_var (i := 5) (by rfl) (by exact .inl (by kernel_rfl))) (a_cons (e_rev (e_var (i := 5) (by rfl) (by exact .inl (by kernel_rfl)))) (a_cons (e_var (i := 5) (by rfl) (by exact .inl (by kernel_rfl))) (a_cons (e_call (dds := []) ((fn__law_pick T).mono (by decide)) g (by show _ = _; kernel_rfl) T.g__law_pick T.F__law_pick.kp T.b__law_pick_2 T.v__law_pick_2 (fun _ _ => rfl) (a_cons (e_var (i := 0) (by rfl) (by exact .inl (by kernel_rfl))) (a_cons (e_var (i := 6) (by rfl) (by exact .inl (by kernel_rfl))) a_nil))) a_nil))))))) a_nil))) a_nil)))))))
(s_one (s_ret (e_var (i := 3) (by rfl) (by exact .inl (by kernel_rfl)))))))
theorem fn__law_is_node (T : Tx K mg ca) : FnM P w K mg base 1 T.f__law_is_node T.fd__law_is_node ["_law_value", "_law_nodes"] (M__law_is_node ca) := by
  have nd := sc__law_is_node.nd
  refine fnM_of (N := ["_law_value", "_law_nodes"]) (m := b__law_is_node ca) T.F__law_is_node sc__law_is_node fun cd A outer s H E g own => ?_
  exact
(s_one (s_ret (e_and (e_isi .int (by show _ = _; kernel_rfl) T.n_isinstance bb_isinstance (by show _ = _; kernel_rfl) T.n_int bb_int (e_var (i := 0) (by rfl) (by exact .inl (by kernel_rfl)))) (e_and (e_not (e_isi .bool (by show _ = _; kernel_rfl) T.n_isinstance bb_isinstance (by show _ = _; kernel_rfl) T.n_bool bb_bool (e_var (i := 0) (by rfl) (by exact .inl (by kernel_rfl))))) (e_one (e_chain o_le o_lt e_int (e_var (i := 0) (by rfl) (by exact .inl (by kernel_rfl))) (e_var (i := 1) (by rfl) (by exact .inl (by kernel_rfl)))))))))
theorem fn__law_refused (T : Tx K mg ca) : FnT P w K mg base 0 T.f__law_refused "_law_refused" (defBody s__law_refused) (defScope s__law_refused) ["_law_call", "e"] "_law_call" (b__law_refused ca) := by
  have nd := sc__law_refused.nd
  refine ⟨fun Gh2 cd A outer s H E f0 T0 g own act => ?_⟩
  exact
(s_cons
(s_try rfl rfl nd (hAll T) (fun pn xe own =>
(s_one (s_expr (act pn xe _ _))))
(HdL.cons (h := Hd.mk ca.c_InvalidIndex 1 _) T.e_InvalidIndex (by show _ = _; kernel_rfl) T.h_InvalidIndex (by rfl) (by show _ = _; kernel_rfl) (fun ax dx nx oe od pn hz hf hd =>
(s_one (s_ret (e_tup (a_cons e_str (a_cons (e_callB (c_reprW (Gd.suite g (a := ax) (pn := (ax, oe) :: pn))).call (by show _ = _; kernel_rfl) T.n_repr bb_repr (a_cons (e_xf T.e_InvalidIndex T.no_InvalidIndex_value hz hf hd (e_var (i := 1) (by rfl) (by exact .inl (by kernel_rfl)))) a_nil)) (a_cons (e_isX T.e_InvalidIndex hz hf hd (by show _ = _; kernel_rfl) T.n_isinstance bb_isinstance (e_var (i := 1) (by rfl) (by exact .inl (by kernel_rfl))) (pe_bltn (v := .ty "ValueError") (by show _ = _; kernel_rfl) T.n_ValueError bb_ValueError rfl) (fun _ h => h) T.kit_InvalidIndex_ValueError) a_nil))))))) (HdL.cons (h := Hd.mk ca.c_InvalidLinks 1 _) T.e_InvalidLinks (by show _ = _; kernel_rfl) T.h_InvalidLinks (by rfl) (by show _ = _; kernel_rfl) (fun ax dx nx oe od pn hz hf hd =>
(s_one (s_ret (e_tup (a_cons e_str (a_cons (e_callB (c_reprW (Gd.suite g (a := ax) (pn := (ax, oe) :: pn))).call (by show _ = _; kernel_rfl) T.n_repr bb_repr (a_cons (e_xf T.e_InvalidLinks T.no_InvalidLinks_index hz hf hd (e_var (i := 1) (by rfl) (by exact .inl (by kernel_rfl)))) a_nil)) (a_cons (e_isX T.e_InvalidLinks hz hf hd (by show _ = _; kernel_rfl) T.n_isinstance bb_isinstance (e_var (i := 1) (by rfl) (by exact .inl (by kernel_rfl))) (pe_bltn (v := .ty "ValueError") (by show _ = _; kernel_rfl) T.n_ValueError bb_ValueError rfl) (fun _ h => h) T.kit_InvalidLinks_ValueError) a_nil))))))) HdL.nil)))
(s_one (s_ret e_non)))
theorem fn_is_integer (T : Tx K mg ca) : FnM P w K mg base 1 T.f_is_integer T.fd_is_integer ["value"] (M_is_integer ca) := by
  have nd := sc_is_integer.nd
  refine fnM_of (N := ["value"]) (m := b_is_integer ca) T.F_is_integer sc_is_integer fun cd A outer s H E g own => ?_
  exact
(s_one (s_ret (e_and (e_isi .int (by show _ = _; kernel_rfl) T.n_isinstance bb_isinstance (by show _ = _; kernel_rfl) T.n_int bb_int (e_var (i := 0) (by rfl) (by exact .inl (by kernel_rfl)))) (e_one (e_not (e_isi .bool (by show _ = _; kernel_rfl) T.n_isinstance bb_isinstance (by show _ = _; kernel_rfl) T.n_bool bb_bool (e_var (i := 0) (by rfl) (by exact .inl (by kernel_rfl)))))))))
theorem fn_is_between (T : Tx K mg ca) : FnM P w K mg base 2 T.f_is_between T.fd_is_between ["value", "low", "high"] (M_is_between ca) := by
  have nd := sc_is_between.nd
  refine fnM_of (N := ["value", "low", "high"]) (m := b_is_between ca) T.F_is_between sc_is_between fun cd A outer s H E g own => ?_
  exact
(s_one (s_ret (e_and (e_call (dds := []) ((fn_is_integer T).mono (by decide)) g (by show _ = _; kernel_rfl) T.g_is_integer T.F_is_integer.kp T.b_is_integer_1 T.v_is_integer_1 (fun _ _ => rfl) (a_cons (e_var (i := 0) (by rfl) (by exact .inl (by kernel_rfl))) a_nil)) (e_one (e_chain o_le o_le (e_var (i := 1) (by rfl) (by exact .inl (by kernel_rfl))) (e_var (i := 0) (by rfl) (by exact .inl (by kernel_rfl))) (e_var (i := 2) (by rfl) (by exact .inl (by kernel_rfl))))))))
theorem fn_is_list (T : Tx K mg ca) : FnM P w K mg base 1 T.f_is_list T.fd_is_list ["value"] (M_is_list ca) := by
  have nd := sc_is_list.nd
  refine fnM_of (N := ["value"]) (m := b_is_list ca) T.F_is_list sc_is_list fun cd A outer s H E g own => ?_
  exact
(s_one (s_ret (e_isi2 .lst .tup (by show _ = _; kernel_rfl) T.n_isinstance bb_isinstance (by show _ = _; kernel_rfl) T.n_list bb_list (by show _ = _; kernel_rfl) T.n_tuple bb_tuple (e_var (i := 0) (by rfl) (by exact .inl (by kernel_rfl))))))
theorem fn_Network_is_link (T : Tx K mg ca) : FnM P w K mg base 3 T.f_Network_is_link T.fd_Network_is_link ["self", "value"] (M_Network_is_link ca) := by
  have nd := sc_Network_is_link.nd
  refine fnM_of (N := ["self", "value", "node"]) (m := b_Network_is_link ca) T.F_Network_is_link sc_Network_is_link fun cd A outer s H E g own => ?_
  exact
(s_one (s_ret (e_and (e_call (dds := []) ((fn_is_list T).mono (by decide)) g (by show _ = _; kernel_rfl) T.g_is_list T.F_is_list.kp T.b_is_list_1 T.v_is_list_1 (fun _ _ => rfl) (a_cons (e_var (i := 1) (by rfl) (by exact .inl (by kernel_rfl))) a_nil)) (e_and (e_cmp (o_eq g.eq) (e_callB c_len.call (by show _ = _; kernel_rfl) T.n_len bb_len (a_cons (e_var (i := 1) (by rfl) (by exact .inl (by kernel_rfl))) a_nil)) e_int (by rfl)) (e_one (e_callB (c_all g).call (by show _ = _; kernel_rfl) T.n_all bb_all (a_cons (e_comp (ow := [("node", 2)]) bigN rfl nd (i_seq (e_var (i := 1) (by rfl) (by exact .inl (by kernel_rfl)))) (blkOk_by (by kernel_rfl)) (fun _ _ _ _ _ => (g_name (i := 2) nd (by rfl) (by exact .inl (by kernel_rfl)) (hf := by exact .inr (by kernel_rfl)))) (fun _ _ _ _ _ => f_nil) (fun _ _ _ _ _ => (e_call (dds := []) ((fn_is_between T).mono (by decide)) (Gd.blk g) (by show _ = _; kernel_rfl) T.g_is_between T.F_is_between.kp T.b_is_between_3 T.v_is_between_3 (fun _ _ => rfl) (a_cons (e_var (i := 2) (by rfl) (by exact .inl (by kernel_rfl))) (a_cons e_int (a_cons (e_op o_sub (e_fld (Cs := [ca.c_Network]) T.na_c0_size (e_var (i := 0) (by rfl) (by exact .inr (.inl (by kernel_rfl))))) e_int) a_nil)))))) a_nil)))))))
theorem fn_Network_link (T : Tx K mg ca) : FnS P w K mg base 4 T.f_Network_link 1 (M_Network_link ca) := by
  have nd := sc_Network_link.nd
  refine fnS_of (N := ["self", "links", "index", "link"]) (ps := ["self"]) (pv := "links") (m := b_Network_link ca) T.F_Network_link sc_Network_link (fun kV doc pm an cdv ct => StX.bind_star1 (B := fun vs => bindArgs (PySem.W.fnOf "link" "Network.link" (defArgs s_Network_link) (defBody s_Network_link) (defScope s_Network_link) .none kV doc pm an cdv ct) ⟨vs, []⟩) (fun _ => rfl) (fun _ _ _ => rfl)) fun cd A outer s H E g own => ?_
  exact
(s_cons
(s_for (own := [2, 3]) bigN own rfl (i_enum (by show _ = _; kernel_rfl) T.n_enumerate (a_cons (e_var (i := 1) (by rfl) (by exact .inl (by kernel_rfl))) a_nil)) (g_tup rfl (gs_cons (g_name (i := 2) nd (by rfl) (by exact .inl (by kernel_rfl))) (gs_cons (g_name (i := 3) nd (by rfl) (by exact .inl (by kernel_rfl))) gs_nil)))
(s_one (s_if (t_not (t_tru (e_mth (Cs := [ca.c_Network]) (dds := []) T.me_Network_is_link_c0 ((fn_Network_is_link T).mono (by decide)) g T.b_Network_is_link_2 T.v_Network_is_link_2 (fun _ _ => rfl) (e_var (i := 0) (by rfl) (by exact .inl (by kernel_rfl))) (a_cons (e_var (i := 3) (by rfl) (by exact .inl (by kernel_rfl))) a_nil))))
(s_one (s_raise T.e_InvalidLinks T.iC_InvalidLinks T.tI_InvalidLinks (in_InvalidLinks T) (g.mono (by decide)) T.bi_InvalidLinks (by show _ = _; kernel_rfl) T.h_InvalidLinks (a_cons (e_var (i := 2) (by rfl) (by exact .inl (by kernel_rfl))) a_nil) (by simp)))
s_nil)))
(s_cons
(s_if (t_cmp o_gt (e_op o_add (e_callB c_len.call (by show _ = _; kernel_rfl) T.n_len bb_len (a_cons (e_fld (Cs := [ca.c_Network]) T.na_c0_pairs (e_var (i := 0) (by rfl) (by exact .inl (by kernel_rfl)))) a_nil)) (e_callB c_len.call (by show _ = _; kernel_rfl) T.n_len bb_len (a_cons (e_var (i := 1) (by rfl) (by exact .inl (by kernel_rfl))) a_nil))) (e_icon (Cs := [ca.c_Network]) (all_cons ⟨_, T.ic_Network_MAX_LINKS⟩ all_nil) (e_var (i := 0) (by rfl) (by exact .inl (by kernel_rfl)))) (by rfl))
(s_one (s_raise T.e_InvalidLinks T.iC_InvalidLinks T.tI_InvalidLinks (in_InvalidLinks T) (g.mono (by decide)) T.bi_InvalidLinks (by show _ = _; kernel_rfl) T.h_InvalidLinks (a_cons (e_icon (Cs := [ca.c_Network]) (all_cons ⟨_, T.ic_Network_MAX_LINKS⟩ all_nil) (e_var (i := 0) (by rfl) (by exact .inl (by kernel_rfl)))) a_nil) (by simp)))
s_nil)
(s_one (s_expr (e_meth m_extend PySem.F.plainAttrs_list PySem.F.slot_list_extend PySem.F.type_list_extend (e_fld (Cs := [ca.c_Network]) T.na_c0_pairs (e_var (i := 0) (by rfl) (by exact .inl (by kernel_rfl)))) (a_cons (e_comp (ow := [("link", 3)]) bigN rfl nd (i_seq (e_var (i := 1) (by rfl) (by exact .inl (by kernel_rfl)))) (blkOk_by (by kernel_rfl)) (fun _ _ _ _ _ => (g_name (i := 3) nd (by rfl) (by exact .inl (by kernel_rfl)) (hf := by exact .inr (by kernel_rfl)))) (fun _ _ _ _ _ => f_nil) (fun _ _ _ _ _ => (e_tup (a_cons (e_callB (c_minS (Gd.blk g)).call (by show _ = _; kernel_rfl) T.n_min bb_min (a_cons (e_var (i := 3) (by rfl) (by exact .inl (by kernel_rfl))) a_nil)) (a_cons (e_callB (c_maxS (Gd.blk g)).call (by show _ = _; kernel_rfl) T.n_max bb_max (a_cons (e_var (i := 3) (by rfl) (by exact .inl (by kernel_rfl))) a_nil)) a_nil))))) a_nil))))))
theorem fn_Network___init__ (T : Tx K mg ca) : FnM P w K mg base 5 T.f_Network___init__ T.fd_Network___init__ ["self", "nodes", "links"] (M_Network___init__ ca) := by
  have nd := sc_Network___init__.nd
  refine fnM_of (N := ["self", "nodes", "links"]) (m := b_Network___init__ ca) T.F_Network___init__ sc_Network___init__ fun cd A outer s H E g own => ?_
  exact
(s_cons
(s_if (t_not (t_tru (e_call (dds := []) ((fn_is_between T).mono (by decide)) g (by show _ = _; kernel_rfl) T.g_is_between T.F_is_between.kp T.b_is_between_3 T.v_is_between_3 (fun _ _ => rfl) (a_cons (e_var (i := 1) (by rfl) (by exact .inl (by kernel_rfl))) (a_cons e_int (a_cons (e_icon (Cs := [ca.c_Network]) (all_cons ⟨_, T.ic_Network_MAX_NODES⟩ all_nil) (e_var (i := 0) (by rfl) (by exact .inl (by kernel_rfl)))) a_nil))))))
(s_one (s_raise T.e_InvalidIndex T.iC_InvalidIndex T.tI_InvalidIndex (in_InvalidIndex T) (g.mono (by decide)) T.bi_InvalidIndex (by show _ = _; kernel_rfl) T.h_InvalidIndex (a_cons (e_var (i := 1) (by rfl) (by exact .inl (by kernel_rfl))) a_nil) (by simp)))
s_nil)
(s_cons
(s_setF (Cs := [ca.c_Network]) T.na_c0_size (e_var (i := 0) (by rfl) (by exact .inl (by kernel_rfl))) (e_var (i := 1) (by rfl) (by exact .inl (by kernel_rfl))))
(s_cons
(s_setF (Cs := [ca.c_Network]) T.na_c0_pairs (e_var (i := 0) (by rfl) (by exact .inl (by kernel_rfl))) (e_lst a_nil))
(s_cons
(s_setF (Cs := [ca.c_Network]) T.na_c0_caps (e_var (i := 0) (by rfl) (by exact .inl (by kernel_rfl))) (e_op o_mulT (e_tup (a_cons (e_icon (Cs := [ca.c_Network]) (all_cons ⟨_, T.ic_Network_MAX_LIMIT⟩ all_nil) (e_var (i := 0) (by rfl) (by exact .inl (by kernel_rfl)))) a_nil)) (e_var (i := 1) (by rfl) (by exact .inl (by kernel_rfl)))))
(s_one (s_expr (e_mthLd T.dvk_Network___init__ (Cs := [ca.c_Network]) T.bm_Network_link_c0 ((fn_Network_link T).mono (by decide)) g (e_var (i := 0) (by rfl) (by exact .inl (by kernel_rfl))) (by rfl) (by exact .inl (by kernel_rfl)))))))))
theorem fn__law_is_link (T : Tx K mg ca) : FnM P w K mg base 2 T.f__law_is_link T.fd__law_is_link ["_law_value", "_law_nodes"] (M__law_is_link ca) := by
  have nd := sc__law_is_link.nd
  refine fnM_of (N := ["_law_value", "_law_nodes"]) (m := b__law_is_link ca) T.F__law_is_link sc__law_is_link fun cd A outer s H E g own => ?_
  exact
(s_cons
(s_if (t_w (w_or (t_not (t_tru (e_isi2 .lst .tup (by show _ = _; kernel_rfl) T.n_isinstance bb_isinstance (by show _ = _; kernel_rfl) T.n_list bb_list (by show _ = _; kernel_rfl) T.n_tuple bb_tuple (e_var (i := 0) (by rfl) (by exact .inl (by kernel_rfl)))))) (w_or1 (t_cmp (o_ne g.eq) (e_callB c_len.call (by show _ = _; kernel_rfl) T.n_len bb_len (a_cons (e_var (i := 0) (by rfl) (by exact .inl (by kernel_rfl))) a_nil)) e_int (by rfl)))))
(s_one (s_ret e_bl))
s_nil)
(s_one (s_ret (e_and (e_call (dds := []) ((fn__law_is_node T).mono (by decide)) g (by show _ = _; kernel_rfl) T.g__law_is_node T.F__law_is_node.kp T.b__law_is_node_2 T.v__law_is_node_2 (fun _ _ => rfl) (a_cons (e_sub g (e_var (i := 0) (by rfl) (by exact .inl (by kernel_rfl))) e_int) (a_cons (e_var (i := 1) (by rfl) (by exact .inl (by kernel_rfl))) a_nil))) (e_one (e_call (dds := []) ((fn__law_is_node T).mono (by decide)) g (by show _ = _; kernel_rfl) T.g__law_is_node T.F__law_is_node.kp T.b__law_is_node_2 T.v__law_is_node_2 (fun _ _ => rfl) (a_cons (e_sub g (e_var (i := 0) (by rfl) (by exact .inl (by kernel_rfl))) e_int) (a_cons (e_var (i := 1) (by rfl) (by exact .inl (by kernel_rfl))) a_nil))))))))
theorem fn__law_due (T : Tx K mg ca) : FnM P w K mg base 3 T.f__law_due T.fd__law_due ["_law_links", "_law_some_here", "_law_nodes"] (M__law_due ca) := by
  have nd := sc__law_due.nd
  refine fnM_of (N := ["_law_links", "_law_some_here", "_law_nodes", "_law_wrong", "_law_k"]) (m := b__law_due ca) T.F__law_due sc__law_due fun cd A outer s H E g own => ?_
  exact
(s_cons
(s_setC (i := 3) (ow := [("_law_k", 4)]) bigN rfl nd (by rfl) (by rfl) (by rfl) (i_rng1 (by show _ = _; kernel_rfl) T.n_range (a_cons (e_callB c_len.call (by show _ = _; kernel_rfl) T.n_len bb_len (a_cons (e_var (i := 1) (by rfl) (by exact .inr (.inl (by kernel_rfl)))) a_nil)) a_nil)) (blkOk_by (by kernel_rfl)) (fun _ _ _ _ _ => (g_name (i := 4) nd (by rfl) (by exact .inl (by kernel_rfl)) (hf := by exact .inr (by kernel_rfl)))) (fun _ _ _ _ _ => (f_one (t_not (t_tru (e_call (dds := []) ((fn__law_is_link T).mono (by decide)) (Gd.blk g) (by show _ = _; kernel_rfl) T.g__law_is_link T.F__law_is_link.kp T.b__law_is_link_2 T.v__law_is_link_2 (fun _ _ => rfl) (a_cons (e_sub (Gd.blk g) (e_var (i := 1) (by rfl) (by exact .inr (.inl (by kernel_rfl)))) (e_var (i := 4) (by rfl) (by exact .inl (by kernel_rfl)))) (a_cons (e_var (i := 2) (by rfl) (by exact .inr (.inl (by kernel_rfl)))) a_nil))))))) (fun _ _ _ _ _ => (e_var (i := 4) (by rfl) (by exact .inl (by kernel_rfl)))))
(s_cons
(s_if (t_cmp (o_ne g.eq) (e_var (i := 3) (by rfl) (by exact .inl (by kernel_rfl))) (e_lst a_nil) (by rfl))
(s_one (s_ret (e_tup (a_cons e_str (a_cons (e_callT c_str.call (by show _ = _; kernel_rfl) T.n_str bb_str (a_cons (e_sub g (e_var (i := 3) (by rfl) (by exact .inl (by kernel_rfl))) e_int) a_nil)) (a_cons e_bl a_nil))))))
s_nil)
(s_one (s_ret (e_if (t_cmp o_gt (e_op o_add (e_callB c_len.call (by show _ = _; kernel_rfl) T.n_len bb_len (a_cons (e_var (i := 0) (by rfl) (by exact .inl (by kernel_rfl))) a_nil)) (e_callB c_len.call (by show _ = _; kernel_rfl) T.n_len bb_len (a_cons (e_var (i := 1) (by rfl) (by exact .inr (.inl (by kernel_rfl)))) a_nil))) e_int (by rfl)) (e_tup (a_cons e_str (a_cons e_str (a_cons e_bl a_nil)))) e_non)))))
theorem fn__law_refused_right (T : Tx K mg ca) (TB : TBs base mg ca) : FnM P w K mg base 9 T.f__law_refused_right T.fd__law_refused_right ["_law_pen_here", "_law_nodes", "_law_given"] (M__law_refused_right ca) := by
  have nd := sc__law_refused_right.nd
  obtain ⟨oc, od, dV, kV, doc, pm, an, ct, osl, e, lk, hcd⟩ := T.lk__law_refused_right
  rw [e] at lk ⊢
  refine fnM_ofC (N := ["_law_pen_here", "_law_nodes", "_law_given", "_law_value", "_law_many", "_law_row"]) (m := b__law_refused_right ca) lk hcd sc__law_refused_right fun A outer s H E g own => ?_
  exact
(s_cons
(s_for (own := [3]) bigN own rfl (i_seq (e_lst (a_cons e_int (a_cons e_int (a_cons (e_call (dds := []) ((fn__law_odd T).mono (by decide)) g (by show _ = _; kernel_rfl) T.g__law_odd T.F__law_odd.kp T.b__law_odd_1 T.v__law_odd_1 (fun _ _ => rfl) (a_cons (e_var (i := 0) (by rfl) (by exact .inl (by kernel_rfl))) a_nil)) (a_cons e_bl (a_cons (e_tup (a_cons (e_var (i := 1) (by rfl) (by exact .inr (.inl (by kernel_rfl)))) a_nil)) (a_cons (e_callT c_str.call (by show _ = _; kernel_rfl) T.n_str bb_str (a_cons (e_var (i := 1) (by rfl) (by exact .inr (.inl (by kernel_rfl)))) a_nil)) a_nil)))))))) (g_name (i := 3) nd (by rfl) (by exact .inr (by kernel_rfl)))
(s_one (s_if (t_w (w_or (t_not (t_tru (e_call (dds := []) ((fn__law_is_node T).mono (by decide)) g (by show _ = _; kernel_rfl) T.g__law_is_node T.F__law_is_node.kp T.b__law_is_node_2 T.v__law_is_node_2 (fun _ _ => rfl) (a_cons (e_var (i := 3) (by rfl) (by exact .inr (.inl (by kernel_rfl)))) (a_cons e_int a_nil))))) (w_or1 (t_cmp (o_eq g.eq) (e_var (i := 3) (by rfl) (by exact .inr (.inl (by kernel_rfl)))) e_int (by rfl)))))
(s_one (s_if (t_cmp (o_ne g.eq) (e_lamD 6 0 (Gd.mono g (by decide)) (by show _ = _; kernel_rfl) T.g__law_refused T.F__law_refused T.b__law_refused_1 sc__law_refused ((fn__law_refused T).mono (by decide)) TB.tb__law_refused_right rfl (LamX.lamS_by (by kernel_rfl)) (fun A outer s H E ff fc gl ownl Gh2 =>
(e_make (dds := []) T.mk_Network T.ow_Network ((fn_Network___init__ T).mono (by decide)) gl (by show _ = _; kernel_rfl) T.h_Network T.b_Network___init___3 T.v_Network___init___3 (fun _ _ => rfl) (a_cons (e_var (i := 3) (by rfl) (by exact .inr (.inr (by kernel_rfl)))) (a_cons (e_var (i := 2) (by rfl) (by exact .inr (.inr (by kernel_rfl)))) a_nil))))) (e_tup (a_cons e_str (a_cons (e_callB (c_repr g).call (by show _ = _; kernel_rfl) T.n_repr bb_repr (a_cons (e_var (i := 3) (by rfl) (by exact .inr (.inl (by kernel_rfl)))) a_nil)) (a_cons e_bl a_nil)))) (by rfl))
(s_one (s_ret e_bl))
s_nil))
s_nil)))
(s_cons
(s_set (i := 4) nd (by rfl) (by exact .inl (by kernel_rfl)) (e_op o_mul (e_lst (a_cons (e_tup (a_cons e_int (a_cons (e_op o_sub (e_var (i := 1) (by rfl) (by exact .inr (.inl (by kernel_rfl)))) e_int) a_nil))) a_nil)) (e_op o_add e_int (e_call (dds := []) ((fn__law_draw T).mono (by decide)) g (by show _ = _; kernel_rfl) T.g__law_draw T.F__law_draw.kp T.b__law_draw_2 T.v__law_draw_2 (fun _ _ => rfl) (a_cons (e_var (i := 0) (by rfl) (by exact .inl (by kernel_rfl))) (a_cons e_int a_nil))))))
(s_cons
(s_for (own := [5]) bigN own rfl (i_seq (e_lst (a_cons (e_var (i := 2) (by rfl) (by exact .inr (.inl (by kernel_rfl)))) (a_cons (e_var (i := 4) (by rfl) (by exact .inl (by kernel_rfl))) (a_cons (e_op o_add (e_var (i := 4) (by rfl) (by exact .inl (by kernel_rfl))) (e_lst (a_cons e_non a_nil))) a_nil))))) (g_name (i := 5) nd (by rfl) (by exact .inr (by kernel_rfl)))
(s_one (s_if (t_cmp (o_ne g.eq) (e_lamD 6 0 (Gd.mono g (by decide)) (by show _ = _; kernel_rfl) T.g__law_refused T.F__law_refused T.b__law_refused_1 sc__law_refused ((fn__law_refused T).mono (by decide)) TB.tb__law_refused_right rfl (LamX.lamS_by (by kernel_rfl)) (fun A outer s H E ff fc gl ownl Gh2 =>
(e_make (dds := []) T.mk_Network T.ow_Network ((fn_Network___init__ T).mono (by decide)) gl (by show _ = _; kernel_rfl) T.h_Network T.b_Network___init___3 T.v_Network___init___3 (fun _ _ => rfl) (a_cons (e_var (i := 1) (by rfl) (by exact .inr (.inr (by kernel_rfl)))) (a_cons (e_var (i := 5) (by rfl) (by exact .inr (.inr (by kernel_rfl)))) a_nil))))) (e_call (dds := []) ((fn__law_due T).mono (by decide)) g (by show _ = _; kernel_rfl) T.g__law_due T.F__law_due.kp T.b__law_due_3 T.v__law_due_3 (fun _ _ => rfl) (a_cons (e_tup a_nil) (a_cons (e_var (i := 5) (by rfl) (by exact .inr (.inl (by kernel_rfl)))) (a_cons (e_var (i := 1) (by rfl) (by exact .inr (.inl (by kernel_rfl)))) a_nil)))) (by rfl))
(s_one (s_ret e_bl))
s_nil)))
(s_one (s_ret (e_cmp o_is (e_lamD 6 0 (Gd.mono g (by decide)) (by show _ = _; kernel_rfl) T.g__law_refused T.F__law_refused T.b__law_refused_1 sc__law_refused ((fn__law_refused T).mono (by decide)) TB.tb__law_refused_right rfl (LamX.lamS_by (by kernel_rfl)) (fun A outer s H E ff fc gl ownl Gh2 =>
(e_make (dds := [.adr ca.dv_Network___init__]) T.mk_Network T.ow_Network ((fn_Network___init__ T).mono (by decide)) gl (by show _ = _; kernel_rfl) T.h_Network T.b_Network___init___2 T.v_Network___init___2 (fun _ _ => ⟨_, _, rfl, rfl, rfl⟩) (a_cons (e_var (i := 1) (by rfl) (by exact .inr (.inr (by kernel_rfl)))) a_nil)))) e_non (by rfl)))))))
theorem fn__law_ordered (T : Tx K mg ca) : FnM P w K mg base 1 T.f__law_ordered T.fd__law_ordered ["_law_some_here"] (M__law_ordered ca) := by
  have nd := sc__law_ordered.nd
  refine fnM_of (N := ["_law_some_here", "_law_pair"]) (m := b__law_ordered ca) T.F__law_ordered sc__law_ordered fun cd A outer s H E g own => ?_
  exact
(s_one (s_ret (e_callT c_tuple.call (by show _ = _; kernel_rfl) T.n_tuple bb_tuple (a_cons (e_comp (ow := [("_law_pair", 1)]) bigN rfl nd (i_seq (e_var (i := 0) (by rfl) (by exact .inl (by kernel_rfl)))) (blkOk_by (by kernel_rfl)) (fun _ _ _ _ _ => (g_name (i := 1) nd (by rfl) (by exact .inl (by kernel_rfl)) (hf := by exact .inr (by kernel_rfl)))) (fun _ _ _ _ _ => f_nil) (fun _ _ _ _ _ => (e_tup (a_cons (e_callB (c_minS (Gd.blk g)).call (by show _ = _; kernel_rfl) T.n_min bb_min (a_cons (e_var (i := 1) (by rfl) (by exact .inl (by kernel_rfl))) a_nil)) (a_cons (e_callB (c_maxS (Gd.blk g)).call (by show _ = _; kernel_rfl) T.n_max bb_max (a_cons (e_var (i := 1) (by rfl) (by exact .inl (by kernel_rfl))) a_nil)) a_nil))))) a_nil))))
theorem fn__law_spoil (T : Tx K mg ca) : FnM P w K mg base 1 T.f__law_spoil T.fd__law_spoil ["_law_some_here"] (M__law_spoil ca) := by
  have nd := sc__law_spoil.nd
  refine fnM_of (N := ["_law_some_here", "_law_pair"]) (m := b__law_spoil ca) T.F__law_spoil sc__law_spoil fun cd A outer s H E g own => ?_
  exact
(s_one (s_for (own := [1]) bigN own rfl (i_seq (e_var (i := 0) (by rfl) (by exact .inl (by kernel_rfl)))) (g_name (i := 1) nd (by rfl) (by exact .inl (by kernel_rfl)))
(s_one (s_if (t_tru (e_isi .lst (by show _ = _; kernel_rfl) T.n_isinstance bb_isinstance (by show _ = _; kernel_rfl) T.n_list bb_list (e_var (i := 1) (by rfl) (by exact .inl (by kernel_rfl)))))
(s_one (s_expr (e_meth m_append PySem.F.plainAttrs_list PySem.F.slot_list_append PySem.F.type_list_append (e_var (i := 1) (by rfl) (by exact .inl (by kernel_rfl))) (a_cons e_int a_nil))))
s_nil))))
theorem fn__law_linked (T : Tx K mg ca) (TB : TBs base mg ca) : FnM P w K mg base 7 T.f__law_linked T.fd__law_linked ["_law_net", "_law_some_here"] (M__law_linked ca) := by
  have nd := sc__law_linked.nd
  obtain ⟨oc, od, dV, kV, doc, pm, an, ct, osl, e, lk, hcd⟩ := T.lk__law_linked
  rw [e] at lk ⊢
  refine fnM_ofC (N := ["_law_net", "_law_some_here"]) (m := b__law_linked ca) lk hcd sc__law_linked fun A outer s H E g own => ?_
  exact
(s_cons
(s_if (t_cmp (o_eq g.eq) (e_callB c_len.call (by show _ = _; kernel_rfl) T.n_len bb_len (a_cons (e_var (i := 1) (by rfl) (by exact .inr (.inl (by kernel_rfl)))) a_nil)) e_int (by rfl))
(s_one (s_ret (e_lamD 4 1 (Gd.mono g (by decide)) (by show _ = _; kernel_rfl) T.g__law_refused T.F__law_refused T.b__law_refused_1 sc__law_refused ((fn__law_refused T).mono (by decide)) TB.tb__law_linked rfl (LamX.lamS_by (by kernel_rfl)) (fun A outer s H E ff fc gl ownl Gh2 =>
(e_mthS0 (Cs := [ca.c_Network]) T.me_Network_link_c0 ((fn_Network_link T).mono (by decide)) gl (e_var (i := 0) (by rfl) (by exact .inr (.inr (by kernel_rfl)))))))))
s_nil)
(s_cons
(s_if (t_cmp (o_eq g.eq) (e_callB c_len.call (by show _ = _; kernel_rfl) T.n_len bb_len (a_cons (e_var (i := 1) (by rfl) (by exact .inr (.inl (by kernel_rfl)))) a_nil)) e_int (by rfl))
(s_one (s_ret (e_lamD 4 1 (Gd.mono g (by decide)) (by show _ = _; kernel_rfl) T.g__law_refused T.F__law_refused T.b__law_refused_1 sc__law_refused ((fn__law_refused T).mono (by decide)) TB.tb__law_linked rfl (LamX.lamS_by (by kernel_rfl)) (fun A outer s H E ff fc gl ownl Gh2 =>
(e_mthS (Cs := [ca.c_Network]) T.me_Network_link_c0 ((fn_Network_link T).mono (by decide)) gl (e_var (i := 0) (by rfl) (by exact .inr (.inr (by kernel_rfl)))) (a_cons (e_sub gl (e_var (i := 1) (by rfl) (by exact .inr (.inr (by kernel_rfl)))) e_int) a_nil))))))
s_nil)
(s_cons
(s_if (t_cmp (o_eq g.eq) (e_callB c_len.call (by show _ = _; kernel_rfl) T.n_len bb_len (a_cons (e_var (i := 1) (by rfl) (by exact .inr (.inl (by kernel_rfl)))) a_nil)) e_int (by rfl))
(s_one (s_ret (e_lamD 4 1 (Gd.mono g (by decide)) (by show _ = _; kernel_rfl) T.g__law_refused T.F__law_refused T.b__law_refused_1 sc__law_refused ((fn__law_refused T).mono (by decide)) TB.tb__law_linked rfl (LamX.lamS_by (by kernel_rfl)) (fun A outer s H E ff fc gl ownl Gh2 =>
(e_mthS (Cs := [ca.c_Network]) T.me_Network_link_c0 ((fn_Network_link T).mono (by decide)) gl (e_var (i := 0) (by rfl) (by exact .inr (.inr (by kernel_rfl)))) (a_cons (e_sub gl (e_var (i := 1) (by rfl) (by exact .inr (.inr (by kernel_rfl)))) e_int) (a_cons (e_sub gl (e_var (i := 1) (by rfl) (by exact .inr (.inr (by kernel_rfl)))) e_int) a_nil)))))))
s_nil)
(s_one (s_ret (e_lamD 4 1 (Gd.mono g (by decide)) (by show _ = _; kernel_rfl) T.g__law_refused T.F__law_refused T.b__law_refused_1 sc__law_refused ((fn__law_refused T).mono (by decide)) TB.tb__law_linked rfl (LamX.lamS_by (by kernel_rfl)) (fun A outer s H E ff fc gl ownl Gh2 =>
(e_mthS (Cs := [ca.c_Network]) T.me_Network_link_c0 ((fn_Network_link T).mono (by decide)) gl (e_var (i := 0) (by rfl) (by exact .inr (.inr (by kernel_rfl)))) (a_cons (e_sub gl (e_var (i := 1) (by rfl) (by exact .inr (.inr (by kernel_rfl)))) e_int) (a_cons (e_sub gl (e_var (i := 1) (by rfl) (by exact .inr (.inr (by kernel_rfl)))) e_int) (a_cons (e_sub gl (e_var (i := 1) (by rfl) (by exact .inr (.inr (by kernel_rfl)))) e_int) a_nil)))))))))))
theorem fn__law_limits (T : Tx K mg ca) : FnM P w K mg base 4 T.f__law_limits T.fd__law_limits ["_law_pen_here", "_law_nodes"] (M__law_limits ca) := by
  have nd := sc__law_limits.nd
  refine fnM_of (N := ["_law_pen_here", "_law_nodes", "_law_good", "_law_odd_here", "_law_node"]) (m := b__law_limits ca) T.F__law_limits sc__law_limits fun cd A outer s H E g own => ?_
  exact
(s_cons
(s_set (i := 2) nd (by rfl) (by exact .inl (by kernel_rfl)) (e_callT c_tuple.call (by show _ = _; kernel_rfl) T.n_tuple bb_tuple (a_cons (e_comp (ow := [("_law_node", 4)]) bigN rfl nd (i_rng1 (by show _ = _; kernel_rfl) T.n_range (a_cons (e_var (i := 1) (by rfl) (by exact .inl (by kernel_rfl))) a_nil)) (blkOk_by (by kernel_rfl)) (fun _ _ _ _ _ => (g_name (i := 4) nd (by rfl) (by exact .inl (by kernel_rfl)) (hf := by exact .inr (by kernel_rfl)))) (fun _ _ _ _ _ => f_nil) (fun _ _ _ _ _ => (e_call (dds := []) ((fn__law_pick T).mono (by decide)) (Gd.blk g) (by show _ = _; kernel_rfl) T.g__law_pick T.F__law_pick.kp T.b__law_pick_2 T.v__law_pick_2 (fun _ _ => rfl) (a_cons (e_var (i := 0) (by rfl) (by exact .inr (.inl (by kernel_rfl)))) (a_cons (e_lst (a_cons e_int (a_cons e_int (a_cons e_int (a_cons e_int (a_cons (e_call (dds := []) ((fn__law_draw T).mono (by decide)) (Gd.blk g) (by show _ = _; kernel_rfl) T.g__law_draw T.F__law_draw.kp T.b__law_draw_2 T.v__law_draw_2 (fun _ _ => rfl) (a_cons (e_var (i := 0) (by rfl) (by exact .inr (.inl (by kernel_rfl)))) (a_cons e_int a_nil))) a_nil)))))) a_nil))))) a_nil)))
(s_cons
(s_set (i := 3) nd (by rfl) (by exact .inl (by kernel_rfl)) (e_lst (a_cons (e_callT c_list.call (by show _ = _; kernel_rfl) T.n_list bb_list (a_cons (e_var (i := 2) (by rfl) (by exact .inl (by kernel_rfl))) a_nil)) (a_cons (e_slice (e_var (i := 2) (by rfl) (by exact .inl (by kernel_rfl))) (p_some e_int) p_none) (a_cons (e_op o_add (e_var (i := 2) (by rfl) (by exact .inl (by kernel_rfl))) (e_tup (a_cons e_int a_nil))) (a_cons (e_op o_add (e_tup (a_cons e_int a_nil)) (e_slice (e_var (i := 2) (by rfl) (by exact .inl (by kernel_rfl))) (p_some e_int) p_none)) (a_cons (e_op o_add (e_slice (e_var (i := 2) (by rfl) (by exact .inl (by kernel_rfl))) p_none (p_some (e_un o_neg e_int))) (e_tup (a_cons (e_un o_neg e_int) a_nil))) (a_cons (e_op o_add (e_tup (a_cons e_bl a_nil)) (e_slice (e_var (i := 2) (by rfl) (by exact .inl (by kernel_rfl))) (p_some e_int) p_none)) (a_cons (e_call (dds := []) ((fn__law_odd T).mono (by decide)) g (by show _ = _; kernel_rfl) T.g__law_odd T.F__law_odd.kp T.b__law_odd_1 T.v__law_odd_1 (fun _ _ => rfl) (a_cons (e_var (i := 0) (by rfl) (by exact .inr (.inl (by kernel_rfl)))) a_nil)) a_nil)))))))))
(s_one (s_ret (e_call (dds := []) ((fn__law_pick T).mono (by decide)) g (by show _ = _; kernel_rfl) T.g__law_pick T.F__law_pick.kp T.b__law_pick_2 T.v__law_pick_2 (fun _ _ => rfl) (a_cons (e_var (i := 0) (by rfl) (by exact .inr (.inl (by kernel_rfl)))) (a_cons (e_lst (a_cons (e_var (i := 2) (by rfl) (by exact .inl (by kernel_rfl))) (a_cons (e_var (i := 2) (by rfl) (by exact .inl (by kernel_rfl))) (a_cons (e_var (i := 2) (by rfl) (by exact .inl (by kernel_rfl))) (a_cons (e_call (dds := []) ((fn__law_pick T).mono (by decide)) g (by show _ = _; kernel_rfl) T.g__law_pick T.F__law_pick.kp T.b__law_pick_2 T.v__law_pick_2 (fun _ _ => rfl) (a_cons (e_var (i := 0) (by rfl) (by exact .inr (.inl (by kernel_rfl)))) (a_cons (e_var (i := 3) (by rfl) (by exact .inl (by kernel_rfl))) a_nil))) a_nil))))) a_nil)))))))
theorem fn__law_is_limits (T : Tx K mg ca) : FnM P w K mg base 2 T.f__law_is_limits T.fd__law_is_limits ["_law_value", "_law_nodes"] (M__law_is_limits ca) := by
  have nd := sc__law_is_limits.nd
  refine fnM_of (N := ["_law_value", "_law_nodes", "_law_entry"]) (m := b__law_is_limits ca) T.F__law_is_limits sc__law_is_limits fun cd A outer s H E g own => ?_
  exact
(s_cons
(s_if (t_w (w_or (t_not (t_tru (e_isi .tup (by show _ = _; kernel_rfl) T.n_isinstance bb_isinstance (by show _ = _; kernel_rfl) T.n_tuple bb_tuple (e_var (i := 0) (by rfl) (by exact .inl (by kernel_rfl)))))) (w_or1 (t_cmp (o_ne g.eq) (e_callB c_len.call (by show _ = _; kernel_rfl) T.n_len bb_len (a_cons (e_var (i := 0) (by rfl) (by exact .inl (by kernel_rfl))) a_nil)) (e_var (i := 1) (by rfl) (by exact .inl (by kernel_rfl))) (by rfl)))))
(s_one (s_ret e_bl))
s_nil)
(s_one (s_ret (e_cmp (o_eq g.eq) (e_comp (ow := [("_law_entry", 2)]) bigN rfl nd (i_seq (e_var (i := 0) (by rfl) (by exact .inl (by kernel_rfl)))) (blkOk_by (by kernel_rfl)) (fun _ _ _ _ _ => (g_name (i := 2) nd (by rfl) (by exact .inl (by kernel_rfl)) (hf := by exact .inr (by kernel_rfl)))) (fun _ _ _ _ _ => (f_one (t_not (t_tru (e_call (dds := []) ((fn__law_is_node T).mono (by decide)) (Gd.blk g) (by show _ = _; kernel_rfl) T.g__law_is_node T.F__law_is_node.kp T.b__law_is_node_2 T.v__law_is_node_2 (fun _ _ => rfl) (a_cons (e_var (i := 2) (by rfl) (by exact .inl (by kernel_rfl))) (a_cons e_int a_nil))))))) (fun _ _ _ _ _ => (e_var (i := 2) (by rfl) (by exact .inl (by kernel_rfl))))) (e_lst a_nil) (by rfl)))))
theorem fn_fits_vector (T : Tx K mg ca) : FnM P w K mg base 3 T.f_fits_vector T.fd_fits_vector ["value"] (M_fits_vector ca) := by
  have nd := sc_fits_vector.nd
  refine fnM_of (N := ["value", "entry"]) (m := b_fits_vector ca) T.F_fits_vector sc_fits_vector fun cd A outer s H E g own => ?_
  exact
(s_cons
(s_if (t_w (w_or (t_not (t_tru (e_isi .tup (by show _ = _; kernel_rfl) T.n_isinstance bb_isinstance (by show _ = _; kernel_rfl) T.n_tuple bb_tuple (e_var (i := 0) (by rfl) (by exact .inl (by kernel_rfl)))))) (w_or1 (t_not (t_chain o_le o_le e_int (e_callB c_len.call (by show _ = _; kernel_rfl) T.n_len bb_len (a_cons (e_var (i := 0) (by rfl) (by exact .inl (by kernel_rfl))) a_nil)) (e_glob (d := .int 5) (v := .int 5) (by show _ = _; kernel_rfl) T.c_MAX_DIMENSION ⟨_, rfl⟩ (fun _ _ => rfl)))))))
(s_one (s_ret e_bl))
s_nil)
(s_one (s_ret (e_callB (c_all g).call (by show _ = _; kernel_rfl) T.n_all bb_all (a_cons (e_comp (ow := [("entry", 1)]) bigN rfl nd (i_seq (e_var (i := 0) (by rfl) (by exact .inl (by kernel_rfl)))) (blkOk_by (by kernel_rfl)) (fun _ _ _ _ _ => (g_name (i := 1) nd (by rfl) (by exact .inl (by kernel_rfl)) (hf := by exact .inr (by kernel_rfl)))) (fun _ _ _ _ _ => f_nil) (fun _ _ _ _ _ => (e_call (dds := []) ((fn_is_between T).mono (by decide)) (Gd.blk g) (by show _ = _; kernel_rfl) T.g_is_between T.F_is_between.kp T.b_is_between_3 T.v_is_between_3 (fun _ _ => rfl) (a_cons (e_var (i := 1) (by rfl) (by exact .inl (by kernel_rfl))) (a_cons (e_un o_neg (e_glob (d := .int 1000) (v := .int 1000) (by show _ = _; kernel_rfl) T.c_MAX_ENTRY ⟨_, rfl⟩ (fun _ _ => rfl))) (a_cons (e_glob (d := .int 1000) (v := .int 1000) (by show _ = _; kernel_rfl) T.c_MAX_ENTRY ⟨_, rfl⟩ (fun _ _ => rfl)) a_nil)))))) a_nil)))))
theorem fn_Network_limits_set (T : Tx K mg ca) : FnM P w K mg base 4 T.f_Network_limits_set T.fd_Network_limits_set ["self", "value"] (M_Network_limits_set ca) := by
  have nd := sc_Network_limits_set.nd
  refine fnM_of (N := ["self", "value", "entry"]) (m := b_Network_limits_set ca) T.F_Network_limits_set sc_Network_limits_set fun cd A outer s H E g own => ?_
  exact
(s_cons
(s_if (t_w (w_or (t_not (t_tru (e_call (dds := []) ((fn_fits_vector T).mono (by decide)) g (by show _ = _; kernel_rfl) T.g_fits_vector T.F_fits_vector.kp T.b_fits_vector_1 T.v_fits_vector_1 (fun _ _ => rfl) (a_cons (e_var (i := 1) (by rfl) (by exact .inl (by kernel_rfl))) a_nil)))) (w_or1 (t_cmp (o_ne g.eq) (e_callB c_len.call (by show _ = _; kernel_rfl) T.n_len bb_len (a_cons (e_var (i := 1) (by rfl) (by exact .inl (by kernel_rfl))) a_nil)) (e_fld (Cs := [ca.c_Network]) T.na_c0_size (e_var (i := 0) (by rfl) (by exact .inr (.inl (by kernel_rfl))))) (by rfl)))))
(s_one (s_raise T.e_InvalidVector T.iC_InvalidVector T.tI_InvalidVector (in_InvalidVector T) (g.mono (by decide)) T.bi_InvalidVector (by show _ = _; kernel_rfl) T.h_InvalidVector (a_cons (e_var (i := 1) (by rfl) (by exact .inl (by kernel_rfl))) a_nil) (by simp)))
s_nil)
(s_cons
(s_if (t_not (t_tru (e_callB (c_all g).call (by show _ = _; kernel_rfl) T.n_all bb_all (a_cons (e_comp (ow := [("entry", 2)]) bigN rfl nd (i_seq (e_var (i := 1) (by rfl) (by exact .inl (by kernel_rfl)))) (blkOk_by (by kernel_rfl)) (fun _ _ _ _ _ => (g_name (i := 2) nd (by rfl) (by exact .inl (by kernel_rfl)) (hf := by exact .inr (by kernel_rfl)))) (fun _ _ _ _ _ => f_nil) (fun _ _ _ _ _ => (e_chain o_le o_le e_int (e_var (i := 2) (by rfl) (by exact .inl (by kernel_rfl))) (e_icon (Cs := [ca.c_Network]) (all_cons ⟨_, T.ic_Network_MAX_LIMIT⟩ all_nil) (e_var (i := 0) (by rfl) (by exact .inr (.inl (by kernel_rfl)))))))) a_nil))))
(s_one (s_raise T.e_InvalidVector T.iC_InvalidVector T.tI_InvalidVector (in_InvalidVector T) (g.mono (by decide)) T.bi_InvalidVector (by show _ = _; kernel_rfl) T.h_InvalidVector (a_cons (e_var (i := 1) (by rfl) (by exact .inl (by kernel_rfl))) a_nil) (by simp)))
s_nil)
(s_one (s_setF (Cs := [ca.c_Network]) T.na_c0_caps (e_var (i := 0) (by rfl) (by exact .inr (.inl (by kernel_rfl)))) (e_var (i := 1) (by rfl) (by exact .inl (by kernel_rfl)))))))
theorem fn_Network_limit_to (T : Tx K mg ca) : FnM P w K mg base 7 T.f_Network_limit_to T.fd_Network_limit_to ["self", "limits"] (M_Network_limit_to ca) := by
  have nd := sc_Network_limit_to.nd
  refine fnM_of (N := ["self", "limits"]) (m := b_Network_limit_to ca) T.F_Network_limit_to sc_Network_limit_to fun cd A outer s H E g own => ?_
  exact
(s_one (s_setP (Cs := [ca.c_Network]) T.sq_Network_limits_set_c0 ((fn_Network_limits_set T).mono (by decide)) g T.kb_Network_limits_set_ rfl (e_var (i := 0) (by rfl) (by exact .inl (by kernel_rfl))) (e_var (i := 1) (by rfl) (by exact .inl (by kernel_rfl)))))
theorem fn__law_limited (T : Tx K mg ca) : FnM P w K mg base 8 T.f__law_limited T.fd__law_limited ["_law_net", "_law_value"] (M__law_limited ca) := by
  have nd := sc__law_limited.nd
  refine fnM_of (N := ["_law_net", "_law_value", "e"]) (m := b__law_limited ca) T.F__law_limited sc__law_limited fun cd A outer s H E g own => ?_
  exact
(s_cons
(s_try rfl rfl nd (hAll T) (fun pn xe own =>
(s_one (s_expr (e_mth (Cs := [ca.c_Network]) (dds := []) T.me_Network_limit_to_c0 ((fn_Network_limit_to T).mono (by decide)) (Gd.tr g) T.b_Network_limit_to_2 T.v_Network_limit_to_2 (fun _ _ => rfl) (e_var (i := 0) (by rfl) (by exact .inl (by kernel_rfl))) (a_cons (e_var (i := 1) (by rfl) (by exact .inl (by kernel_rfl))) a_nil)))))
(HdL.cons (h := Hd.mk ca.c_InvalidVector 2 _) T.e_InvalidVector (by show _ = _; kernel_rfl) T.h_InvalidVector (by rfl) (by show _ = _; kernel_rfl) (fun ax dx nx oe od pn hz hf hd =>
(s_one (s_ret (e_tup (a_cons (e_callB (c_reprW (Gd.suite g (a := ax) (pn := (ax, oe) :: pn))).call (by show _ = _; kernel_rfl) T.n_repr bb_repr (a_cons (e_xf T.e_InvalidVector T.no_InvalidVector_value hz hf hd (e_var (i := 2) (by rfl) (by exact .inl (by kernel_rfl)))) a_nil)) (a_cons (e_isX T.e_InvalidVector hz hf hd (by show _ = _; kernel_rfl) T.n_isinstance bb_isinstance (e_var (i := 2) (by rfl) (by exact .inl (by kernel_rfl))) (pe_bltn (v := .ty "ValueError") (by show _ = _; kernel_rfl) T.n_ValueError bb_ValueError rfl) (fun _ h => h) T.kit_InvalidVector_ValueError) a_nil)))))) HdL.nil))
(s_one (s_ret e_non)))
theorem fn_Network_limits (T : Tx K mg ca) : FnM P w K mg base 1 T.f_Network_limits T.fd_Network_limits ["self"] (M_Network_limits ca) := by
  have nd := sc_Network_limits.nd
  refine fnM_of (N := ["self"]) (m := b_Network_limits ca) T.F_Network_limits sc_Network_limits fun cd A outer s H E g own => ?_
  exact
(s_one (s_ret (e_fld (Cs := [ca.c_Network]) T.na_c0_caps (e_var (i := 0) (by rfl) (by exact .inl (by kernel_rfl))))))
theorem fn_Network_links (T : Tx K mg ca) : FnM P w K mg base 1 T.f_Network_links T.fd_Network_links ["self"] (M_Network_links ca) := by
  have nd := sc_Network_links.nd
  refine fnM_of (N := ["self"]) (m := b_Network_links ca) T.F_Network_links sc_Network_links fun cd A outer s H E g own => ?_
  exact
(s_one (s_ret (e_callT c_tuple.call (by show _ = _; kernel_rfl) T.n_tuple bb_tuple (a_cons (e_fld (Cs := [ca.c_Network]) T.na_c0_pairs (e_var (i := 0) (by rfl) (by exact .inl (by kernel_rfl)))) a_nil))))
theorem fn_Network_nodes (T : Tx K mg ca) : FnM P w K mg base 1 T.f_Network_nodes T.fd_Network_nodes ["self"] (M_Network_nodes ca) := by
  have nd := sc_Network_nodes.nd
  refine fnM_of (N := ["self"]) (m := b_Network_nodes ca) T.F_Network_nodes sc_Network_nodes fun cd A outer s H E g own => ?_
  exact
(s_one (s_ret (e_fld (Cs := [ca.c_Network]) T.na_c0_size (e_var (i := 0) (by rfl) (by exact .inl (by kernel_rfl))))))
theorem fn_Network___eq__ (T : Tx K mg ca) : FnM P w K mg base 1 T.f_Network___eq__ T.fd_Network___eq__ ["self", "other"] (M_Network___eq__ ca) := by
  have nd := sc_Network___eq__.nd
  refine fnM_of (N := ["self", "other"]) (m := b_Network___eq__ ca) T.F_Network___eq__ sc_Network___eq__ fun cd A outer s H E g own => ?_
  exact
(s_cons
(s_if (t_w (w_or (t_not (t_tru (e_isiO T.ki_Network (by show _ = _; kernel_rfl) T.n_isinstance bb_isinstance (by show _ = _; kernel_rfl) T.h_Network (e_var (i := 1) (by rfl) (by exact .inl (by kernel_rfl)))))) (w_or1 (t_cmp (o_ne g.eq) (e_fld (Cs := [ca.c_Network]) T.na_c0_size (e_var (i := 0) (by rfl) (by exact .inl (by kernel_rfl)))) (e_fld (Cs := [ca.c_Network]) T.na_c0_size (e_var (i := 1) (by rfl) (by exact .inl (by kernel_rfl)))) (by rfl)))))
(s_one (s_ret e_bl))
s_nil)
(s_one (s_ret (e_and (e_cmp (o_eq g.eq) (e_fld (Cs := [ca.c_Network]) T.na_c0_pairs (e_var (i := 0) (by rfl) (by exact .inl (by kernel_rfl)))) (e_fld (Cs := [ca.c_Network]) T.na_c0_pairs (e_var (i := 1) (by rfl) (by exact .inl (by kernel_rfl)))) (by rfl)) (e_one (e_cmp (o_eq g.eq) (e_fld (Cs := [ca.c_Network]) T.na_c0_caps (e_var (i := 0) (by rfl) (by exact .inl (by kernel_rfl)))) (e_fld (Cs := [ca.c_Network]) T.na_c0_caps (e_var (i := 1) (by rfl) (by exact .inl (by kernel_rfl)))) (by rfl)))))))
theorem fn__law_equal_right (T : Tx K mg ca) : FnM P w K mg base 8 T.f__law_equal_right T.fd__law_equal_right ["_law_net", "_law_nodes", "_law_links", "_law_limits_here"] (M__law_equal_right ca) := by
  have nd := sc__law_equal_right.nd
  refine fnM_of (N := ["_law_net", "_law_nodes", "_law_links", "_law_limits_here", "_law_twin", "_law_turned"]) (m := b__law_equal_right ca) T.F__law_equal_right sc__law_equal_right fun cd A outer s H E g own => ?_
  exact
(s_cons
(s_par (i := 4) (j := 5) rfl nd (by rfl) (by rfl) (by decide) (by rfl) (by rfl) (a_cons (e_make (dds := []) T.mk_Network T.ow_Network ((fn_Network___init__ T).mono (by decide)) g (by show _ = _; kernel_rfl) T.h_Network T.b_Network___init___3 T.v_Network___init___3 (fun _ _ => rfl) (a_cons (e_var (i := 1) (by rfl) (by exact .inl (by kernel_rfl))) (a_cons (e_var (i := 2) (by rfl) (by exact .inl (by kernel_rfl))) a_nil))) (a_cons (e_make (dds := []) T.mk_Network T.ow_Network ((fn_Network___init__ T).mono (by decide)) g (by show _ = _; kernel_rfl) T.h_Network T.b_Network___init___3 T.v_Network___init___3 (fun _ _ => rfl) (a_cons (e_var (i := 1) (by rfl) (by exact .inl (by kernel_rfl))) (a_cons (e_rev (e_var (i := 2) (by rfl) (by exact .inl (by kernel_rfl)))) a_nil))) a_nil)))
(s_cons
(s_if (t_w (w_or (t_cmp (o_ne g.eq) (e_cmpO (.inl ⟨rfl, rfl⟩) T.eo_Network ((fn_Network___eq__ T).mono (by decide)) T.kb_Network___eq___ g (o_eq g.eq) (e_var (i := 0) (by rfl) (by exact .inl (by kernel_rfl))) (e_var (i := 4) (by rfl) (by exact .inl (by kernel_rfl))) (by rfl)) (e_cmp (o_eq g.eq) (e_var (i := 3) (by rfl) (by exact .inl (by kernel_rfl))) (e_op o_mulT (e_tup (a_cons e_int a_nil)) (e_var (i := 1) (by rfl) (by exact .inl (by kernel_rfl)))) (by rfl)) (by rfl)) (w_or (t_cmpO (.inl ⟨rfl, rfl⟩) T.eo_Network ((fn_Network___eq__ T).mono (by decide)) T.kb_Network___eq___ g (o_eq g.eq) (e_var (i := 0) (by rfl) (by exact .inl (by kernel_rfl))) (e_var (i := 2) (by rfl) (by exact .inl (by kernel_rfl))) (by rfl)) (w_or1 (t_cmpO (.inl ⟨rfl, rfl⟩) T.eo_Network ((fn_Network___eq__ T).mono (by decide)) T.kb_Network___eq___ g (o_eq g.eq) (e_var (i := 0) (by rfl) (by exact .inl (by kernel_rfl))) (e_make (dds := []) T.mk_Network T.ow_Network ((fn_Network___init__ T).mono (by decide)) g (by show _ = _; kernel_rfl) T.h_Network T.b_Network___init___3 T.v_Network___init___3 (fun _ _ => rfl) (a_cons (e_op o_add (e_op o_mod (e_callT c_int.call (by show _ = _; kernel_rfl) T.n_int bb_int (a_cons (e_var (i := 1) (by rfl) (by exact .inl (by kernel_rfl))) a_nil)) e_int) e_int) (a_cons (e_tup a_nil) a_nil))) (by rfl))))))
(s_one (s_ret e_bl))
s_nil)
(s_cons
(s_expr (e_mth (Cs := [ca.c_Network]) (dds := []) T.me_Network_limit_to_c0 ((fn_Network_limit_to T).mono (by decide)) g T.b_Network_limit_to_2 T.v_Network_limit_to_2 (fun _ _ => rfl) (e_var (i := 4) (by rfl) (by exact .inl (by kernel_rfl))) (a_cons (e_var (i := 3) (by rfl) (by exact .inl (by kernel_rfl))) a_nil)))
(s_cons
(s_expr (e_mth (Cs := [ca.c_Network]) (dds := []) T.me_Network_limit_to_c0 ((fn_Network_limit_to T).mono (by decide)) g T.b_Network_limit_to_2 T.v_Network_limit_to_2 (fun _ _ => rfl) (e_var (i := 5) (by rfl) (by exact .inl (by kernel_rfl))) (a_cons (e_var (i := 3) (by rfl) (by exact .inl (by kernel_rfl))) a_nil)))
(s_cons
(s_if (t_cmp (o_ne g.eq) (e_cmpO (.inl ⟨rfl, rfl⟩) T.eo_Network ((fn_Network___eq__ T).mono (by decide)) T.kb_Network___eq___ g (o_eq g.eq) (e_var (i := 0) (by rfl) (by exact .inl (by kernel_rfl))) (e_var (i := 5) (by rfl) (by exact .inl (by kernel_rfl))) (by rfl)) (e_cmp (o_eq g.eq) (e_var (i := 2) (by rfl) (by exact .inl (by kernel_rfl))) (e_rev (e_var (i := 2) (by rfl) (by exact .inl (by kernel_rfl)))) (by rfl)) (by rfl))
(s_one (s_ret e_bl))
s_nil)
(s_one (s_ret (e_and (e_cmpO (.inl ⟨rfl, rfl⟩) T.eo_Network ((fn_Network___eq__ T).mono (by decide)) T.kb_Network___eq___ g (o_eq g.eq) (e_var (i := 0) (by rfl) (by exact .inl (by kernel_rfl))) (e_var (i := 4) (by rfl) (by exact .inl (by kernel_rfl))) (by rfl)) (e_and (e_cmpO (.inl ⟨rfl, rfl⟩) T.eo_Network ((fn_Network___eq__ T).mono (by decide)) T.kb_Network___eq___ g (o_eq g.eq) (e_var (i := 4) (by rfl) (by exact .inl (by kernel_rfl))) (e_var (i := 0) (by rfl) (by exact .inl (by kernel_rfl))) (by rfl)) (e_one (e_or (e_cmp (o_eq g.eq) (e_var (i := 2) (by rfl) (by exact .inl (by kernel_rfl))) (e_tup a_nil) (by rfl)) (e_one (e_cmpO (.inr ⟨rfl, rfl⟩) T.eo_Network ((fn_Network___eq__ T).mono (by decide)) T.kb_Network___eq___ g (o_ne g.eq) (e_var (i := 0) (by rfl) (by exact .inl (by kernel_rfl))) (e_make (dds := []) T.mk_Network T.ow_Network ((fn_Network___init__ T).mono (by decide)) g (by show _ = _; kernel_rfl) T.h_Network T.b_Network___init___3 T.v_Network___init___3 (fun _ _ => rfl) (a_cons (e_var (i := 1) (by rfl) (by exact .inl (by kernel_rfl))) (a_cons (e_slice (e_var (i := 2) (by rfl) (by exact .inl (by kernel_rfl))) (p_some e_int) p_none) a_nil))) (by rfl))))))))))))))
theorem fn_law (T : Tx K mg ca) (TB : TBs base mg ca) : FnM P w K mg base 10 T.f_law T.fd_law ["_law_script"] (M_law ca) := by
  have nd := sc_law.nd
  refine fnM_of (N := ["_law_script", "_law_pen_here", "_law_turn", "_law_nodes", "_law_given", "_law_limits_here", "_law_links", "_law_net", "_law_again", "_law_some_here", "_law_kept", "_law_due_here", "_law_value", "_law_is_good"]) (m := b_law ca) T.F_law sc_law fun cd A outer s H E g own => ?_
  exact
(s_cons
(s_set (i := 1) nd (by rfl) (by exact .inl (by kernel_rfl)) (e_call (dds := []) ((fn__law_pen T).mono (by decide)) g (by show _ = _; kernel_rfl) T.g__law_pen T.F__law_pen.kp T.b__law_pen_1 T.v__law_pen_1 (fun _ _ => rfl) (a_cons (e_var (i := 0) (by rfl) (by exact .inl (by kernel_rfl))) a_nil)))
(s_cons
(s_for (own := [2]) bigN own rfl (i_rng1 (by show _ = _; kernel_rfl) T.n_range (a_cons (e_op o_add e_int (e_callB (c_min2 g).call (by show _ = _; kernel_rfl) T.n_min bb_min (a_cons e_int (a_cons (e_callB c_len.call (by show _ = _; kernel_rfl) T.n_len bb_len (a_cons (e_var (i := 0) (by rfl) (by exact .inl (by kernel_rfl))) a_nil)) a_nil)))) a_nil)) (g_name (i := 2) nd (by rfl) (by exact .inl (by kernel_rfl)))
(s_cons
(s_set (i := 3) nd (by rfl) (by exact .inl (by kernel_rfl)) (e_op o_add e_int (e_call (dds := []) ((fn__law_draw T).mono (by decide)) g (by show _ = _; kernel_rfl) T.g__law_draw T.F__law_draw.kp T.b__law_draw_2 T.v__law_draw_2 (fun _ _ => rfl) (a_cons (e_var (i := 1) (by rfl) (by exact .inl (by kernel_rfl))) (a_cons e_int a_nil)))))
(s_cons
(s_set (i := 4) nd (by rfl) (by exact .inl (by kernel_rfl)) (e_call (dds := []) ((fn__law_some T).mono (by decide)) g (by show _ = _; kernel_rfl) T.g__law_some T.F__law_some.kp T.b__law_some_3 T.v__law_some_3 (fun _ _ => rfl) (a_cons (e_var (i := 1) (by rfl) (by exact .inl (by kernel_rfl))) (a_cons (e_var (i := 3) (by rfl) (by exact .inl (by kernel_rfl))) (a_cons e_int a_nil)))))
(s_cons
(s_if (t_not (t_tru (e_call (dds := []) ((fn__law_refused_right T TB).mono (by decide)) g (by show _ = _; kernel_rfl) T.g__law_refused_right T.F__law_refused_right.kp T.b__law_refused_right_3 T.v__law_refused_right_3 (fun _ _ => rfl) (a_cons (e_var (i := 1) (by rfl) (by exact .inl (by kernel_rfl))) (a_cons (e_var (i := 3) (by rfl) (by exact .inl (by kernel_rfl))) (a_cons (e_var (i := 4) (by rfl) (by exact .inl (by kernel_rfl))) a_nil))))))
(s_one (s_ret e_bl))
s_nil)
(s_cons
(s_par (i := 4) (j := 5) rfl nd (by rfl) (by rfl) (by decide) (by rfl) (by rfl) (a_cons (e_if (t_cmp o_is (e_call (dds := []) ((fn__law_due T).mono (by decide)) g (by show _ = _; kernel_rfl) T.g__law_due T.F__law_due.kp T.b__law_due_3 T.v__law_due_3 (fun _ _ => rfl) (a_cons (e_tup a_nil) (a_cons (e_var (i := 4) (by rfl) (by exact .inl (by kernel_rfl))) (a_cons (e_var (i := 3) (by rfl) (by exact .inl (by kernel_rfl))) a_nil)))) e_non (by rfl)) (e_var (i := 4) (by rfl) (by exact .inl (by kernel_rfl))) (e_lst a_nil)) (a_cons (e_op o_mulT (e_tup (a_cons e_int a_nil)) (e_var (i := 3) (by rfl) (by exact .inl (by kernel_rfl)))) a_nil)))
(s_cons
(s_par (i := 6) (j := 7) rfl nd (by rfl) (by rfl) (by decide) (by rfl) (by rfl) (a_cons (e_call (dds := []) ((fn__law_ordered T).mono (by decide)) g (by show _ = _; kernel_rfl) T.g__law_ordered T.F__law_ordered.kp T.b__law_ordered_1 T.v__law_ordered_1 (fun _ _ => rfl) (a_cons (e_var (i := 4) (by rfl) (by exact .inl (by kernel_rfl))) a_nil)) (a_cons (e_make (dds := []) T.mk_Network T.ow_Network ((fn_Network___init__ T).mono (by decide)) g (by show _ = _; kernel_rfl) T.h_Network T.b_Network___init___3 T.v_Network___init___3 (fun _ _ => rfl) (a_cons (e_var (i := 3) (by rfl) (by exact .inl (by kernel_rfl))) (a_cons (e_var (i := 4) (by rfl) (by exact .inl (by kernel_rfl))) a_nil))) a_nil)))
(s_cons
(s_expr (e_meth m_append PySem.F.plainAttrs_list PySem.F.slot_list_append PySem.F.type_list_append (e_var (i := 4) (by rfl) (by exact .inl (by kernel_rfl))) (a_cons (e_tup (a_cons e_int (a_cons e_int a_nil))) a_nil)))
(s_cons
(s_expr (e_call (dds := []) ((fn__law_spoil T).mono (by decide)) g (by show _ = _; kernel_rfl) T.g__law_spoil T.F__law_spoil.kp T.b__law_spoil_1 T.v__law_spoil_1 (fun _ _ => rfl) (a_cons (e_var (i := 4) (by rfl) (by exact .inl (by kernel_rfl))) a_nil)))
(s_one (s_for (own := [8]) bigN own rfl (i_rng1 (by show _ = _; kernel_rfl) T.n_range (a_cons e_int a_nil)) (g_name (i := 8) nd (by rfl) (by exact .inl (by kernel_rfl)))
(s_cons
(s_set (i := 9) nd (by rfl) (by exact .inl (by kernel_rfl)) (e_call (dds := []) ((fn__law_some T).mono (by decide)) g (by show _ = _; kernel_rfl) T.g__law_some T.F__law_some.kp T.b__law_some_3 T.v__law_some_3 (fun _ _ => rfl) (a_cons (e_var (i := 1) (by rfl) (by exact .inl (by kernel_rfl))) (a_cons (e_var (i := 3) (by rfl) (by exact .inl (by kernel_rfl))) (a_cons e_int a_nil)))))
(s_cons
(s_par (i := 10) (j := 11) rfl nd (by rfl) (by rfl) (by decide) (by rfl) (by rfl) (a_cons (e_callB (c_repr g).call (by show _ = _; kernel_rfl) T.n_repr bb_repr (a_cons (e_var (i := 9) (by rfl) (by exact .inl (by kernel_rfl))) a_nil)) (a_cons (e_call (dds := []) ((fn__law_due T).mono (by decide)) g (by show _ = _; kernel_rfl) T.g__law_due T.F__law_due.kp T.b__law_due_3 T.v__law_due_3 (fun _ _ => rfl) (a_cons (e_var (i := 6) (by rfl) (by exact .inl (by kernel_rfl))) (a_cons (e_var (i := 9) (by rfl) (by exact .inl (by kernel_rfl))) (a_cons (e_var (i := 3) (by rfl) (by exact .inl (by kernel_rfl))) a_nil)))) a_nil)))
(s_cons
(s_if (t_w (w_or (t_cmp (o_ne g.eq) (e_call (dds := []) ((fn__law_linked T TB).mono (by decide)) g (by show _ = _; kernel_rfl) T.g__law_linked T.F__law_linked.kp T.b__law_linked_2 T.v__law_linked_2 (fun _ _ => rfl) (a_cons (e_var (i := 7) (by rfl) (by exact .inl (by kernel_rfl))) (a_cons (e_var (i := 9) (by rfl) (by exact .inl (by kernel_rfl))) a_nil))) (e_var (i := 11) (by rfl) (by exact .inl (by kernel_rfl))) (by rfl)) (w_or1 (t_cmp (o_ne g.eq) (e_callB (c_repr g).call (by show _ = _; kernel_rfl) T.n_repr bb_repr (a_cons (e_var (i := 9) (by rfl) (by exact .inl (by kernel_rfl))) a_nil)) (e_var (i := 10) (by rfl) (by exact .inl (by kernel_rfl))) (by rfl)))))
(s_one (s_ret e_bl))
s_nil)
(s_cons
(s_set (i := 6) nd (by rfl) (by exact .inl (by kernel_rfl)) (e_if (t_cmp o_is (e_var (i := 11) (by rfl) (by exact .inl (by kernel_rfl))) e_non (by rfl)) (e_op o_add (e_var (i := 6) (by rfl) (by exact .inl (by kernel_rfl))) (e_call (dds := []) ((fn__law_ordered T).mono (by decide)) g (by show _ = _; kernel_rfl) T.g__law_ordered T.F__law_ordered.kp T.b__law_ordered_1 T.v__law_ordered_1 (fun _ _ => rfl) (a_cons (e_var (i := 9) (by rfl) (by exact .inl (by kernel_rfl))) a_nil))) (e_var (i := 6) (by rfl) (by exact .inl (by kernel_rfl)))))
(s_cons
(s_expr (e_call (dds := []) ((fn__law_spoil T).mono (by decide)) g (by show _ = _; kernel_rfl) T.g__law_spoil T.F__law_spoil.kp T.b__law_spoil_1 T.v__law_spoil_1 (fun _ _ => rfl) (a_cons (e_var (i := 9) (by rfl) (by exact .inl (by kernel_rfl))) a_nil)))
(s_cons
(s_set (i := 12) nd (by rfl) (by exact .inl (by kernel_rfl)) (e_call (dds := []) ((fn__law_limits T).mono (by decide)) g (by show _ = _; kernel_rfl) T.g__law_limits T.F__law_limits.kp T.b__law_limits_2 T.v__law_limits_2 (fun _ _ => rfl) (a_cons (e_var (i := 1) (by rfl) (by exact .inl (by kernel_rfl))) (a_cons (e_var (i := 3) (by rfl) (by exact .inl (by kernel_rfl))) a_nil))))
(s_cons
(s_set (i := 13) nd (by rfl) (by exact .inl (by kernel_rfl)) (e_call (dds := []) ((fn__law_is_limits T).mono (by decide)) g (by show _ = _; kernel_rfl) T.g__law_is_limits T.F__law_is_limits.kp T.b__law_is_limits_2 T.v__law_is_limits_2 (fun _ _ => rfl) (a_cons (e_var (i := 12) (by rfl) (by exact .inl (by kernel_rfl))) (a_cons (e_var (i := 3) (by rfl) (by exact .inl (by kernel_rfl))) a_nil))))
(s_cons
(s_if (t_cmp (o_ne g.eq) (e_call (dds := []) ((fn__law_limited T).mono (by decide)) g (by show _ = _; kernel_rfl) T.g__law_limited T.F__law_limited.kp T.b__law_limited_2 T.v__law_limited_2 (fun _ _ => rfl) (a_cons (e_var (i := 7) (by rfl) (by exact .inl (by kernel_rfl))) (a_cons (e_var (i := 12) (by rfl) (by exact .inl (by kernel_rfl))) a_nil))) (e_if (t_tru (e_var (i := 13) (by rfl) (by exact .inl (by kernel_rfl)))) e_non (e_tup (a_cons (e_callB (c_repr g).call (by show _ = _; kernel_rfl) T.n_repr bb_repr (a_cons (e_var (i := 12) (by rfl) (by exact .inl (by kernel_rfl))) a_nil)) (a_cons e_bl a_nil)))) (by rfl))
(s_one (s_ret e_bl))
s_nil)
(s_cons
(s_set (i := 5) nd (by rfl) (by exact .inl (by kernel_rfl)) (e_if (t_tru (e_var (i := 13) (by rfl) (by exact .inl (by kernel_rfl)))) (e_var (i := 12) (by rfl) (by exact .inl (by kernel_rfl))) (e_var (i := 5) (by rfl) (by exact .inl (by kernel_rfl)))))
(s_cons
(s_if (t_cmp (o_ne g.eq) (e_callB (c_repr g).call (by show _ = _; kernel_rfl) T.n_repr bb_repr (a_cons (e_tup (a_cons (e_prop (Cs := [ca.c_Network]) T.pp_Network_nodes_c0 ((fn_Network_nodes T).mono (by decide)) g T.kb_Network_nodes_ (e_var (i := 7) (by rfl) (by exact .inl (by kernel_rfl)))) (a_cons (e_prop (Cs := [ca.c_Network]) T.pp_Network_links_c0 ((fn_Network_links T).mono (by decide)) g T.kb_Network_links_ (e_var (i := 7) (by rfl) (by exact .inl (by kernel_rfl)))) (a_cons (e_prop (Cs := [ca.c_Network]) T.pp_Network_limits_c0 ((fn_Network_limits T).mono (by decide)) g T.kb_Network_limits_ (e_var (i := 7) (by rfl) (by exact .inl (by kernel_rfl)))) a_nil)))) a_nil)) (e_callB (c_repr g).call (by show _ = _; kernel_rfl) T.n_repr bb_repr (a_cons (e_tup (a_cons (e_var (i := 3) (by rfl) (by exact .inl (by kernel_rfl))) (a_cons (e_var (i := 6) (by rfl) (by exact .inl (by kernel_rfl))) (a_cons (e_var (i := 5) (by rfl) (by exact .inl (by kernel_rfl))) a_nil)))) a_nil)) (by rfl))
(s_one (s_ret e_bl))
s_nil)
(s_one (s_if (t_not (t_tru (e_call (dds := []) ((fn__law_equal_right T).mono (by decide)) g (by show _ = _; kernel_rfl) T.g__law_equal_right T.F__law_equal_right.kp T.b__law_equal_right_4 T.v__law_equal_right_4 (fun _ _ => rfl) (a_cons (e_var (i := 7) (by rfl) (by exact .inl (by kernel_rfl))) (a_cons (e_var (i := 3) (by rfl) (by exact .inl (by kernel_rfl))) (a_cons (e_var (i := 6) (by rfl) (by exact .inl (by kernel_rfl))) (a_cons (e_var (i := 5) (by rfl) (by exact .inl (by kernel_rfl))) a_nil)))))))
(s_one (s_ret e_bl))
s_nil))))))))))))))))))))))
(s_one (s_ret e_bl))))
end

end Q

local macro_rules | `(tactic| fail) => `(tactic| first
  | with_reducible refine Q.wpS_seq ?_
  | with_reducible refine Q.wpS_set ?_
  | with_reducible refine Q.wpS_ret ?_
  | with_reducible refine Q.wpS_expr ?_
  | with_reducible refine Q.wpS_skip ?_
  | with_reducible refine Q.wpS_if ?_
  | with_reducible refine Q.wpS_store ?_
  | with_reducible refine Q.wpS_asg ?_
  | with_reducible refine Q.wpS_par ?_
  | with_reducible refine Q.wpS_par3 ?_
  | with_reducible refine Q.wpS_for ?_
  | ((with_reducible refine Q.wpE_isvar ?_); refine Q.wpE_eq rfl ?_)
  | with_reducible refine Q.wpE_c ?_
  | with_reducible refine Q.wpE_cons ?_
  | with_reducible refine Q.wpE_nil ?_
  | with_reducible refine Q.wpE_m2 ?_
  | with_reducible refine Q.wpE_m1 ?_
  | with_reducible refine Q.wpE_call ?_
  | with_reducible refine Q.wpO_g1 ?_
  | with_reducible refine Q.wpO_g2 ?_
  | with_reducible refine Q.wpE_tup ?_
  | with_reducible refine Q.wpE_lst ?_
  | with_reducible refine Q.wpE_dnew ?_
  | with_reducible refine Q.wpE_disp ?_
  | with_reducible refine Q.wpE_psN ?_
  | with_reducible refine Q.wpE_psC ?_
  | with_reducible refine Q.wpE_callF0 ?_
  | with_reducible refine Q.wpE_callF ?_
  | with_reducible refine Q.wpE_meth ?_
  | with_reducible refine Q.wpE_if ?_
  | with_reducible refine Q.wpE_andV ?_
  | with_reducible refine Q.wpE_orV ?_
  | with_reducible refine Q.wpE_notV ?_
  | with_reducible refine Q.wpE_chain ?_
  | with_reducible refine Q.wpE_comp ?_
  | with_reducible refine Q.wpE_star ?_
  | with_reducible refine Q.wpE_sl ?_
  | with_reducible refine Q.wpE_none ?_
  | with_reducible refine Q.wpE_some ?_
  | with_reducible refine Q.wpE_iSeq ?_
  | with_reducible refine Q.wpE_rng1 ?_
  | with_reducible refine Q.wpE_rng2 ?_
  | with_reducible refine Q.wpT_B ?_
  | with_reducible refine Q.wpT_Tr ?_
  | with_reducible refine Q.wpT_not ?_
  | with_reducible refine Q.wpT_and ?_
  | with_reducible refine Q.wpT_or ?_
  | with_reducible refine Q.wpT_yes ?_
  | with_reducible refine Q.wpO_add ?_
  | with_reducible refine Q.wpO_sub ?_
  | with_reducible refine Q.wpO_neg ?_
  | with_reducible refine Q.wpO_lt ?_
  | with_reducible refine Q.wpO_le ?_
  | with_reducible refine Q.wpO_gt ?_
  | with_reducible refine Q.wpO_ge ?_
  | with_reducible refine Q.wpO_int ?_
  | with_reducible refine Q.wpO_abs ?_
  | with_reducible refine Q.wpO_lenT ?_
  | with_reducible refine Q.wpO_isN ?_
  | with_reducible refine Q.wpO_isNotN ?_
  | with_reducible refine Q.wpO_tupleT ?_
  | with_reducible refine Q.wpO_eqI ?_
  | with_reducible refine Q.wpO_neI ?_
  | with_reducible refine Q.wpO_eqS ?_
  | with_reducible refine Q.wpO_neSame ?_
  | with_reducible refine Q.wpO_neS ?_
  | with_reducible refine Q.wpO_cutT ?_
  | ((with_reducible refine Q.wpO_mod ?_ ?_); · decide)
  | ((with_reducible refine Q.wpO_div ?_ ?_ ?_); · decide; · decide)
  | with_reducible refine Q.brT ?_
  | with_reducible refine Q.brF ?_
  | with_reducible refine Q.brT2 ?_
  | with_reducible refine Q.brF2 ?_
  | with_reducible refine Q.brNT ?_
  | with_reducible refine Q.brNF ?_
  | with_reducible refine Q.exBl ?_
  | with_reducible refine Q.exTrB ?_
  | with_reducible refine Q.exTrI ?_
  | with_reducible refine Q.exTrN ?_
  | with_reducible refine Q.exInt ?_
  | with_reducible refine Q.exIt ?_
  | with_reducible refine Q.exPar ?_
  | with_reducible refine Q.exName ?_
  | ((with_reducible refine Q.exR1 ?_ ?_); · decide +kernel)
  | ((with_reducible refine Q.exR2 ?_ ?_ ?_); · decide +kernel; · decide +kernel)
  | ((with_reducible refine Q.lenE ?_ ?_); · rfl)
  | ((with_reducible refine Q.lenS ?_ ?_); · (simp only [List.length_cons, List.length_nil, List.cons_append, List.nil_append]; decide)))


namespace Q
open PySem PySem.Spec PyProof.Rows L2
variable {ca : CA}
/-! ### the draw -/
theorem draw_sp {p c n : Nat} {S : Store} {size : Int} {E : EK} {Q : D → Store → Prop} (P : Pen p c n S) (hn : n < 2 ^ 64) (h0 : 0 < size) (h1 : size < 2 ^ 64) (k : ∀ r T, 0 ≤ r → r < size → Pen p c (n + 1) T → KpX p S T → Q (.int r) T) : wpE (M__law_draw ca [.ref p, .int size] S) Q E := by
  obtain ⟨ns, t, ρ, hp, hc, hl, hb, ht0, htn, hr0, hrb, hne⟩ := P.open
  have hs9 : size.natAbs.log2 < 9000 := by have := log2_lt' (n := size.natAbs) (k := 64) (by omega); omega
  have mp := Int.emod_nonneg ρ (by omega : size ≠ 0)
  have mq := Int.emod_lt_of_pos ρ h0
  have bt : Bd 64 t := by show t.natAbs < _; omega
  refine wpE_def ?_
  unfold b__law_draw
  repeat fail
  refine wpO_rest hp ?_
  repeat fail
  refine ⟨fun hz => ?_, fun hz => ?_⟩
  · have hz := of_decide_eq_true hz
    repeat fail
    refine wpO_rest hp ?_
    repeat fail
    refine wpO_mod h0 ?_
    repeat fail
    refine wpO_rest hp ?_
    repeat fail
    refine wpO_div h0 hs9 ?_
    repeat fail
    refine st_rest hp ?_
    repeat fail
    refine k _ _ mp mq ?_ KpX.set
    have d0 : 0 ≤ ρ / size := Int.ediv_nonneg hr0 (by omega)
    have d1 := Int.ediv_le_self size hr0
    refine Pen.mk' (List.getElem?_set_self (lt_of_at hp)) (by rw [List.getElem?_set_ne (Ne.symm hne)]; exact hc) hl hb ht0 (by omega) d0 ?_ hne
    generalize (2 : Nat) ^ 1048577 = M at hrb
    omega
  · have hz := of_decide_eq_false hz
    repeat fail
    refine wpO_turn hp ?_
    repeat fail
    refine st_turn hp ?_
    have hp1 : (S.set p (.dct (penK c (t + 1) ρ)))[p]? = some (.dct (penK c (t + 1) ρ)) := List.getElem?_set_self (lt_of_at hp)
    have hc1 : (S.set p (.dct (penK c (t + 1) ρ)))[c]? = some (.lst (ns.map D.int)) := by rw [List.getElem?_set_ne (Ne.symm hne)]; exact hc
    have hk1 : KpX p S (S.set p (.dct (penK c (t + 1) ρ))) := KpX.set
    generalize S.set p (.dct (penK c (t + 1) ρ)) = S1 at hp1 hc1 hk1
    repeat fail
    refine wpO_mul (Bd.prod (k := 6) (l := 64) Bd.lit bt) ?_
    repeat fail
    refine wpO_cells hp1 ?_
    repeat fail
    intro m S2 k2 _ hm
    have hp2 := k2 _ _ hp1
    have hc2 := k2 _ _ hc1
    have hk2 := hk1.trans k2.x
    refine wpO_neNil hc2 hm ?_
    repeat fail
    have pen2 : Pen p c (n + 1) S2 := Pen.mk' hp2 hc2 hl hb (by omega) (by omega) hr0 hrb hne
    refine wp_split (fun e T => T = S2 ∧ ∃ cell : Int, e = [some (.ref p), some (.int size), none, some (.int t), some (.int cell), none, none] ∧ (ns ≠ [] → cell.natAbs < 2 ^ 1048577)) (fun e T hJ => ?_) ⟨fun he => ?_, fun he => ?_⟩
    · obtain ⟨rfl, cell, rfl, hcell⟩ := hJ
      repeat fail
      refine wpO_cells hp2 ?_
      repeat fail
      refine wpO_lenL hc2 ?_
      repeat fail
      rw [List.length_map]
      refine ⟨fun hlt => ?_, fun _ => ?_⟩
      · have hlt := of_decide_eq_true hlt
        have hne' : ns ≠ [] := fun e => by rw [e] at hlt; simp at hlt; omega
        repeat fail
        refine wpO_pow18 ?_
        repeat fail
        refine ⟨fun hge => ?_, fun _ => ?_⟩
        · have hge := of_decide_eq_true hge
          obtain ⟨d0, d1⟩ := rest_small (q := size) (hcell hne') hge h0
          repeat fail
          refine wpO_pow18 ?_
          repeat fail
          refine wpO_div h0 hs9 ?_
          repeat fail
          refine st_rest hp2 ?_
          repeat fail
          refine wpO_pow18 ?_
          repeat fail
          refine wpO_mod h0 ?_
          refine k _ _ (Int.emod_nonneg _ (by omega)) (Int.emod_lt_of_pos _ h0) ?_ (hk2.trans KpX.set)
          exact Pen.mk' (List.getElem?_set_self (lt_of_at hp2)) (by rw [List.getElem?_set_ne (Ne.symm hne)]; exact hc2) hl hb (by omega) (by omega) d0 d1 hne
        · repeat fail
          intro q S3 k3 _ hq
          have pT := pen2.kp k3
          have kT := hk2.trans k3.x
          repeat fail
          have i0 := Int.emod_nonneg t (by decide : (4 : Int) ≠ 0)
          have i1 := Int.emod_lt_of_pos t (by decide : (0 : Int) < 4)
          obtain ⟨pr, hpr, hat⟩ := atI_in (xs := [2147483647, 2147483629, 2147483587, 2147483579]) i0 i1
          have hpr1 : 0 < pr ∧ Bd 31 pr := by
            simp only [List.mem_cons, List.not_mem_nil, or_false] at hpr
            rcases hpr with rfl | rfl | rfl | rfl <;> exact ⟨by decide, by unfold Bd; decide⟩
          have c0 : Bd 33 (cell % 4294967291) := Bd.mod (by decide) Bd.lit
          refine wpO_mul (Bd.prod c0 (l := 17) Bd.lit) ?_
          repeat fail
          refine wpO_mul (Bd.prod (k := 17) Bd.lit bt) ?_
          repeat fail
          refine wpO_mul (Bd.prod (Bd.mul (k := 17) Bd.lit bt) bt) ?_
          repeat fail
          refine wpO_mul (Bd.prod (k := 18) Bd.lit bt) ?_
          repeat fail
          refine wpO_subL hq hat ?_
          repeat fail
          refine wpO_mod hpr1.1 ?_
          repeat fail
          generalize hm1 : (cell % 4294967291 * 48271 + 40692 * t * t + 69621 * t + 17) % pr = m1
          have b1 : Bd 31 m1 := by rw [← hm1]; exact Bd.mod hpr1.1 hpr1.2
          refine wpO_mul (Bd.prod b1 b1) ?_
          repeat fail
          refine wpO_mul (Bd.prod (k := 16) Bd.lit b1) ?_
          repeat fail
          refine wpO_mul (Bd.prod (k := 4) Bd.lit bt) ?_
          repeat fail
          generalize hm2 : (m1 * m1 + 16807 * m1 + 5 * t + 3) % 4294967279 = m2
          have b2 : Bd 33 m2 := by rw [← hm2]; exact Bd.mod (by decide) Bd.lit
          refine wpO_mul (Bd.prod b2 (Bd.add b2 (l := 26) Bd.lit)) ?_
          repeat fail
          refine wpO_mod h0 ?_
          exact k _ _ (Int.emod_nonneg _ (by omega)) (Int.emod_lt_of_pos _ h0) pT kT
      · repeat fail
        intro q S3 k3 _ hq
        have pT := pen2.kp k3
        have kT := hk2.trans k3.x
        repeat fail
        have i0 := Int.emod_nonneg t (by decide : (4 : Int) ≠ 0)
        have i1 := Int.emod_lt_of_pos t (by decide : (0 : Int) < 4)
        obtain ⟨pr, hpr, hat⟩ := atI_in (xs := [2147483647, 2147483629, 2147483587, 2147483579]) i0 i1
        have hpr1 : 0 < pr ∧ Bd 31 pr := by
          simp only [List.mem_cons, List.not_mem_nil, or_false] at hpr
          rcases hpr with rfl | rfl | rfl | rfl <;> exact ⟨by decide, by unfold Bd; decide⟩
        have c0 : Bd 33 (cell % 4294967291) := Bd.mod (by decide) Bd.lit
        refine wpO_mul (Bd.prod c0 (l := 17) Bd.lit) ?_
        repeat fail
        refine wpO_mul (Bd.prod (k := 17) Bd.lit bt) ?_
        repeat fail
        refine wpO_mul (Bd.prod (Bd.mul (k := 17) Bd.lit bt) bt) ?_
        repeat fail
        refine wpO_mul (Bd.prod (k := 18) Bd.lit bt) ?_
        repeat fail
        refine wpO_subL hq hat ?_
        repeat fail
        refine wpO_mod hpr1.1 ?_
        repeat fail
        generalize hm1 : (cell % 4294967291 * 48271 + 40692 * t * t + 69621 * t + 17) % pr = m1
        have b1 : Bd 31 m1 := by rw [← hm1]; exact Bd.mod hpr1.1 hpr1.2
        refine wpO_mul (Bd.prod b1 b1) ?_
        repeat fail
        refine wpO_mul (Bd.prod (k := 16) Bd.lit b1) ?_
        repeat fail
        refine wpO_mul (Bd.prod (k := 4) Bd.lit bt) ?_
        repeat fail
        generalize hm2 : (m1 * m1 + 16807 * m1 + 5 * t + 3) % 4294967279 = m2
        have b2 : Bd 33 m2 := by rw [← hm2]; exact Bd.mod (by decide) Bd.lit
        refine wpO_mul (Bd.prod b2 (Bd.add b2 (l := 26) Bd.lit)) ?_
        repeat fail
        refine wpO_mod h0 ?_
        exact k _ _ (Int.emod_nonneg _ (by omega)) (Int.emod_lt_of_pos _ h0) pT kT
    · have hpos : (0 : Int) < ns.length := by
        cases ns with
        | nil => cases he
        | cons a l => simp
      repeat fail
      refine wpO_cells hp2 ?_
      repeat fail
      refine wpO_cells hp2 ?_
      repeat fail
      refine wpO_lenL hc2 ?_
      rw [List.length_map]
      repeat fail
      refine wpO_mod hpos ?_
      obtain ⟨z, hz1, hz2⟩ := atI_in (xs := ns) (Int.emod_nonneg t (by omega)) (Int.emod_lt_of_pos t hpos)
      refine wpO_subL hc2 hz2 ?_
      exact ⟨rfl, z, rfl, fun _ => hb z hz1⟩
    · repeat fail
      refine ⟨rfl, _, rfl, fun hne' => ?_⟩
      cases ns with
      | nil => exact absurd rfl hne'
      | cons a l => cases he
variable {ca : CA}
theorem bits_lt {z : Int} (h : Builtin.Int.intBits z ≤ 1048576) : z.natAbs < 2 ^ 1048577 := by
  have h1 : z.natAbs < 2 ^ (z.natAbs.log2 + 1) := Nat.lt_log2_self
  have h2 : z.natAbs.log2 + 1 ≤ 1048577 := by
    unfold Builtin.Int.intBits at h
    split at h
    · rename_i hz
      have : z = 0 := by simpa using hz
      subst this
      show Nat.log2 0 + 1 ≤ _
      rw [Nat.log2_zero]
      omega
    · omega
  exact Nat.lt_of_lt_of_le h1 (Nat.pow_le_pow_right (by omega) h2)
theorem zero_lt_big : (0 : Int).natAbs < 2 ^ 1048577 := Nat.lt_of_lt_of_le (by decide : (0 : Int).natAbs < 2 ^ 1) (Nat.pow_le_pow_right (by decide) (by decide))
/-- the pen is made -/
theorem pen_sp {ns : List Int} {S : Store} {E : EK} {Q : D → Store → Prop} (hl : ns.length ≤ 63) (hb : ∀ z ∈ ns, Builtin.Int.intBits z ≤ 1048576) (k : ∀ p c T, Kp S T → S.length ≤ p → S.length ≤ c → Pen p c 0 T → Q (.ref p) T) : wpE (M__law_pen ca [.kl (ns.map D.int)] S) Q E := by
  refine wpE_def ?_
  unfold b__law_pen
  repeat fail
  intro p T k1 l1 h1
  repeat fail
  have cut : cutP (.kl (ns.map D.int)) none (some 63) T = some (.ref T.length, T ++ [.lst (cutD (ns.map D.int) none (some 63))]) := rfl
  have hcd : cutD (ns.map D.int) none (some 63) = ns.map D.int := by
    unfold cutD
    rw [show HT.sIx (ns.map D.int).length 0 none = 0 from rfl, List.drop_zero]
    refine List.take_of_length_le ?_
    rw [List.length_map]
    have : HT.sIx ns.length ns.length (some 63) = min 63 ns.length := by
      unfold HT.sIx
      simp
    omega
  refine wpO_of cut ?_
  repeat fail
  refine wpO_listI (xs := ns.map D.int) (by unfold itemsD; dsimp only; rw [at_mid, hcd]) fun c U k2 l2 h2 => ?_
  repeat fail
  have k3 : Kp T U := Kp.app.trans k2
  have hp := lt_of_at h1
  have l3 : (T ++ [O.lst (cutD (ns.map D.int) none (some 63))]).length ≤ c := l2
  rw [List.length_append] at l3
  refine ⟨k3 _ _ h1, _, rfl, (by decide : 3 ≤ 15), fun V k4 h4 => ?_⟩
  refine k p c _ ((k1.trans k3).disp l1 k4) l1 (by have := k1.len; omega) ?_
  have e : (mergeD [] [((Sum.inr "cells" : Key), D.ref c), (.inr "next", .int 0), (.inr "left", .int 0)]) = penK c 0 0 := by kernel_rfl
  have hc : c ≠ p := by omega
  exact Pen.mk' (ns := ns) (t := 0) (ρ := 0) (h4.trans (congrArg (fun z => some (O.dct z)) e)) (k4.k _ _ hc h2) hl (fun z hz => bits_lt (hb z hz)) (Int.le_refl _) (by omega) (Int.le_refl _) zero_lt_big hc
theorem pick_sp {p c n q : Nat} {S : Store} {xs : List D} {E : EK} {Q : D → Store → Prop} (P : Pen p c n S) (hn : n < 2 ^ 64) (hq : S[q]? = some (.lst xs)) (hqp : q ≠ p) (h0 : 0 < xs.length) (h1 : xs.length < 2 ^ 60) (k : ∀ d T, d ∈ xs → Pen p c (n + 1) T → KpX p S T → Q d T) : wpE (M__law_pick ca [.ref p, .ref q] S) Q E := by
  refine wpE_def ?_
  unfold b__law_pick
  repeat fail
  refine wpO_lenL hq ?_
  repeat fail
  refine draw_sp (size := (xs.length : Nat)) P hn (by omega) (by omega) fun r T r0 r1 P1 k1 => ?_
  have hr : r.toNat < xs.length := by omega
  have e := List.getElem?_eq_getElem hr
  have hat : L2.atI xs r = some xs[r.toNat] := by
    have : L2.atI xs ((r.toNat : Nat) : Int) = some xs[r.toNat] := L2.atI_nat e
    rw [show ((r.toNat : Nat) : Int) = r by omega] at this
    exact this
  refine wpO_subL (k1.k _ _ hqp hq) hat ?_
  exact k _ _ (List.getElem_mem hr) P1 k1
variable {ca : CA}
theorem isint_sp {S : Store} {E : EK} {P : D → Store → Prop} {d : D} {q : Kd} (hq : kindD d S = some q) (h : P (.bl (isIntK q)) S) : wpE (M_is_integer ca [d] S) P E := by
  refine wpE_def ?_
  unfold b_is_integer
  repeat fail
  refine wpO_isi hq ?_
  repeat fail
  refine ⟨fun h1 => ?_, fun h1 => ?_⟩
  · repeat fail
    refine wpO_isi hq ?_
    repeat fail
    cases q <;> first | exact h | cases h1
  · rw [h1]
    cases q <;> first | exact h | cases h1
theorem betw_sp {S : Store} {E : EK} {P : D → Store → Prop} {d : D} {q : Kd} {lo hi : Int} (hq : kindD d S = some q) (h : P (.bl (btw d lo hi)) S) : wpE (M_is_between ca [d, .int lo, .int hi] S) P E := by
  refine wpE_def ?_
  unfold b_is_between
  repeat fail
  refine isint_sp hq ?_
  repeat fail
  refine ⟨fun h1 => ?_, fun h1 => ?_⟩
  · obtain ⟨i, rfl⟩ : ∃ i, d = .int i := by cases q <;> first | exact kindD_int hq | cases h1
    repeat fail
    refine ⟨fun h2 => ?_, fun h2 => ?_⟩
    · repeat fail
      have e : btw (.int i) lo hi = decide (i ≤ hi) := by show (decide (lo ≤ i) && decide (i ≤ hi)) = _; rw [h2]; rfl
      rw [← e]
      exact h
    · have e : btw (.int i) lo hi = false := by show (decide (lo ≤ i) && decide (i ≤ hi)) = _; rw [h2]; rfl
      rw [← e]
      exact h
  · rw [h1, ← btw_no (lo := lo) (hi := hi) (kind_nint hq h1)]
    exact h
theorem fits_sp {S : Store} {E : EK} {P : D → Store → Prop} {d : D} (hk : Kinds S d) (h : ∀ T, Kp S T → P (.bl (vecB d)) T) : wpE (M_fits_vector ca [d] S) P E := by
  obtain ⟨⟨q, hqs⟩, hel⟩ := hk
  have hq := hqs S (Kp.refl _)
  refine wpE_def ?_
  unfold b_fits_vector
  repeat fail
  refine wpO_isi hq ?_
  repeat fail
  refine ⟨fun h1 => ?_, fun h1 => ?_⟩
  · have h1 : isKd q .tup = false := by cases z : isKd q .tup <;> first | rfl | (rw [z] at h1; cases h1)
    repeat fail
    rw [← vecB_no (kind_ntup hq h1)]
    exact h S (Kp.refl _)
  · have h1 : isKd q .tup = true := by cases z : isKd q .tup <;> first | rfl | (rw [z] at h1; cases h1)
    obtain ⟨xs, rfl⟩ : ∃ xs, d = .tup xs := by cases q <;> first | exact kindD_tup hq | cases h1
    repeat fail
    refine ⟨fun h2 => ?_, fun h2 => ?_⟩
    · repeat fail
      refine ⟨fun h3 => ?_, fun h3 => ?_⟩
      · have h3 : decide (((xs.length : Nat) : Int) ≤ 5) = false := by cases z : decide (((xs.length : Nat) : Int) ≤ 5) <;> first | rfl | (rw [z] at h3; cases h3)
        repeat fail
        have e : vecB (.tup xs) = false := by
          have : decide (xs.length ≤ 5) = false := decide_eq_false (by have := of_decide_eq_false h3; omega)
          unfold vecB
          simp only [this, Bool.and_false, Bool.false_and]
        rw [← e]
        exact h S (Kp.refl _)
      · have h3 : decide (((xs.length : Nat) : Int) ≤ 5) = true := by cases z : decide (((xs.length : Nat) : Int) ≤ 5) <;> first | rfl | (rw [z] at h3; cases h3)
        have l1 := of_decide_eq_true h2
        have l5 := of_decide_eq_true h3
        repeat fail
        refine wp_compM xs (fun x => .bl (btw x (-1000) 1000)) (fun i T _ => rfl) (by unfold bigN; omega) (by have : 5 < sizeLine := (by decide); omega) (fun i x T hx hT => ⟨_, rfl, ?_⟩) (fun k T kT l hT => ?_)
        · repeat fail
          obtain ⟨qx, hqx⟩ := hel xs rfl x (List.mem_of_getElem? hx)
          refine betw_sp (hqx T hT) ⟨Kp.refl _, rfl⟩
        · repeat fail
          refine wpO_all (bs := xs.map fun x => btw x (-1000) 1000) (by rw [List.map_map]; exact hT) ?_
          have e : vecB (.tup xs) = (xs.map fun x => btw x (-1000) 1000).all fun b => b := by
            have a1 : decide (1 ≤ xs.length) = true := decide_eq_true (by omega)
            have a2 : decide (xs.length ≤ 5) = true := decide_eq_true (by omega)
            unfold vecB
            simp only [a1, a2, Bool.true_and, List.all_map]
            rfl
          rw [← e]
          exact h T kT
    · repeat fail
      have e : vecB (.tup xs) = false := by
        have : decide (1 ≤ xs.length) = false := decide_eq_false (by have := of_decide_eq_false h2; omega)
        unfold vecB
        simp only [this, Bool.false_and]
      rw [← e]
      exact h S (Kp.refl _)
end Q


namespace Q
open PySem PySem.Spec PyProof.Rows L2
end Q


namespace Q
open PySem PySem.Spec PyProof.Rows L2

end Q


namespace Q
open PySem PySem.Spec PyProof.Rows L2
variable {ca : CA}
/-! ### values that a later store shows alike -/
def fp (p : Nat) : Nat → Bool := fun i => decide (i = p)
theorem fp_p (p : Nat) : fp p p = true := decide_eq_true rfl
/-- a value, its pen aside -/
def Vl (p : Nat) (d : D) (T : Store) : Prop := Nc 3 8 100 (mask (fp p) T) d
theorem Vl.kx {p : Nat} {d : D} {S T : Store} (h : Vl p d S) (x : KpX p S T) : Vl p d T := Nc.kf h (x.f (fp_p p))
theorem mask_invP {p m : Nat} {T : Store} {o : O} (h : (mask (fp p) T)[m]? = some o) (hn : o ≠ .xd []) : m ≠ p ∧ T[m]? = some o := by
  unfold mask at h
  rw [List.getElem?_mapIdx] at h
  obtain ⟨o2, h1, h2⟩ := Option.map_eq_some_iff.mp h
  by_cases e : fp p m = true
  · rw [if_pos e] at h2
    exact (hn h2.symm).elim
  · rw [if_neg e] at h2
    subst h2
    exact ⟨fun z => e (by rw [z]; exact fp_p p), h1⟩
theorem nc_items {p n m b : Nat} {d : D} {T : Store} (h : Nc (n + 1) m b (mask (fp p) T) d) (hk : ∀ ys, d ≠ .kl ys) : ∃ o : Option (List D), (∀ U, KpX p T U → itemsD d U = o) ∧ ∀ xs, o = some xs → ∀ x ∈ xs, Nc n m b (mask (fp p) T) x := by
  have each : ∀ {xs : List D} {ps : List PyData}, xs.mapM (toPy (mask (fp p) T) n) = some ps → okPs b ps → nds ps ≤ m → ∀ x ∈ xs, Nc n m b (mask (fp p) T) x := fun {xs ps} h1 h2 h3 x hx => by
    obtain ⟨i, hi⟩ := List.getElem?_of_mem hx
    exact (NcL.get (m := m) ⟨ps, h1, h2, h3⟩ hi)
  obtain ⟨py, h1, h2, h3⟩ := h.ex
  cases d with
  | tup xs =>
    refine ⟨some xs, fun _ _ => rfl, fun ys e => ?_⟩
    cases e
    obtain ⟨ps, a1, a2⟩ := Option.map_eq_some_iff.mp (show (xs.mapM (toPy (mask (fp p) T) n)).map PyData.tuple = some py from h1)
    subst a2
    exact each a1 h2 (by simp only [nd] at h3; omega)
  | ref q =>
    unfold toPy at h1
    cases e : (mask (fp p) T)[q]? with
    | none => rw [e] at h1; cases h1
    | some o =>
      rw [e] at h1
      cases o with
      | lst xs =>
        obtain ⟨hq, hT⟩ := mask_invP e (by simp)
        refine ⟨some xs, fun U k => items_ref (k.k _ _ hq hT), fun ys e2 => ?_⟩
        cases e2
        obtain ⟨ps, a1, a2⟩ := Option.map_eq_some_iff.mp (show (xs.mapM (toPy (mask (fp p) T) n)).map PyData.list = some py from h1)
        subst a2
        exact each a1 h2 (by simp only [nd] at h3; omega)
      | dct kvs =>
        obtain ⟨hq, hT⟩ := mask_invP e (by simp)
        exact ⟨none, fun U k => by unfold itemsD; dsimp only; rw [k.k _ _ hq hT], fun ys e2 => by cases e2⟩
      | _ => cases h1
  | kl ys => exact (hk ys rfl).elim
  | non => exact ⟨none, fun _ _ => rfl, fun ys e => by cases e⟩
  | bl c => exact ⟨none, fun _ _ => rfl, fun ys e => by cases e⟩
  | int c => exact ⟨none, fun _ _ => rfl, fun ys e => by cases e⟩
  | str c => exact ⟨none, fun _ _ => rfl, fun ys e => by cases e⟩
  | _ => cases h1
def lkB (n : Nat) (d : D) (S : Store) : Bool := match itemsD d S with
  | some [a, b] => btw a 0 (((n : Nat) : Int) - 1) && btw b 0 (((n : Nat) : Int) - 1)
  | _ => false
theorem vl_kl {p : Nat} {d : D} {T : Store} (h : Vl p d T) : ∀ ys, d ≠ .kl ys := Nc.nkl h (by decide)
theorem vl_lkB {p n : Nat} {d : D} {T U : Store} (h : Vl p d T) (k : KpX p T U) : lkB n d U = lkB n d T := by
  obtain ⟨o, ho, _⟩ := nc_items h (vl_kl h)
  unfold lkB
  rw [ho U k, ho T (KpX.refl _ _)]
theorem vl_kind {p : Nat} {d : D} {T : Store} (h : Vl p d T) : ∃ q, ∀ U, KpX p T U → kindD d U = some q := by
  obtain ⟨q, hq⟩ := Nc.kindX h
  exact ⟨q, fun U k => hq U (k.f (fp_p p))⟩
theorem vl_repr {p : Nat} {d : D} {T : Store} (h : Vl p d T) : ∃ x, ∀ U, KpX p T U → reprP d U = some x := by
  obtain ⟨x, hx⟩ := Nc.reprX h (by decide) (by decide) (by decide)
  exact ⟨x, fun U k => hx U (k.f (fp_p p))⟩
/-- what the looks see: no list or tuple; one, and its things -/
theorem vl_seq {p : Nat} {d : D} {T : Store} (h : Vl p d T) : (∃ q, (∀ U, KpX p T U → kindD d U = some q) ∧ [Bt.lst, .tup].any (isKd q) = false ∧ ∀ U, KpX p T U → itemsD d U = none) ∨ ∃ q xs, (∀ U, KpX p T U → kindD d U = some q) ∧ [Bt.lst, .tup].any (isKd q) = true ∧ (∀ U, KpX p T U → itemsD d U = some xs) ∧ ∀ x ∈ xs, ∃ q, ∀ U, KpX p T U → kindD x U = some q := by
  obtain ⟨o, ho, hel⟩ := nc_items h (vl_kl h)
  obtain ⟨q, hq⟩ := vl_kind h
  cases o with
  | none =>
    refine .inl ⟨q, hq, ?_, ho⟩
    have h1 := hq T (KpX.refl _ _)
    have h2 := ho T (KpX.refl _ _)
    exact kind_noitems h1 h2
  | some xs =>
    refine .inr ⟨q, xs, hq, ?_, ho, fun x hx => ?_⟩
    · have h1 := hq T (KpX.refl _ _)
      have h2 := ho T (KpX.refl _ _)
      cases d with
      | tup ys => cases h1; rfl
      | ref m =>
        unfold kindD at h1
        unfold itemsD at h2
        dsimp only at h1 h2
        cases e : T[m]? with
        | none => rw [e] at h2; cases h2
        | some o =>
          rw [e] at h1 h2
          cases o with
          | lst ys => cases h1; rfl
          | _ => cases h2
      | kl ys => exact (vl_kl h ys rfl).elim
      | _ => cases h2
    · obtain ⟨q, hq⟩ := Nc.kindX (hel xs rfl x hx)
      exact ⟨q, fun U k => hq U (k.f (fp_p p))⟩
section
variable {p n : Nat} {S : Store} {E : EK} {P : D → Store → Prop} {d : D}
theorem lawnode_sp {hi : Int} {q : Kd} (hq : kindD d S = some q) (h : P (.bl (btw d 0 (hi - 1))) S) : wpE (M__law_is_node ca [d, .int hi] S) P E := by
  refine wpE_def ?_
  unfold b__law_is_node
  repeat fail
  refine wpO_isi hq ?_
  repeat fail
  refine ⟨fun h1 => ?_, fun h1 => ?_⟩
  · repeat fail
    refine wpO_isi hq ?_
    repeat fail
    refine ⟨fun h2 => ?_, fun h2 => ?_⟩
    · obtain ⟨i, rfl⟩ : ∃ i, d = .int i := by cases q <;> first | exact kindD_int hq | exact Bool.noConfusion (show false = true from h1) | exact Bool.noConfusion (show false = true from h2)
      repeat fail
      refine ⟨fun h3 => ?_, fun h3 => ?_⟩
      · repeat fail
        have e : btw (.int i) 0 (hi - 1) = decide (i < hi) := by
          show (decide (0 ≤ i) && decide (i ≤ hi - 1)) = _
          rw [h3, Bool.true_and]
          exact decide_eq_decide.mpr (by omega)
        rw [← e]
        exact h
      · have e : btw (.int i) 0 (hi - 1) = false := by show (decide (0 ≤ i) && decide (i ≤ hi - 1)) = _; rw [h3]; rfl
        rw [← e]
        exact h
    · rw [h2, ← btw_no (lo := 0) (hi := hi - 1) (kind_nint hq (by cases q <;> first | rfl | cases h2))]
      exact h
  · rw [h1, ← btw_no (lo := 0) (hi := hi - 1) (kind_nint hq (by cases q <;> first | rfl | cases h1))]
    exact h
/-- the law's look at a link -/
theorem lawlink_sp (hv : Vl p d S) (h : P (.bl (lkB n d S)) S) : wpE (M__law_is_link ca [d, natD n] S) P E := by
  refine wpE_def ?_
  unfold b__law_is_link
  repeat fail
  rcases vl_seq hv with ⟨q, hq, hs, ho⟩ | ⟨q, xs, hq, hs, ho, hk⟩
  · have e : lkB n d S = false := by unfold lkB; rw [ho S (KpX.refl _ _)]
    rw [e] at h
    refine wpO_isiA (hq S (KpX.refl _ _)) ?_
    rw [hs]
    repeat fail
    exact h
  · refine wpO_isiA (hq S (KpX.refl _ _)) ?_
    rw [hs]
    repeat fail
    have hd := ho S (KpX.refl _ _)
    refine wpO_len hd ?_
    repeat fail
    match xs, hd, hk with
    | [a, b], hd, hk =>
      have e : lkB n d S = (btw a 0 (((n : Nat) : Int) - 1) && btw b 0 (((n : Nat) : Int) - 1)) := by unfold lkB; rw [hd]
      rw [e] at h
      obtain ⟨qa, ha⟩ := hk a (by simp)
      obtain ⟨qb, hb⟩ := hk b (by simp)
      rw [show (!decide (((([a, b] : List D).length : Nat) : Int) = 2)) = false from rfl]
      repeat fail
      refine wpO_subN (i := 0) hd rfl ?_
      repeat fail
      refine lawnode_sp (hi := ((n : Nat) : Int)) (ha S (KpX.refl _ _)) ?_
      repeat fail
      refine ⟨fun h1 => ?_, fun h1 => ?_⟩
      · rw [h1] at h
        repeat fail
        refine wpO_subN (i := 1) hd rfl ?_
        repeat fail
        exact lawnode_sp (hi := ((n : Nat) : Int)) (hb S (KpX.refl _ _)) h
      · rw [h1] at h ⊢
        exact h
    | [], hd, _ =>
      have e : lkB n d S = false := by unfold lkB; rw [hd]
      rw [e] at h
      rw [show (!decide (((([] : List D).length : Nat) : Int) = 2)) = true from rfl]
      repeat fail
      exact h
    | [a], hd, _ =>
      have e : lkB n d S = false := by unfold lkB; rw [hd]
      rw [e] at h
      rw [show (!decide (((([a] : List D).length : Nat) : Int) = 2)) = true from rfl]
      repeat fail
      exact h
    | a :: b :: c :: r, hd, _ =>
      have e : lkB n d S = false := by unfold lkB; rw [hd]
      rw [e] at h
      rw [show (!decide ((((a :: b :: c :: r : List D).length : Nat) : Int) = 2)) = true from by rw [decide_eq_false (by simp only [List.length_cons]; omega)]; rfl]
      repeat fail
      exact h
end
end Q


namespace Q
open PySem PySem.Spec PyProof.Rows L2
def NetAt (S : Store) (C : Addr) (N n : Nat) (ls : List (Nat × Nat)) (cap : List Int) : Prop := ∃ q, S[N]? = some (.ins C [("size", natD n), ("pairs", .ref q), ("caps", tupD cap)]) ∧ S[q]? = some (.lst (ls.map linkD)) ∧ N < q
theorem NetAt.kp {S T : Store} {C : Addr} {N n : Nat} {ls : List (Nat × Nat)} {cap : List Int} (h : NetAt S C N n ls cap) (k : Kp S T) : NetAt T C N n ls cap := let ⟨q, h1, h2, h3⟩ := h; ⟨q, k _ _ h1, k _ _ h2, h3⟩
theorem NetAt.up {S T : Store} {C : Addr} {N n p : Nat} {ls : List (Nat × Nat)} {cap : List Int} (h : NetAt S C N n ls cap) (hp : p < N) (k : KpX p S T) : NetAt T C N n ls cap := let ⟨q, h1, h2, h3⟩ := h; ⟨q, k.k _ _ (by omega) h1, k.k _ _ (by omega) h2, h3⟩
theorem NetAt.lt {S : Store} {C : Addr} {N n : Nat} {ls : List (Nat × Nat)} {cap : List Int} (h : NetAt S C N n ls cap) : N < S.length := let ⟨_, h1, _⟩ := h; lt_of_at h1
variable {ca : CA}
theorem islist_sp {S : Store} {E : EK} {P : D → Store → Prop} {d : D} {q : Kd} (hq : kindD d S = some q) (h : P (.bl ([Bt.lst, .tup].any (isKd q))) S) : wpE (M_is_list ca [d] S) P E := by
  refine wpE_def ?_
  unfold b_is_list
  repeat fail
  exact wpO_isiA hq h
/-! ### links added, networks made, limits set -/
variable {ca : CA}
/-- is_link of the package, for any value -/
theorem islinkV_sp {n N p q : Nat} {cap d : D} {S : Store} {E : EK} {P : D → Store → Prop} (hN : S[N]? = some (.ins ca.c_Network [("size", natD n), ("pairs", .ref q), ("caps", cap)])) (hv : Vl p d S) (h : ∀ T, Kp S T → P (.bl (lkB n d S)) T) : wpE (M_Network_is_link ca [.ref N, d] S) P E := by
  have hbig : 5000 < bigN := by unfold bigN; omega
  have hz : 5000 < sizeLine := by decide
  refine wpE_def ?_
  unfold b_Network_is_link
  repeat fail
  rcases vl_seq hv with ⟨kq, hq, hs, ho⟩ | ⟨kq, xs, hq, hs, ho, hk⟩
  · have e : lkB n d S = false := by unfold lkB; rw [ho S (KpX.refl _ _)]
    rw [e] at h
    refine islist_sp (hq S (KpX.refl _ _)) ?_
    rw [hs]
    repeat fail
    exact h S (Kp.refl _)
  · refine islist_sp (hq S (KpX.refl _ _)) ?_
    rw [hs]
    repeat fail
    have hd := ho S (KpX.refl _ _)
    refine wpO_len hd ?_
    repeat fail
    match xs, hd, hk, ho with
    | [a, b], hd, hk, ho =>
      have e : lkB n d S = (btw a 0 (((n : Nat) : Int) - 1) && btw b 0 (((n : Nat) : Int) - 1)) := by unfold lkB; rw [hd]
      rw [e] at h
      obtain ⟨qa, ha⟩ := hk a (by simp)
      obtain ⟨qb, hb⟩ := hk b (by simp)
      rw [decide_eq_true (show (((([a, b] : List D).length : Nat) : Int)) = 2 from rfl)]
      repeat fail
      refine exItI (d := d) (xs := [a, b]) hd fun mi hmi => ?_
      have itm : ∀ V, Kp S V → itemsD d V = some [a, b] := fun V kV => ho V kV.x
      refine wp_compR [a, b] [btw a 0 (((n : Nat) : Int) - 1), btw b 0 (((n : Nat) : Int) - 1)] (fun _ z b => z = D.bl b) rfl (fun j V kV => hmi V (itm V kV) j) (by show 2 < bigN; omega) (by show 2 < sizeLine; omega) (fun r z c V hz2 hb2 kV lV => ?_) (fun G V zs kV eG hG hzs => ?_)
      · have key : ∀ (z : D) (qz : Kd), (∀ U, KpX p S U → kindD z U = some qz) → wpE ((mCallF (M_is_between ca) 3 [] (mCons (mVar 2) (mCons (mC (.int 0)) (mCons (m2 gSub (m1 (gFld [ca.c_Network] "size") (mVar 0)) (mC (.int 1))) mNil)))) ([some (.ref N), some d, some z] : En) V) (fun y W => Kp V W ∧ ∀ U, KpX S.length W U → y = D.bl (btw z 0 (((n : Nat) : Int) - 1))) (fun _ _ _ => False) := fun z qz hqz => by
          repeat fail
          refine wpO_fld (kV _ _ hN) (by simp) rfl ?_
          unfold natD
          repeat fail
          refine betw_sp (hqz V kV.x) ?_
          exact ⟨Kp.refl _, fun _ _ => rfl⟩
        match r, hz2, hb2 with
        | 0, hz2, hb2 =>
          obtain rfl := Option.some.inj hz2
          obtain rfl := Option.some.inj hb2
          exact ⟨_, rfl, key _ qa ha⟩
        | 1, hz2, hb2 =>
          obtain rfl := Option.some.inj hz2
          obtain rfl := Option.some.inj hb2
          exact ⟨_, rfl, key _ qb hb⟩
        | k + 2, hz2, _ => cases hz2
      · rw [all2_eq hzs] at hG
        repeat fail
        refine wpO_all hG ?_
        have := h V kV
        simpa using this
    | [], hd, _, _ =>
      have e : lkB n d S = false := by unfold lkB; rw [hd]
      rw [e] at h
      rw [decide_eq_false (show ¬ (((([] : List D).length : Nat) : Int)) = 2 by decide)]
      repeat fail
      exact h S (Kp.refl _)
    | [a], hd, _, _ =>
      have e : lkB n d S = false := by unfold lkB; rw [hd]
      rw [e] at h
      rw [decide_eq_false (show ¬ (((([a] : List D).length : Nat) : Int)) = 2 by simp)]
      repeat fail
      exact h S (Kp.refl _)
    | a :: b :: c :: r, hd, _, _ =>
      have e : lkB n d S = false := by unfold lkB; rw [hd]
      rw [e] at h
      rw [decide_eq_false (show ¬ ((((a :: b :: c :: r : List D).length : Nat) : Int)) = 2 by simp only [List.length_cons]; omega)]
      repeat fail
      exact h S (Kp.refl _)
end Q


namespace Q
open PySem PySem.Spec PyProof.Rows L2
variable {ca : CA}
def endsN (d : D) (S : Store) : Nat × Nat := match itemsD d S with
  | some [.int a, .int b] => (a.toNat, b.toNat)
  | _ => (0, 0)
theorem btw_ex {d : D} {lo hi : Int} (h : btw d lo hi = true) : ∃ i, d = .int i ∧ lo ≤ i ∧ i ≤ hi := by
  cases d with
  | int i =>
    have h : (decide (lo ≤ i) && decide (i ≤ hi)) = true := h
    rw [Bool.and_eq_true, decide_eq_true_eq, decide_eq_true_eq] at h
    exact ⟨i, rfl, h⟩
  | _ => cases h
theorem lk_ends {n : Nat} {d : D} {S : Store} (h : lkB n d S = true) : itemsD d S = some [natD (endsN d S).1, natD (endsN d S).2] ∧ (endsN d S).1 < n ∧ (endsN d S).2 < n := by
  unfold lkB at h
  unfold endsN
  cases e : itemsD d S with
  | none => rw [e] at h; cases h
  | some xs =>
    rw [e] at h
    match xs, h with
    | [a, b], h =>
      have h : (btw a 0 (((n : Nat) : Int) - 1) && btw b 0 (((n : Nat) : Int) - 1)) = true := h
      rw [Bool.and_eq_true] at h
      obtain ⟨i, rfl, i0, i1⟩ := btw_ex h.1
      obtain ⟨j, rfl, j0, j1⟩ := btw_ex h.2
      unfold natD
      dsimp only
      rw [show ((i.toNat : Nat) : Int) = i by omega, show ((j.toNat : Nat) : Int) = j by omega]
      exact ⟨rfl, by omega, by omega⟩
theorem min_any {d : D} {S : Store} {P : D → Store → Prop} {a b : Int} (hd : itemsD d S = some [.int a, .int b]) (hk : ∀ ys, d ≠ .kl ys) (h : P (.int (min a b)) S) : wpO (gMinS d S) P := by
  refine wpO_of (d := .int (min a b)) (T := S) ?_ h
  cases d with
  | tup xs => cases hd; rfl
  | ref m =>
    unfold gMinS gMin1 lstD
    unfold itemsD at hd
    dsimp only at hd ⊢
    cases e : S[m]? with
    | none => rw [e] at hd; cases hd
    | some o =>
      rw [e] at hd
      cases o with
      | lst xs => cases hd; rfl
      | _ => cases hd
  | kl ys => exact (hk ys rfl).elim
  | _ => cases hd
theorem max_any {d : D} {S : Store} {P : D → Store → Prop} {a b : Int} (hd : itemsD d S = some [.int a, .int b]) (hk : ∀ ys, d ≠ .kl ys) (h : P (.int (max a b)) S) : wpO (gMaxS d S) P := by
  refine wpO_of (d := .int (max a b)) (T := S) ?_ h
  cases d with
  | tup xs => cases hd; rfl
  | ref m =>
    unfold gMaxS gMax1 lstD
    unfold itemsD at hd
    dsimp only at hd ⊢
    cases e : S[m]? with
    | none => rw [e] at hd; cases hd
    | some o =>
      rw [e] at hd
      cases o with
      | lst xs => cases hd; rfl
      | _ => cases hd
  | kl ys => exact (hk ys rfl).elim
  | _ => cases hd
theorem vl_items {p : Nat} {d : D} {T U : Store} (h : Vl p d T) (k : KpX p T U) : itemsD d U = itemsD d T := by
  obtain ⟨o, ho, _⟩ := nc_items h (vl_kl h)
  rw [ho U k, ho T (KpX.refl _ _)]
def pairsV (ds : List D) (S : Store) : List (Nat × Nat) := ds.map fun d => endsN d S
/-- link(..) of the package: whatever is handed over -/
theorem linkV_sp {n N q p : Nat} {ls : List (Nat × Nat)} {cap : D} {ds : List D} {S : Store} {E : EK} {P : D → Store → Prop} (hN : S[N]? = some (.ins ca.c_Network [("size", natD n), ("pairs", .ref q), ("caps", cap)])) (hq : S[q]? = some (.lst (ls.map linkD))) (hl : ls.length ≤ 8) (hv : ∀ d ∈ ds, Vl p d S) (hz : ds.length ≤ 100)
    (bad : ∀ i z, ds[i]? = some z → lkB n z S = false → (∀ (j : Nat) y, j < i → ds[j]? = some y → lkB n y S = true) → ∀ r U, Kp S U → U[r]? = some (.xd [("index", .int ((i : Nat) : Int))]) → E ca.c_InvalidLinks (some r) U)
    (many : (∀ y ∈ ds, lkB n y S = true) → 8 < ls.length + ds.length → ∀ r U, Kp S U → U[r]? = some (.xd [("index", .int 8)]) → E ca.c_InvalidLinks (some r) U)
    (ok : (∀ y ∈ ds, lkB n y S = true) → ls.length + ds.length ≤ 8 → ∀ T, KpX q S T → T[q]? = some (.lst ((ls ++ (pairsV ds S).map normP).map linkD)) → P .non T) : wpE (M_Network_link ca (.ref N :: ds) S) P E := by
  have hbig : 5000 < bigN := by unfold bigN; omega
  have hsz : 5000 < sizeLine := by decide
  refine wpE_defS ?_
  unfold b_Network_link
  show wpS (mSeq _ _ [some (.ref N), some (.tup ds), none, none] S) _ _ _ _ _
  repeat fail
  refine wpE_enuI ?_
  repeat fail
  refine ⟨_, ds, rfl, rfl, fun mi hmi => ?_⟩
  refine wp_forL (ds.mapIdx fun k z => D.tup [.int ((k : Nat) : Int), z]) (fun i e U => (∃ x2 x3, e = [some (.ref N), some (.tup ds), x2, x3]) ∧ Kp S U ∧ ∀ (j : Nat) y, j < i → ds[j]? = some y → lkB n y S = true) (fun i e U ⟨_, kU, _⟩ => hmi U rfl i) (fun i z e U hz1 ⟨⟨x2, x3, he⟩, kU, hj⟩ => ?_) (fun e U ⟨⟨x2, x3, he⟩, kU, hj⟩ => ?_) ds.length bigN 0 _ _ (by rw [List.length_mapIdx]; omega) (by omega) ⟨⟨_, _, rfl⟩, Kp.refl _, fun j y hj => by omega⟩
  · subst he
    rw [List.getElem?_mapIdx] at hz1
    obtain ⟨d, hd, rfl⟩ := Option.map_eq_some_iff.mp hz1
    refine ⟨_, rfl, ?_⟩
    repeat fail
    refine wpE_mth ?_
    repeat fail
    refine ⟨N, _, _, rfl, kU _ _ hN, by simp, rfl, ?_⟩
    repeat fail
    have vd := hv d (List.mem_of_getElem? hd)
    refine islinkV_sp (kU _ _ hN) (vd.kx kU.x) fun T kT => ?_
    rw [vl_lkB vd kU.x]
    cases hb : lkB n d S with
    | true =>
      repeat fail
      refine ⟨⟨_, _, rfl⟩, kU.trans kT, fun j y hj2 hy => ?_⟩
      by_cases e : j = i
      · subst e
        rw [hd] at hy
        cases hy
        exact hb
      · exact hj j y (by omega) hy
    | false =>
      repeat fail
      exact bad i d hd hb hj _ _ ((kU.trans kT).trans Kp.app) at_mid
  · subst he
    have all : ∀ y ∈ ds, lkB n y S = true := fun y hy => by
      obtain ⟨j, hj2⟩ := List.getElem?_of_mem hy
      exact hj j y (by rw [List.length_mapIdx]; exact (List.getElem?_eq_some_iff.mp hj2).1) hj2
    have hN1 := kU _ _ hN
    have hq1 := kU _ _ hq
    repeat fail
    refine wpO_fld hN1 (by simp) rfl ?_
    repeat fail
    refine wpO_len (items_ref hq1) ?_
    repeat fail
    refine wpO_gcon hN1 (by simp) rfl ?_
    repeat fail
    rw [List.length_map]
    by_cases h8 : 8 < ls.length + ds.length
    · rw [decide_eq_true (show (8 : Int) < ((ls.length : Nat) : Int) + ((ds.length : Nat) : Int) by omega)]
      repeat fail
      refine wpS_raise ?_
      repeat fail
      refine wpO_gcon hN1 (by simp) rfl ?_
      repeat fail
      exact ⟨⟨rfl, by simp⟩, fun r V kV lV hV => many all h8 r V (kU.trans kV) hV⟩
    rw [decide_eq_false (show ¬ (8 : Int) < ((ls.length : Nat) : Int) + ((ds.length : Nat) : Int) by omega)]
    repeat fail
    refine wpO_fld hN1 (by simp) rfl ?_
    refine tyL hq1 ?_
    repeat fail
    refine wp_compR ds (((pairsV ds S).map normP).map linkD) (fun _ z b => z = b) (by unfold pairsV; rw [List.length_map, List.length_map, List.length_map]) (fun j V _ => next_vals j V) (by omega) (by omega) (fun r z b V hz2 hb2 kV lV => ?_) (fun G V zs kV eG hG hzs => ?_)
    · have hb2 : (((pairsV ds S).map normP).map linkD)[r]? = some b := hb2
      unfold pairsV at hb2
      rw [List.getElem?_map, List.getElem?_map, List.getElem?_map, hz2] at hb2
      obtain rfl := Option.some.inj hb2
      have vz := hv z (List.mem_of_getElem? hz2)
      obtain ⟨hi, h1, h2⟩ := lk_ends (all z (List.mem_of_getElem? hz2))
      have hiV : itemsD z V = some [natD (endsN z S).1, natD (endsN z S).2] := by rw [vl_items vz (kU.trans kV).x, hi]
      refine ⟨_, rfl, ?_⟩
      repeat fail
      refine min_any hiV (vl_kl vz) ?_
      repeat fail
      refine max_any hiV (vl_kl vz) ?_
      repeat fail
      refine ⟨Kp.refl _, fun _ _ => ?_⟩
      unfold linkD normP natD
      dsimp only
      rw [show min (((endsN z S).1 : Nat) : Int) (((endsN z S).2 : Nat) : Int) = ((min (endsN z S).1 (endsN z S).2 : Nat) : Int) by omega, show max (((endsN z S).1 : Nat) : Int) (((endsN z S).2 : Nat) : Int) = ((max (endsN z S).1 (endsN z S).2 : Nat) : Int) by omega]
    · have e1 : zs = ((pairsV ds S).map normP).map linkD := by
        have := All2.eq_map (f := fun x : D => x) hzs
        rwa [List.map_id'] at this
      subst e1
      have pl : (pairsV ds S).length = ds.length := by unfold pairsV; rw [List.length_map]
      repeat fail
      refine wpO_extend (kV _ _ hq1) hG (by rw [List.length_map, List.length_map, List.length_map, pl]; omega) ?_
      have hqG : q ≠ G := fun e => by have := lt_of_at hq1; omega
      have ql := lt_of_at (kV _ _ hq1)
      refine ok all (by omega) _ ⟨fun a o ha e => ?_, ?_⟩ ?_
      · rw [List.getElem?_set_ne (Ne.symm ha)]
        exact kV _ _ (kU _ _ e)
      · rw [List.length_set]
        exact (kU.trans kV).len
      · rw [List.getElem?_set_self ql, List.map_append]
end Q


namespace Q
open PySem PySem.Spec PyProof.Rows L2
variable {ca : CA}
theorem wpE_mthLd {dv : Addr} {Cs : List Addr} {nm : Str} {M : MF} {n i : Nat} {mo : ME} {z : D} {en : En} {S : Store} {E : EK} {P : D → Store → Prop} (hz : en[i]? = some (some z)) (h : wpE (mo en S) (fun d T => ∃ k A fs xs, d = .ref k ∧ T[k]? = some (.ins A fs) ∧ A ∈ Cs ∧ fs.lookup nm = none ∧ itemsK dv z T = some xs ∧ (n ≤ xs.length + 1 ∧ xs.length ≤ 999) ∧ wpE (M (d :: xs) T) P E) E) : wpE (mMthLd dv Cs nm M n mo i en S) P E := by
  refine wpE_bind (wpE_mono h (fun d T ⟨k, A, fs, xs, e, h1, h2, h3, h4, h5, q⟩ => ?_) fun _ _ _ q => q)
  subst e
  rw [insD_at h1]
  dsimp only
  rw [if_pos ⟨h2, h3⟩, hz]
  dsimp only
  rw [h4]
  dsimp only
  rw [if_pos h5]
  exact q
section
variable {n N p : Nat} {ds : List D} {d d0 : D} {B S : Store} {E : EK} {P : D → Store → Prop}
/-- nodes that are none -/
theorem ninit_bad {q : Kd} (hN : S[N]? = some (.ins ca.c_Network [])) (hq : kindD d0 S = some q) (hb : btw d0 1 5 = false) (hE : ∀ r U, Kp S U → U[r]? = some (.xd [("value", d0)]) → E ca.c_InvalidIndex (some r) U) : wpE (M_Network___init__ ca [.ref N, d0, d] S) P E := by
  refine wpE_def ?_
  unfold b_Network___init__
  repeat fail
  refine wpO_gcon hN (by simp) rfl ?_
  repeat fail
  refine betw_sp hq ?_
  rw [hb]
  repeat fail
  exact hE _ _ Kp.app at_mid
/-- Network(n, links), links whatever stands in a list or a tuple -/
theorem ninitV_sp (hN : S[N]? = some (.ins ca.c_Network [])) (lB : B.length ≤ N) (kB : Kp B S) (h1 : 1 ≤ n) (h5 : n ≤ 5) (hd : ∀ T, Kp B T → itemsK ca.dv_Network___init__ d T = some ds) (hv : ∀ x ∈ ds, Vl p x B) (hz : ds.length ≤ 100)
    (bad : ∀ i z, ds[i]? = some z → lkB n z B = false → (∀ (j : Nat) y, j < i → ds[j]? = some y → lkB n y B = true) → ∀ r U, Kp B U → U[r]? = some (.xd [("index", .int ((i : Nat) : Int))]) → E ca.c_InvalidLinks (some r) U)
    (many : (∀ y ∈ ds, lkB n y B = true) → 8 < ds.length → ∀ r U, Kp B U → U[r]? = some (.xd [("index", .int 8)]) → E ca.c_InvalidLinks (some r) U)
    (ok : (∀ y ∈ ds, lkB n y B = true) → ds.length ≤ 8 → ∀ T, Kp B T → NetAt T ca.c_Network N n ((pairsV ds B).map normP) (List.replicate n 16) → P .non T) : wpE (M_Network___init__ ca [.ref N, natD n, d] S) P E := by
  have hsz : 5000 < sizeLine := by decide
  have nl := lt_of_at hN
  refine wpE_def ?_
  unfold b_Network___init__
  have hnat : natD n = .int ((n : Nat) : Int) := rfl
  repeat fail
  refine wpO_gcon hN (by simp) rfl ?_
  repeat fail
  refine betw_sp (d := natD n) (q := .int) rfl ?_
  rw [show btw (natD n) 1 5 = true from by
    show (decide ((1 : Int) ≤ (n : Nat)) && decide (((n : Nat) : Int) ≤ 5)) = true
    rw [decide_eq_true (show (1 : Int) ≤ (n : Nat) by omega), decide_eq_true (show ((n : Nat) : Int) ≤ 5 by omega)]
    rfl]
  repeat fail
  refine wpS_setF ?_
  repeat fail
  refine ⟨N, _, _, rfl, hN, by simp, (show 0 < 1000 from by decide), ?_⟩
  refine wpS_seq (wpS_setF ?_)
  obtain ⟨T1, hT1⟩ : ∃ T1, T1 = S.set N (.ins ca.c_Network (putFD "size" (natD n) [])) := ⟨_, rfl⟩
  rw [← hT1]
  have hN1 : T1[N]? = some (.ins ca.c_Network [("size", natD n)]) := by rw [hT1, List.getElem?_set_self nl]; rfl
  have x1 : KpX N S T1 := ⟨fun a o ha e => by rw [hT1, List.getElem?_set_ne (Ne.symm ha)]; exact e, by rw [hT1, List.length_set]; exact Nat.le_refl _⟩
  have e1 : T1.length = S.length := by rw [hT1, List.length_set]
  repeat fail
  intro q T2 k2 l2 h2
  repeat fail
  refine ⟨N, _, _, rfl, k2 _ _ hN1, by simp, (show 1 < 1000 from by decide), ?_⟩
  refine wpS_seq (wpS_setF ?_)
  obtain ⟨T3, hT3⟩ : ∃ T3, T3 = T2.set N (.ins ca.c_Network (putFD "pairs" (.ref q) [("size", natD n)])) := ⟨_, rfl⟩
  rw [← hT3]
  have nq : N ≠ q := by omega
  have nl2 : N < T2.length := by have := k2.len; omega
  have hN3 : T3[N]? = some (.ins ca.c_Network [("size", natD n), ("pairs", .ref q)]) := by rw [hT3, List.getElem?_set_self nl2]; rfl
  have hq3 : T3[q]? = some (.lst []) := by rw [hT3, List.getElem?_set_ne nq]; exact h2
  have x3 : KpX N S T3 := ⟨fun a o ha e => by rw [hT3, List.getElem?_set_ne (Ne.symm ha)]; exact k2 _ _ (x1.k a o ha e), by rw [hT3, List.length_set]; have := k2.len; omega⟩
  repeat fail
  refine wpO_gcon hN3 (by simp) rfl ?_
  repeat fail
  rw [hnat]
  refine wpO_mulT (k := n) (by simp) h1 (by omega) (by simp) ?_
  have e16 : D.tup (List.replicate n [D.int 16]).flatten = tupD (List.replicate n 16) := by
    unfold tupD
    have : ∀ m : Nat, (List.replicate m [D.int 16]).flatten = (List.replicate m (16 : Int)).map D.int := fun m => by
      induction m with
      | zero => rfl
      | succ m ih => rw [List.replicate_succ, List.flatten_cons, ih]; rfl
    rw [this]
  rw [e16]
  repeat fail
  refine ⟨N, _, _, rfl, hN3, by simp, (show 2 < 1000 from by decide), ?_⟩
  obtain ⟨T4, hT4⟩ : ∃ T4, T4 = T3.set N (.ins ca.c_Network (putFD "caps" (tupD (List.replicate n 16)) [("size", natD n), ("pairs", .ref q)])) := ⟨_, rfl⟩
  rw [← hnat, ← hT4]
  have nl3 : N < T3.length := lt_of_at hN3
  have hN4 : T4[N]? = some (.ins ca.c_Network [("size", natD n), ("pairs", .ref q), ("caps", tupD (List.replicate n 16))]) := by rw [hT4, List.getElem?_set_self nl3]; rfl
  have hq4 : T4[q]? = some (.lst []) := by rw [hT4, List.getElem?_set_ne nq]; exact hq3
  have x4 : KpX N S T4 := ⟨fun a o ha e => by rw [hT4, List.getElem?_set_ne (Ne.symm ha)]; exact x3.k a o ha e, by rw [hT4, List.length_set]; exact x3.len⟩
  have k4 : Kp B T4 := fun a o ha => x4.k a o (by have := lt_of_at ha; omega) (kB a o ha)
  have vl4 : ∀ x ∈ ds, Vl p x T4 := fun x hx => (hv x hx).kx k4.x
  have lk4 : ∀ x ∈ ds, lkB n x T4 = lkB n x B := fun x hx => vl_lkB (hv x hx) k4.x
  have pv4 : pairsV ds T4 = pairsV ds B := by
    unfold pairsV
    refine List.map_congr_left fun x hx => ?_
    unfold endsN
    rw [vl_items (hv x hx) k4.x]
  repeat fail
  refine wpE_mthLd (z := d) rfl ?_
  repeat fail
  refine ⟨N, _, _, ds, rfl, hN4, by simp, rfl, hd T4 k4, ⟨by omega, by omega⟩, ?_⟩
  refine linkV_sp (ls := []) hN4 hq4 (by simp) vl4 hz (fun i z hi hb hj r U kU hU => bad i z hi (by rw [← lk4 z (List.mem_of_getElem? hi)]; exact hb) (fun j y h1 h2 => by rw [← lk4 y (List.mem_of_getElem? h2)]; exact hj j y h1 h2) r U (k4.trans kU) hU) (fun ha h8 r U kU hU => many (fun y hy => by rw [← lk4 y hy]; exact ha y hy) (by simpa using h8) r U (k4.trans kU) hU) fun ha h8 T5 x5 h5' => ?_
  repeat fail
  rw [pv4, List.nil_append] at h5'
  refine ok (fun y hy => by rw [← lk4 y hy]; exact ha y hy) (by simpa using h8) T5 (fun a o ha => ?_) ⟨q, x5.k _ _ nq hN4, h5', by omega⟩
  have hal := lt_of_at ha
  have := k4 a o ha
  exact x5.k a o (by have := k2.len; have := x1.len; omega) this
end
end Q


namespace Q
open PySem PySem.Spec PyProof.Rows L2
variable {ca : CA}
theorem limits_sp {n N : Nat} {ls : List (Nat × Nat)} {cap lim : List Int} {S : Store} {E : EK} {P : D → Store → Prop} (hN : NetAt S ca.c_Network N n ls cap) (h1 : 1 ≤ n) (h5 : n ≤ 5) (hl : lim.length = n) (h0 : ∀ z ∈ lim, 0 ≤ z ∧ z ≤ 16) (h : ∀ T, KpX N S T → NetAt T ca.c_Network N n ls lim → P .non T) : wpE (M_Network_limits_set ca [.ref N, tupD lim] S) P E := by
  have hbig : 5000 < bigN := by unfold bigN; omega
  have hz : 5000 < sizeLine := by decide
  obtain ⟨q, hi, hq, hNq⟩ := hN
  refine wpE_def ?_
  unfold b_Network_limits_set
  repeat fail
  refine fits_sp (kinds_vec lim) fun T1 k1 => ?_
  rw [vecB_tup, fit_ok h1 h5 ⟨hl, fun z hz => by have := h0 z hz; omega⟩]
  repeat fail
  refine wpO_len (d := tupD lim) (xs := lim.map D.int) rfl ?_
  rw [List.length_map, hl]
  repeat fail
  refine wpO_fld (k1 _ _ hi) (by simp) rfl ?_
  unfold natD
  repeat fail
  rw [decide_eq_true rfl]
  repeat fail
  refine exItI (d := tupD lim) (xs := lim.map D.int) rfl fun mi hmi => ?_
  refine wp_compR (lim.map D.int) (lim.map fun _ => true) (fun _ z b => z = D.bl b) (by rw [List.length_map, List.length_map]) (fun j V kV => hmi V rfl j) (by rw [List.length_map]; omega) (by rw [List.length_map]; omega) (fun r z b V hz2 hb2 kV lV => ?_) (fun G V zs kV eG hG hzs => ?_)
  · rw [List.getElem?_map] at hz2 hb2
    obtain ⟨x, hx, rfl⟩ := Option.map_eq_some_iff.mp hz2
    rw [hx] at hb2
    obtain rfl := Option.some.inj hb2
    have b := h0 x (List.mem_of_getElem? hx)
    refine ⟨_, rfl, ?_⟩
    repeat fail
    rw [decide_eq_true b.1]
    repeat fail
    refine wpO_gcon (kV _ _ (k1 _ _ hi)) (by simp) rfl ?_
    repeat fail
    rw [decide_eq_true b.2]
    exact ⟨Kp.refl _, fun _ _ => rfl⟩
  · rw [all2_eq hzs] at hG
    repeat fail
    refine wpO_all hG ?_
    rw [show (lim.map fun _ => true).all (fun b => b) = true from by rw [List.all_eq_true]; intro x hx; obtain ⟨_, _, rfl⟩ := List.mem_map.mp hx; rfl]
    repeat fail
    refine wpS_setF ?_
    repeat fail
    have kA := k1.trans kV
    refine ⟨N, _, _, rfl, kA _ _ hi, by simp, (show 3 < 1000 from by decide), ?_⟩
    have nl := lt_of_at (kA _ _ hi)
    refine h _ ⟨fun a o ha e => by rw [List.getElem?_set_ne (Ne.symm ha)]; exact kA _ _ e, by rw [List.length_set]; exact kA.len⟩ ⟨q, ?_, ?_, hNq⟩
    · rw [List.getElem?_set_self nl]
      rfl
    · rw [List.getElem?_set_ne (by omega)]
      exact kA _ _ hq
/-! ### limits, whatever is handed over -/
def limB (n : Nat) : D → Bool
  | .tup xs => decide (xs.length = n) && xs.all fun x => btw x 0 16
  | _ => false
theorem vl_kinds {p : Nat} {d : D} {T : Store} (h : Vl p d T) : Kinds T d := by
  obtain ⟨q, hq⟩ := vl_kind h
  obtain ⟨o, ho, hel⟩ := nc_items h (vl_kl h)
  refine ⟨⟨q, fun U k => hq U k.x⟩, fun xs e x hx => ?_⟩
  subst e
  have := ho T (KpX.refl _ _)
  obtain ⟨qx, hqx⟩ := Nc.kindX (hel xs this.symm x hx)
  exact ⟨qx, fun U k => hqx U (k.x.f (fp_p p))⟩
theorem lim_vec {n : Nat} {v : List Int} : limB n (tupD v) = (decide (v.length = n) && v.all fun z => decide (0 ≤ z) && decide (z ≤ 16)) := by
  show (decide ((v.map D.int).length = n) && (v.map D.int).all fun x => btw x 0 16) = _
  rw [List.length_map, List.all_map]
  rfl
theorem lim_ex {n : Nat} {d : D} (h : limB n d = true) : ∃ v : List Int, d = tupD v ∧ v.length = n ∧ ∀ z ∈ v, 0 ≤ z ∧ z ≤ 16 := by
  cases d with
  | tup xs =>
    have h : (decide (xs.length = n) && xs.all fun x => btw x 0 16) = true := h
    rw [Bool.and_eq_true, decide_eq_true_eq, List.all_eq_true] at h
    have : ∀ l : List D, (∀ x ∈ l, btw x 0 16 = true) → ∃ v : List Int, l = v.map D.int ∧ ∀ z ∈ v, 0 ≤ z ∧ z ≤ 16 := fun l => by
      induction l with
      | nil => exact fun _ => ⟨[], rfl, fun _ h => nomatch h⟩
      | cons a l ih =>
        intro hl
        obtain ⟨i, rfl, i0, i1⟩ := btw_ex (hl a List.mem_cons_self)
        obtain ⟨v, rfl, hv⟩ := ih fun x hx => hl x (List.mem_cons_of_mem _ hx)
        exact ⟨i :: v, rfl, fun z hz => by
          rcases List.mem_cons.mp hz with rfl | hz
          · exact ⟨i0, i1⟩
          · exact hv z hz⟩
    obtain ⟨v, rfl, hv⟩ := this xs h.2
    exact ⟨v, rfl, by rw [← h.1, List.length_map], hv⟩
  | _ => cases h
theorem limitsV_sp {n N p : Nat} {ls : List (Nat × Nat)} {cap : List Int} {d : D} {S : Store} {E : EK} {P : D → Store → Prop} (hN : NetAt S ca.c_Network N n ls cap) (h1 : 1 ≤ n) (h5 : n ≤ 5) (hv : Vl p d S)
    (bad : limB n d = false → ∀ r U, Kp S U → U[r]? = some (.xd [("value", d)]) → E ca.c_InvalidVector (some r) U) (ok : ∀ lim, d = tupD lim → lim.length = n → (∀ z ∈ lim, 0 ≤ z ∧ z ≤ 16) → ∀ T, KpX N S T → NetAt T ca.c_Network N n ls lim → P .non T) : wpE (M_Network_limits_set ca [.ref N, d] S) P E := by
  have hbig : 5000 < bigN := by unfold bigN; omega
  have hz : 5000 < sizeLine := by decide
  by_cases hg : limB n d = true
  · obtain ⟨lim, rfl, hl, h0⟩ := lim_ex hg
    exact limits_sp hN h1 h5 hl h0 (ok lim rfl hl h0)
  have hb : limB n d = false := by cases q : limB n d with | true => exact (hg q).elim | false => rfl
  obtain ⟨q, hi, hq, hNq⟩ := hN
  refine wpE_def ?_
  unfold b_Network_limits_set
  repeat fail
  refine fits_sp (vl_kinds hv) fun T1 k1 => ?_
  cases hf : vecB d with
  | false =>
    repeat fail
    exact bad hb _ _ (k1.trans Kp.app) at_mid
  | true =>
    obtain ⟨v, rfl⟩ := vecB_vec hf
    rw [vecB_tup] at hf
    repeat fail
    refine wpO_len (d := tupD v) (xs := v.map D.int) rfl ?_
    rw [List.length_map]
    repeat fail
    refine wpO_fld (k1 _ _ hi) (by simp) rfl ?_
    unfold natD
    repeat fail
    by_cases hn : v.length = n
    · rw [show (!decide (((v.length : Nat) : Int) = ((n : Nat) : Int))) = false by rw [decide_eq_true (by omega)]; rfl]
      repeat fail
      refine exItI (d := tupD v) (xs := v.map D.int) rfl fun mi hmi => ?_
      refine wp_compR (v.map D.int) (v.map fun z => decide (0 ≤ z) && decide (z ≤ 16)) (fun _ z b => z = D.bl b) (by rw [List.length_map, List.length_map]) (fun j V kV => hmi V rfl j) (by rw [List.length_map]; omega) (by rw [List.length_map]; omega) (fun r z b V hz2 hb2 kV lV => ?_) (fun G V zs kV eG hG hzs => ?_)
      · rw [List.getElem?_map] at hz2 hb2
        obtain ⟨x, hx, rfl⟩ := Option.map_eq_some_iff.mp hz2
        rw [hx] at hb2
        obtain rfl := Option.some.inj hb2
        refine ⟨_, rfl, ?_⟩
        repeat fail
        refine ⟨fun c => ?_, fun c => ?_⟩
        · repeat fail
          refine wpO_gcon (kV _ _ (k1 _ _ hi)) (by simp) rfl ?_
          repeat fail
          exact ⟨Kp.refl _, fun _ _ => by show _ = D.bl (decide (0 ≤ x) && decide (x ≤ 16)); rw [c]; rfl⟩
        · exact ⟨Kp.refl _, fun _ _ => by show _ = D.bl (decide (0 ≤ x) && decide (x ≤ 16)); rw [c]; rfl⟩
      · rw [all2_eq hzs] at hG
        repeat fail
        refine wpO_all hG ?_
        have ea : ((v.map fun z => decide (0 ≤ z) && decide (z ≤ 16)).all fun b => b) = false := by
          rw [lim_vec, hn, decide_eq_true rfl, Bool.true_and] at hb
          rw [List.all_map]
          exact hb
        rw [ea]
        repeat fail
        exact bad hb _ _ ((k1.trans kV).trans Kp.app) at_mid
    · rw [show (!decide (((v.length : Nat) : Int) = ((n : Nat) : Int))) = true by rw [decide_eq_false (by omega)]; rfl]
      repeat fail
      exact bad hb _ _ (k1.trans Kp.app) at_mid
theorem limittoV_sp {n N p : Nat} {ls : List (Nat × Nat)} {cap : List Int} {d : D} {S : Store} {E : EK} {P : D → Store → Prop} (hN : NetAt S ca.c_Network N n ls cap) (h1 : 1 ≤ n) (h5 : n ≤ 5) (hv : Vl p d S)
    (bad : limB n d = false → ∀ r U, Kp S U → U[r]? = some (.xd [("value", d)]) → E ca.c_InvalidVector (some r) U) (ok : ∀ lim, d = tupD lim → lim.length = n → (∀ z ∈ lim, 0 ≤ z ∧ z ≤ 16) → ∀ T, KpX N S T → NetAt T ca.c_Network N n ls lim → P .non T) : wpE (M_Network_limit_to ca [.ref N, d] S) P E := by
  obtain ⟨q, hi, hq, hNq⟩ := id hN
  refine wpE_def ?_
  unfold b_Network_limit_to
  refine wpS_setP ?_
  repeat fail
  refine ⟨N, _, _, rfl, hi, by simp, ?_⟩
  exact limitsV_sp hN h1 h5 hv bad ok
/-! ### networks compared -/
def pairW (p : Nat × Nat) : List Int := [((p.1 : Nat) : Int), ((p.2 : Nat) : Int)]
theorem map_link (ls : List (Nat × Nat)) : ls.map linkD = (ls.map pairW).map tupD := by rw [List.map_map]; rfl
theorem pairW_inj {ls ms : List (Nat × Nat)} : ls.map pairW = ms.map pairW ↔ ls = ms := by
  refine ⟨fun h => ?_, fun h => by rw [h]⟩
  refine List.map_inj_right (fun a b e => ?_) |>.mp h
  unfold pairW at e
  injection e with e1 e2
  injection e2 with e2 _
  exact Prod.ext (by omega) (by omega)
theorem neteq_sp {N M n m : Nat} {ls ms : List (Nat × Nat)} {cap cap2 : List Int} {S : Store} {E : EK} {P : D → Store → Prop} (hcn : cap.length = n) (hcm : cap2.length = m) (hN : NetAt S ca.c_Network N n ls cap) (hM : NetAt S ca.c_Network M m ms cap2) (h : P (.bl (decide (n = m) && (decide (ls = ms) && decide (cap = cap2)))) S) : wpE (M_Network___eq__ ca [.ref N, .ref M] S) P E := by
  obtain ⟨q, hi, hq, _⟩ := hN
  obtain ⟨q2, hi2, hq2, _⟩ := hM
  refine wpE_def ?_
  unfold b_Network___eq__
  repeat fail
  refine wpO_isiO (q := .ins ca.c_Network) (b := true) (by unfold kindD; dsimp only; rw [hi2]) (by unfold isO; simp) ?_
  repeat fail
  refine wpO_fld hi (by simp) rfl ?_
  repeat fail
  refine wpO_fld hi2 (by simp) rfl ?_
  unfold natD
  repeat fail
  by_cases e1 : n = m
  · rw [show (!decide (((n : Nat) : Int) = ((m : Nat) : Int))) = false by rw [decide_eq_true (by omega)]; rfl]
    rw [decide_eq_true e1, Bool.true_and] at h
    repeat fail
    refine wpO_fld hi (by simp) rfl ?_
    repeat fail
    refine wpO_fld hi2 (by simp) rfl ?_
    rw [map_link] at hq hq2
    refine wpO_eqVecsL hq hq2 ?_
    by_cases e2 : ls = ms
    · rw [decide_eq_true (pairW_inj.mpr e2)]
      rw [decide_eq_true e2, Bool.true_and] at h
      repeat fail
      refine wpO_fld hi (by simp) rfl ?_
      repeat fail
      refine wpO_fld hi2 (by simp) rfl ?_
      exact wpO_eqVec (by rw [hcn, hcm, e1]) h
    · rw [decide_eq_false (fun z => e2 (pairW_inj.mp z))]
      rw [decide_eq_false e2, Bool.false_and] at h
      repeat fail
      exact h
  · rw [show (!decide (((n : Nat) : Int) = ((m : Nat) : Int))) = true by rw [decide_eq_false (by omega)]; rfl]
    rw [decide_eq_false e1, Bool.false_and] at h
    repeat fail
    exact h
theorem netno_sp {N : Nat} {d : D} {q : Kd} {S : Store} {E : EK} {P : D → Store → Prop} (hq : kindD d S = some q) (hn : isO ca.c_Network q = some false) (h : P (.bl false) S) : wpE (M_Network___eq__ ca [.ref N, d] S) P E := by
  refine wpE_def ?_
  unfold b_Network___eq__
  repeat fail
  refine wpO_isiO hq hn ?_
  repeat fail
  exact h
end Q


namespace Q
open PySem PySem.Spec PyProof.Rows L2
variable {ca : CA}
/-! ### values drawn -/
def below (l : Nat) : Nat → Bool := fun i => decide (i < l)
/-- a value that stands above -/
def Vb (l : Nat) (T : Store) (d : D) : Prop := Nc 3 8 100 (mask (below l) T) d
theorem mask_below {l p : Nat} (h : p < l) (T : Store) : mask (below l) (mask (fp p) T) = mask (below l) T := by
  unfold mask
  refine List.ext_getElem? fun i => ?_
  simp only [List.getElem?_mapIdx, Option.map_map]
  cases T[i]? with
  | none => rfl
  | some o =>
    show some (if below l i = true then O.xd [] else if fp p i = true then O.xd [] else o) = some (if below l i = true then O.xd [] else o)
    by_cases h1 : below l i = true
    · rw [if_pos h1, if_pos h1]
    · rw [if_neg h1, if_neg h1, if_neg (fun h2 => h1 (by have := of_decide_eq_true h2; subst this; exact decide_eq_true h))]
theorem Vb.vl {l p : Nat} {T : Store} {d : D} (h : Vb l T d) (hp : p < l) : Vl p d T := by
  have h : Nc 3 8 100 (mask (below l) T) d := h
  rw [← mask_below hp] at h
  exact h.un
theorem Vb.ref {l q : Nat} {T : Store} (h : Vb l T (.ref q)) : l ≤ q := by
  obtain ⟨py, h1, _, _⟩ := Nc.ex h
  unfold toPy at h1
  have key : ∀ {o : O}, (mask (below l) T)[q]? = some o → o ≠ .xd [] → l ≤ q := fun e hn => by
    have := (mask_inv e hn).1
    have := of_decide_eq_false this
    omega
  cases z : (mask (below l) T)[q]? with
  | none => rw [z] at h1; cases h1
  | some o =>
    rw [z] at h1
    cases o with
    | lst xs => exact key z (by simp)
    | dct kvs => exact key z (by simp)
    | _ => cases h1
theorem Vb.kf {l : Nat} {S T : Store} {d : D} (h : Vb l S d) (k : KpF (below l) S T) : Vb l T d := Nc.kf h k
theorem below_p {l p : Nat} (h : p < l) : below l p = true := decide_eq_true h
theorem below_no {l i : Nat} (h : l ≤ i) : below l i = false := decide_eq_false (by omega)
theorem Vb.kx {l p : Nat} {S T : Store} {d : D} (h : Vb l S d) (k : KpX p S T) (hp : p < l) : Vb l T d := Nc.kf h (k.f (below_p hp))
theorem lit_odd : okS (Str.ofString "") ∧ okS (Str.ofString "0") ∧ okS (Str.ofString "ab") := ⟨okS_of (by decide), okS_of (by decide), okS_of (by decide)⟩
theorem odd_sp {f : Nat → Bool} {p c n : Nat} {S : Store} {E : EK} {Q : D → Store → Prop} (hf : ∀ i, S.length ≤ i → f i = false) (hp : f p = true) (P : Pen p c n S) (hn : n < 2 ^ 60) (k : ∀ d T, Nc 2 6 100 (mask f T) d → Pen p c (n + 1) T → KpX p S T → Q d T) : wpE (M__law_odd ca [.ref p] S) Q E := by
  have lp := P.lt.1
  refine wpE_def ?_
  unfold b__law_odd
  repeat fail
  refine wpO_of (d := .int (10 ^ 29)) (T := S) (by unfold gPow; rw [gI_int, if_pos (by decide)]; rfl) ?_
  repeat fail
  intro a1 S1 k1 l1 h1
  repeat fail
  intro a2 S2 k2 l2 h2
  repeat fail
  intro a3 S3 k3 l3 h3
  repeat fail
  intro a4 S4 k4 l4 h4
  repeat fail
  refine ⟨h4, _, rfl, (by decide : 1 ≤ 15), fun S5 k5 h5 => ?_⟩
  have k35 := k4.disp l4 k5
  repeat fail
  intro a6 S6 k6 l6 h6
  repeat fail
  have e1 := k1.len
  have e2 := k2.len
  have e3 := k3.len
  have e35 := k35.len
  have e6 := k6.len
  have k16 : Kp S1 S6 := k2.trans (k3.trans (k35.trans k6))
  have kS : Kp S S6 := k1.trans k16
  refine pick_sp (P.kp kS) (by omega) h6 (by omega) (by simp) (by simp only [List.length_cons, List.length_nil]; decide) fun d T hd P' kx => ?_
  refine k d T (Nc.kf ?_ (kx.f hp)) P' (kS.x.trans kx)
  have k26 : Kp S2 S6 := k3.trans (k35.trans k6)
  have k36 : Kp S3 S6 := k35.trans k6
  have t0 : ∀ {n m : Nat} {U : Store} {d : D}, Nc n m 100 U d → n ≤ 2 → m ≤ 6 → Nc 2 6 100 U d := fun h a b => h.up a b (Nat.le_refl _)
  obtain ⟨s1, s2, s3⟩ := lit_odd
  simp only [List.mem_cons, List.not_mem_nil, or_false] at hd
  rcases hd with rfl | rfl | rfl | rfl | rfl | rfl | rfl | rfl | rfl | rfl | rfl | rfl | rfl | rfl | rfl | rfl | rfl | rfl | rfl
  · exact t0 (n := 0) Nc.non (by decide) (by decide)
  · exact t0 (n := 0) Nc.bl (by decide) (by decide)
  · exact t0 (n := 0) Nc.bl (by decide) (by decide)
  · exact t0 (n := 0) (Nc.int (by decide)) (by decide) (by decide)
  · exact t0 (n := 0) (Nc.int (by decide)) (by decide) (by decide)
  · exact t0 (n := 0) (Nc.int (by decide)) (by decide) (by decide)
  · exact t0 (n := 0) (Nc.int (by decide)) (by decide) (by decide)
  · exact t0 (n := 0) (Nc.int (by decide)) (by decide) (by decide)
  · exact t0 (n := 0) (Nc.str s1) (by decide) (by decide)
  · exact t0 (n := 0) (Nc.str s2) (by decide) (by decide)
  · exact t0 (n := 0) (Nc.str s3) (by decide) (by decide)
  · exact t0 (Nc.tup (n := 0) (m := 0) NcL.nil) (by decide) (by decide)
  · exact t0 (Nc.tup (n := 0) (NcL.cons (m' := 0) (Nc.int (by decide)) NcL.nil)) (by decide) (by decide)
  · exact t0 (Nc.lst (n := 0) (m := 0) (mask_at (hf _ (by omega)) (k16 _ _ h1)) NcL.nil) (by decide) (by decide)
  · exact t0 (Nc.lst (n := 0) (mask_at (hf _ (by omega)) (k26 _ _ h2)) (NcL.cons (m' := 0) (Nc.int (by decide)) NcL.nil)) (by decide) (by decide)
  · exact t0 (Nc.dct (n := 0) (m := 0) (mask_at (hf _ (by omega)) (k36 _ _ h3)) (fun _ h => nomatch h) NcL.nil) (by decide) (by decide)
  · exact t0 (Nc.dct (n := 0) (mask_at (hf _ (by omega)) (k6 _ _ h5)) (fun q h => by rw [List.mem_singleton.mp h]; exact (by decide : (0 : Int).natAbs < 2 ^ 100)) (NcL.cons (m' := 0) (Nc.int (by decide)) NcL.nil)) (by decide) (by decide)
  · exact t0 (Nc.tup (n := 0) (NcL.cons (m' := 0) Nc.non NcL.nil)) (by decide) (by decide)
  · exact t0 (Nc.tup (NcL.cons (m' := 0) (Nc.tup (n := 0) (NcL.cons (m' := 0) (Nc.int (by decide)) NcL.nil)) NcL.nil)) (by decide) (by decide)
theorem some_sp {p c i n : Nat} {S : Store} {E : EK} {Q : D → Store → Prop} (P : Pen p c i S) (hi : i < 2 ^ 50) (h1 : 1 ≤ n) (h5 : n ≤ 5)
    (k : ∀ L ds T, ds.length ≤ 3 → S.length ≤ L → T[L]? = some (.lst ds) → (∀ d ∈ ds, Vb (L + 1) T d) → Pen p c (i + 20) T → KpX p S T → Q (.ref L) T) : wpE (M__law_some ca [.ref p, natD n, .int 3] S) Q E := by
  have hz : 5000 < sizeLine := by decide
  have hbig : 5000 < bigN := by unfold bigN; omega
  have hpl := P.lt
  refine wpE_def ?_
  unfold b__law_some natD
  repeat fail
  intro L T1 k1 l1 hL1
  repeat fail
  refine draw_sp (P.kp k1) (by omega) (by omega) (by omega) fun mm T2 m0 m1 P2 x2 => ?_
  obtain ⟨m, rfl⟩ : ∃ m : Nat, mm = ((m : Nat) : Int) := ⟨mm.toNat, by omega⟩
  have e1 := k1.len
  have e2 := x2.len
  have Lp : L ≠ p := by omega
  have Lc : L ≠ c := by omega
  have hL2 := x2.k _ _ Lp hL1
  have lL := lt_of_at hL2
  repeat fail
  refine exR1N (by omega) ?_
  rw [Int.toNat_natCast]
  refine wp_forL ((List.range m).map fun t => D.int ((t : Nat) : Int)) (fun j e U => (∃ x4 x5 x6, e = [some (.ref p), some (.int ((n : Nat) : Int)), some (.int 3), some (.ref L), x4, x5, x6]) ∧ KpX p S U ∧ Pen p c (i + 1 + 5 * j) U ∧ ∃ ds : List D, ds.length = j ∧ U[L]? = some (.lst ds) ∧ ∀ d ∈ ds, Vb (L + 1) U d)
    (fun j e U _ => next_rng j U) (fun j z e U hz1 ⟨⟨x4, x5, x6, he⟩, kU, pU, ds, ll, hU, hv0⟩ => ?_) (fun e U ⟨⟨x4, x5, x6, he⟩, kU, pU, ds, ll, hU, hv⟩ => ?_) m bigN 0 _ _ (by simp) (by omega) ⟨⟨_, _, _, rfl⟩, k1.x.trans x2, P2, [], rfl, hL2, (fun d hd => nomatch hd)⟩
  · subst he
    have hj : j < m := by have := (List.getElem?_eq_some_iff.mp hz1).1; rw [List.length_map, List.length_range] at this; exact this
    rw [List.getElem?_map, List.getElem?_range hj] at hz1
    cases hz1
    have lU := lt_of_at hU
    have pL : p < L + 1 := by omega
    refine ⟨_, rfl, ?_⟩
    repeat fail
    refine draw_sp pU (by omega) (by omega) (by omega) fun a T5 a0 a1 P5 x5 => ?_
    repeat fail
    refine draw_sp P5 (by omega) (by omega) (by omega) fun b T6 b0 b1 P6 x6 => ?_
    repeat fail
    have e5 := x5.len
    have e6 := x6.len
    refine odd_sp (f := below (L + 1)) (fun w hw => below_no (by omega)) (below_p pL) P6 (by omega) fun o T7 ho P7 x7 => ?_
    have e7 := x7.len
    repeat fail
    intro a8 T8 k8 l8 h8
    repeat fail
    refine ⟨h8, _, rfl, (by decide : 2 ≤ 15), fun T9 x9 h9 => ?_⟩
    have h9 : T9[a8]? = some (.dct [(.inl 0, .int 0), (.inl 1, .int 0)]) := h9
    have k79 : Kp T7 T9 := k8.disp l8 x9
    have e79 := k79.len
    repeat fail
    intro O T10 k10 l10 hO
    have e10 := k10.len
    repeat fail
    have xU10 : KpX p U T10 := (((x5.trans x6).trans x7).trans k79.x).trans k10.x
    refine tyL (xU10.k _ _ Lp hU) ?_
    repeat fail
    refine wpO_listI (d := .tup [.int a, .int b]) rfl fun q T11 k11 l11 hq => ?_
    have e11 := k11.len
    repeat fail
    refine wpO_revT ?_
    repeat fail
    have P11 := ((P7.kp k79).kp k10).kp k11
    refine pick_sp P11 (by omega) (k11 _ _ hO) (by omega) (by simp) (by simp only [List.length_cons, List.length_nil]; decide) fun g T12 hg P12 x12 => ?_
    have e12 := x12.len
    repeat fail
    intro R T13 k13 l13 hR
    have e13 := k13.len
    repeat fail
    refine pick_sp (P12.kp k13) (by omega) hR (by omega) (by simp) (by simp only [List.length_cons, List.length_nil]; decide) fun d T14 hd P14 x14 => ?_
    have xU7 : KpX p U T7 := (x5.trans x6).trans x7
    have x714 : KpX p T7 T14 := ((((k79.trans k10).trans k11).x.trans x12).trans k13.x).trans x14
    have hL14 := (xU7.trans x714).k _ _ Lp hU
    have x1114 : KpX p T11 T14 := (x12.trans k13.x).trans x14
    repeat fail
    refine wpO_app hL14 (by omega) ?_
    have t0 : ∀ {n m : Nat} {W : Store} {y : D}, Nc n m 100 W y → n ≤ 3 → m ≤ 8 → Nc 3 8 100 W y := fun h a b => h.up a b (Nat.le_refl _)
    have ab : ∀ z : Int, 0 ≤ z → z < 6 → z.natAbs < 2 ^ 100 := fun z z0 z1 => by omega
    have na := ab a a0 (by omega)
    have nb := ab b b0 (by omega)
    have nn := ab n (by omega) (by omega)
    have hv : Vb (L + 1) T14 d := by
      have pair : ∀ {x y : Int} {W : Store}, x.natAbs < 2 ^ 100 → y.natAbs < 2 ^ 100 → Nc 3 8 100 W (.tup [.int x, .int y]) := fun hx hy => t0 (Nc.tup (n := 0) (NcL.cons (m' := 1) (Nc.int hx) (NcL.cons (m' := 0) (Nc.int hy) NcL.nil))) (by decide) (by decide)
      simp only [List.mem_cons, List.not_mem_nil, or_false] at hd
      rcases hd with rfl | rfl | rfl | rfl | rfl | rfl
      · exact pair na nb
      · exact Nc.kf (t0 (Nc.lst (n := 0) (mask_at (below_no (by omega)) hq) (NcL.cons (m' := 1) (Nc.int na) (NcL.cons (m' := 0) (Nc.int nb) NcL.nil))) (by decide) (by decide)) (x1114.f (below_p pL))
      · exact pair na nb
      · exact pair nb na
      · exact pair na nb
      · simp only [List.mem_cons, List.not_mem_nil, or_false] at hg
        rcases hg with rfl | rfl | rfl | rfl | rfl | rfl | rfl | rfl | rfl
        · exact Nc.kf (t0 ho (by decide) (by decide)) (x714.f (below_p pL))
        · exact pair (by decide) nn
        · exact pair (by decide) (by decide)
        · exact t0 (Nc.tup (n := 0) (NcL.cons (m' := 0) (Nc.int (by decide)) NcL.nil)) (by decide) (by decide)
        · exact t0 (Nc.tup (n := 0) (NcL.cons (m' := 2) (Nc.int (by decide)) (NcL.cons (m' := 1) (Nc.int (by decide)) (NcL.cons (m' := 0) (Nc.int (by decide)) NcL.nil)))) (by decide) (by decide)
        · exact t0 (Nc.tup (n := 0) (NcL.cons (m' := 1) Nc.bl (NcL.cons (m' := 0) (Nc.int (by decide)) NcL.nil))) (by decide) (by decide)
        · exact t0 (Nc.tup (n := 0) (NcL.cons (m' := 1) (Nc.int (by decide)) (NcL.cons (m' := 0) Nc.non NcL.nil))) (by decide) (by decide)
        · exact t0 (n := 0) (Nc.str (okS_of (by decide))) (by decide) (by decide)
        · exact Nc.kf (t0 (Nc.dct (n := 0) (mask_at (below_no (by omega)) h9) (fun q h => by
            simp only [List.mem_cons, List.not_mem_nil, or_false] at h
            rcases h with rfl | rfl <;> first | exact (by decide : (0 : Int).natAbs < 2 ^ 100) | exact (by decide : (1 : Int).natAbs < 2 ^ 100)) (NcL.cons (m' := 1) (Nc.int (by decide)) (NcL.cons (m' := 0) (Nc.int (by decide)) NcL.nil))) (by decide) (by decide)) (((((k10.trans k11).x.trans x12).trans k13.x).trans x14).f (below_p pL))
    have fL : below (L + 1) L = true := decide_eq_true (by omega)
    refine ⟨⟨_, _, _, rfl⟩, (kU.trans (xU7.trans x714)).setN (by omega), (P14.st Lp Lc).le (by omega), ds ++ [d], by rw [List.length_append, ll]; rfl, List.getElem?_set_self (lt_of_at hL14), fun y hy => ?_⟩
    refine Vb.kf (S := T14) ?_ (KpF.set fL)
    rcases List.mem_append.mp hy with hy | hy
    · exact (hv0 y hy).kx (xU7.trans x714) pL
    · rw [List.mem_singleton.mp hy]
      exact hv
  · subst he
    rw [List.length_map, List.length_range] at ll pU
    repeat fail
    exact k L ds U (by omega) l1 hU hv (pU.le (by omega)) kU
end Q


namespace Q
open PySem PySem.Spec PyProof.Rows L2
variable {ca : CA}
/-! ### the law's own answers -/
section
variable {S U : Store} {q : Nat} {d : D} {x : Str}
theorem ref_no : Ans 2 (b__law_refused ca) S (.ok d U) .non U := by
  intro f T hT
  unfold b__law_refused
  refine wpS_seq ?_
  refine wpS_try ?_
  repeat fail
  refine wpE_thk rfl hT ?_
  dsimp only [wpE]
  repeat fail
  exact ⟨rfl, rfl⟩
theorem ref_index (hq : U[q]? = some (.xd [("value", d)])) (hx : reprP d U = some x) : Ans 2 (b__law_refused ca) S (.err ca.c_InvalidIndex (some q) U) (.tup [.str "index", .str x, .bl true]) U := by
  intro f T hT
  unfold b__law_refused
  refine wpS_seq ?_
  refine wpS_try ?_
  repeat fail
  refine wpE_thk rfl hT ?_
  dsimp only [wpE]
  refine ⟨by simp [allC], wp_runRt (d := .tup [.str "index", .str x, .bl true]) (T := U) rfl (fun a z => ?_) ⟨rfl, rfl⟩⟩
  exact mRet_at (mTup_at (mCons_at rfl (mCons_at (mRepr_at (mXf_at hq rfl rfl) hx) (mCons_at (mIsX_at hq rfl) rfl))) (Nat.le_of_lt (show 3 < sizeLine by decide)))
theorem ref_links (hca : CaOk ca) (hq : U[q]? = some (.xd [("index", d)])) (hx : reprP d U = some x) : Ans 2 (b__law_refused ca) S (.err ca.c_InvalidLinks (some q) U) (.tup [.str "links", .str x, .bl true]) U := by
  intro f T hT
  unfold b__law_refused
  refine wpS_seq ?_
  refine wpS_try ?_
  repeat fail
  refine wpE_thk rfl hT ?_
  dsimp only [wpE]
  refine ⟨by simp [allC], ?_⟩
  rw [runH_no hca.ne_InvalidLinks_InvalidIndex]
  refine wp_runRt (d := .tup [.str "links", .str x, .bl true]) (T := U) rfl (fun a z => ?_) ⟨rfl, rfl⟩
  exact mRet_at (mTup_at (mCons_at rfl (mCons_at (mRepr_at (mXf_at hq rfl rfl) hx) (mCons_at (mIsX_at hq rfl) rfl))) (Nat.le_of_lt (show 3 < sizeLine by decide)))
def txt (k : Nat) : Str := toString ((k : Nat) : Int)
theorem repr_nat {k : Nat} (h : k ≤ 100) : reprP (natD k) S = some (txt k) := by
  obtain ⟨x, hx⟩ := (Nc.int (n := 0) (b := 100) (S := []) (i := ((k : Nat) : Int)) (by omega)).repr (by decide) (by decide) (by decide)
  have hx : reprP (natD k) S = some x := hx S fun a o z => by simp at z
  rw [hx]
  unfold reprP at hx
  have hx : (if (PyData.int ((k : Nat) : Int)).showable = true ∧ (PyData.int ((k : Nat) : Int)).depth ≤ 64 ∧ (PyData.int ((k : Nat) : Int)).shown.length ≤ sizeLine then some (PyData.int ((k : Nat) : Int)).shown else none) = some x := hx
  split at hx
  · rw [← Option.some.inj hx]
    rfl
  · cases hx
theorem wpO_strN {k : Nat} {P : D → Store → Prop} (h : k ≤ 100) (hp : P (.str (txt k)) S) : wpO (gStr (natD k) S) P := by
  refine wpO_of ?_ hp
  unfold gStr natD
  dsimp only
  rw [if_pos]
  · rfl
  · have := Nat.log2_le_self ((k : Nat) : Int).natAbs
    omega
end
/-! what is due -/
def badsN (n : Nat) (ds : List D) (S : Store) : List Nat := (List.range ds.length).filter fun k => !lkB n (ds.getD k .non) S
def dueW (m n : Nat) (ds : List D) (S : Store) : Option Nat := match (badsN n ds S).head? with
  | some i => some i
  | none => if 8 < m + ds.length then some 8 else none
def dueD : Option Nat → D
  | some i => .tup [.str "links", .str (txt i), .bl true]
  | none => .non
theorem bads_all {n : Nat} {ds : List D} {S : Store} (h : ∀ y ∈ ds, lkB n y S = true) : badsN n ds S = [] := by
  unfold badsN
  rw [List.filter_eq_nil_iff]
  intro k hk
  have hk := List.mem_range.mp hk
  rw [List.getD_eq_getElem?_getD, List.getElem?_eq_getElem hk, Option.getD_some, h _ (List.getElem_mem hk)]
  decide
theorem due_bad {m n i : Nat} {ds : List D} {S : Store} {z : D} (h1 : ds[i]? = some z) (h2 : lkB n z S = false) (h3 : ∀ (j : Nat) y, j < i → ds[j]? = some y → lkB n y S = true) : dueW m n ds S = some i := by
  have : (badsN n ds S).head? = some i := by
    unfold badsN
    rw [List.head?_filter, List.find?_range_eq_some]
    have hi := (List.getElem?_eq_some_iff.mp h1).1
    refine ⟨by rw [List.getD_eq_getElem?_getD, h1, Option.getD_some, h2]; rfl, List.mem_range.mpr hi, fun j hj => ?_⟩
    have hj2 : j < ds.length := by omega
    rw [List.getD_eq_getElem?_getD, List.getElem?_eq_getElem hj2, Option.getD_some, h3 j _ hj (List.getElem?_eq_getElem hj2)]
    rfl
  unfold dueW
  rw [this]
theorem due_many {m n : Nat} {ds : List D} {S : Store} (h : ∀ y ∈ ds, lkB n y S = true) (h8 : 8 < m + ds.length) : dueW m n ds S = some 8 := by
  unfold dueW
  rw [bads_all h]
  exact if_pos h8
theorem due_ok {m n : Nat} {ds : List D} {S : Store} (h : ∀ y ∈ ds, lkB n y S = true) (h8 : m + ds.length ≤ 8) : dueW m n ds S = none := by
  unfold dueW
  rw [bads_all h]
  exact if_neg (by omega)
theorem due_none {m n : Nat} {ds : List D} {S : Store} (h : dueW m n ds S = none) : (∀ y ∈ ds, lkB n y S = true) ∧ m + ds.length ≤ 8 := by
  unfold dueW at h
  cases e : (badsN n ds S).head? with
  | some i => rw [e] at h; cases h
  | none =>
    rw [e] at h
    refine ⟨fun y hy => ?_, ?_⟩
    · obtain ⟨j, hj, rfl⟩ := List.getElem_of_mem hy
      have e := List.head?_eq_none_iff.mp e
      unfold badsN at e
      rw [List.filter_eq_nil_iff] at e
      have := e j (List.mem_range.mpr hj)
      rw [List.getD_eq_getElem?_getD, List.getElem?_eq_getElem hj, Option.getD_some] at this
      simpa using this
    · by_cases h8 : 8 < m + ds.length
      · rw [if_pos h8] at h; cases h
      · omega
def badF (n : Nat) (ds : List D) (S : Store) (d : D) : Option D := match d with
  | .int i => if lkB n (ds.getD i.toNat .non) S = true then none else some d
  | _ => none
theorem badF_all (n : Nat) (ds : List D) (S : Store) (l : List Nat) : (l.map natD).filterMap (badF n ds S) = (l.filter fun k => !lkB n (ds.getD k .non) S).map natD := by
  induction l with
  | nil => rfl
  | cons k l ih =>
    have e : badF n ds S (natD k) = if lkB n (ds.getD k .non) S = true then none else some (natD k) := rfl
    rw [List.map_cons, List.filterMap_cons, e, List.filter_cons]
    cases lkB n (ds.getD k .non) S with
    | true => rw [if_pos rfl]; exact ih
    | false => rw [if_neg (by decide)]; exact congrArg (natD k :: ·) ih
theorem due_sp {p n : Nat} {as ds : List D} {dd : D} {S : Store} {E : EK} {P : D → Store → Prop} (hd : itemsD dd S = some ds) (hv : ∀ d ∈ ds, Vl p d S) (hz : ds.length ≤ 100) (hm : as.length ≤ 100) (h : ∀ T, Kp S T → P (dueD (dueW as.length n ds S)) T) : wpE (M__law_due ca [.tup as, dd, natD n] S) P E := by
  have hsz : 5000 < sizeLine := by decide
  have hbig : 5000 < bigN := by unfold bigN; omega
  refine wpE_def ?_
  unfold b__law_due
  repeat fail
  refine wpO_len hd ?_
  repeat fail
  refine exR1N (by omega) ?_
  rw [Int.toNat_natCast]
  refine wp_compP ((List.range ds.length).map natD) (badF n ds S) (fun j V _ => next_rng j V) (by rw [List.length_map, List.length_range]; omega) (by rw [List.length_map, List.length_range]; omega) (fun r z V hz2 kV => ?_) (fun A T1 k1 l1 hA => ?_)
  · rw [List.getElem?_map] at hz2
    obtain ⟨k, hk, rfl⟩ := Option.map_eq_some_iff.mp hz2
    have hr : r < ds.length := by have := (List.getElem?_eq_some_iff.mp hk).1; rw [List.length_range] at this; exact this
    rw [List.getElem?_range hr] at hk
    cases hk
    have hdV := items_kp kV hd
    refine ⟨_, rfl, ?_⟩
    repeat fail
    refine wpO_subN (i := r) (z := ds[r]) hdV (List.getElem?_eq_getElem hr) ?_
    repeat fail
    refine lawlink_sp (n := n) ((hv _ (List.getElem_mem hr)).kx kV.x) ?_
    rw [vl_lkB (hv _ (List.getElem_mem hr)) kV.x]
    have eb : badF n ds S (natD r) = if lkB n ds[r] S = true then none else some (natD r) := by
      show (if lkB n (ds.getD r .non) S = true then none else some (natD r)) = _
      rw [List.getD_eq_getElem?_getD, List.getElem?_eq_getElem hr]
      rfl
    rw [eb]
    refine ⟨_, rfl, Kp.refl _, fun hb => ?_, fun hb => ?_⟩
    · rw [if_pos (by simpa using hb)]
    · repeat fail
      refine ⟨Kp.refl _, ?_⟩
      rw [if_neg (by simpa using hb)]
  · rw [badF_all] at hA
    have hA : T1[A]? = some (.lst ((badsN n ds S).map natD)) := hA
    repeat fail
    intro B T2 k2 l2 hB
    have hA2 := k2 _ _ hA
    refine wpO_neNil hA2 hB ?_
    cases hbs : badsN n ds S with
    | nil =>
      have e : dueW as.length n ds S = if 8 < as.length + ds.length then some 8 else none := by unfold dueW; rw [hbs]; rfl
      rw [e] at h
      refine ⟨_, rfl, (fun c => absurd c (by simp)), fun _ => ?_⟩
      repeat fail
      refine wpO_len (items_kp (k1.trans k2) hd) ?_
      repeat fail
      refine ⟨fun c => ?_, fun c => ?_⟩
      · have c := of_decide_eq_true c
        rw [if_pos (by omega)] at h
        repeat fail
        exact h _ (k1.trans k2)
      · have c := of_decide_eq_false c
        rw [if_neg (by omega)] at h
        repeat fail
        exact h _ (k1.trans k2)
    | cons i r =>
      have e : dueW as.length n ds S = some i := by unfold dueW; rw [hbs]; rfl
      rw [e] at h
      have hi : i < ds.length := by
        have : i ∈ badsN n ds S := by rw [hbs]; exact List.mem_cons_self
        exact List.mem_range.mp (List.mem_filter.mp this).1
      rw [hbs] at hA2
      refine ⟨_, rfl, fun _ => ?_, (fun c => absurd c (by simp))⟩
      repeat fail
      refine wpO_subN (i := 0) (items_ref hA2) rfl ?_
      repeat fail
      refine wpO_strN (by omega) ?_
      repeat fail
      exact h _ (k1.trans k2)
end Q


namespace Q
open PySem PySem.Spec PyProof.Rows L2
theorem Nc.items {n m b : Nat} {S : Store} {d : D} {xs : List D} (h : Nc n m b S d) (hx : itemsD d S = some xs) : ∃ n', n = n' + 1 ∧ NcL n' (m - 1) b S xs ∧ xs.length < m := by
  obtain ⟨p, h1, h2, h3⟩ := h.ex
  have fin : ∀ {n' : Nat} {ps : List PyData}, xs.mapM (toPy S n') = some ps → okPs b ps → 1 + nds ps ≤ m → NcL n' (m - 1) b S xs ∧ xs.length < m := fun e q1 q2 => by
    have hl : ∀ {ys : List D} {ps : List PyData} {f : D → Option PyData}, ys.mapM f = some ps → ys.length ≤ nds ps := fun {ys} => by
      induction ys with
      | nil => intro _ _ _; exact Nat.zero_le _
      | cons y ys ih =>
        intro ps f h
        obtain ⟨p, qs, rfl, _, h2⟩ := mapM_cons_some h
        have := ih h2
        have e : 1 ≤ nd p := by cases p <;> simp only [nd] <;> omega
        simp only [nds, List.length_cons]
        omega
    have := hl e
    exact ⟨⟨_, e, q1, by omega⟩, by omega⟩
  cases n with
  | zero => cases d <;> first | (cases hx; done) | (cases h1; done) | (cases hx; cases h1; done)
  | succ n =>
    refine ⟨n, rfl, ?_⟩
    cases d with
    | tup ys =>
      cases hx
      obtain ⟨ps, e1, e2⟩ := Option.map_eq_some_iff.mp (show (xs.mapM (toPy S n)).map .tuple = some p from h1)
      subst e2
      exact fin e1 h2 (by simpa only [nd] using h3)
    | kl ys =>
      cases hx
      have h1 : (if 63 ≤ n then (xs.mapM (toPy S n)).map PyData.list else none) = some p := h1
      by_cases hn : 63 ≤ n
      · rw [if_pos hn] at h1
        obtain ⟨ps, e1, e2⟩ := Option.map_eq_some_iff.mp h1
        subst e2
        exact fin e1 h2 (by simpa only [nd] using h3)
      · rw [if_neg hn] at h1
        cases h1
    | ref k =>
      have := items_inv hx
      unfold toPy at h1
      rw [this] at h1
      obtain ⟨ps, e1, e2⟩ := Option.map_eq_some_iff.mp (show (xs.mapM (toPy S n)).map .list = some p from h1)
      subst e2
      exact fin e1 h2 (by simpa only [nd] using h3)
    | _ => cases hx
variable {ca : CA}
/-! ### links put in order; limits, and lists that change -/
theorem ordered_sp {p n : Nat} {ds : List D} {dd : D} {S : Store} {E : EK} {P : D → Store → Prop} (hd : itemsD dd S = some ds) (hv : ∀ d ∈ ds, Vl p d S) (hz : ds.length ≤ 100) (hl : ∀ y ∈ ds, lkB n y S = true) (h : ∀ T, Kp S T → P (.tup (((pairsV ds S).map normP).map linkD)) T) : wpE (M__law_ordered ca [dd] S) P E := by
  have hsz : 5000 < sizeLine := by decide
  have hbig : 5000 < bigN := by unfold bigN; omega
  refine wpE_def ?_
  unfold b__law_ordered
  repeat fail
  refine exItI (d := dd) (xs := ds) hd fun mi hmi => ?_
  refine wp_compR ds ((pairsV ds S).map normP) (fun _ z b => z = linkD b) (by unfold pairsV; rw [List.length_map, List.length_map]) (fun j V kV => hmi V (items_kp kV hd) j) (by omega) (by omega) (fun r z b V hz2 hb2 kV lV => ?_) (fun G V zs kV eG hG hzs => ?_)
  · have hr := (List.getElem?_eq_some_iff.mp hz2).1
    have hm := List.mem_of_getElem? hz2
    have hb2 : b = normP (endsN z S) := by
      unfold pairsV at hb2
      rw [List.getElem?_map, List.getElem?_map, hz2] at hb2
      exact (Option.some.inj hb2).symm
    obtain ⟨l1, l2, l3⟩ := lk_ends (hl z hm)
    have vz := hv z hm
    rw [← vl_items vz kV.x] at l1
    refine ⟨_, rfl, ?_⟩
    repeat fail
    refine min_any l1 (vl_kl vz) ?_
    repeat fail
    refine max_any l1 (vl_kl vz) ?_
    repeat fail
    refine ⟨Kp.refl _, fun _ _ => ?_⟩
    rw [hb2]
    unfold linkD normP natD
    dsimp only
    rw [show min (((endsN z S).1 : Nat) : Int) (((endsN z S).2 : Nat) : Int) = ((min (endsN z S).1 (endsN z S).2 : Nat) : Int) by omega, show max (((endsN z S).1 : Nat) : Int) (((endsN z S).2 : Nat) : Int) = ((max (endsN z S).1 (endsN z S).2 : Nat) : Int) by omega]
  · rw [all2_eq hzs] at hG
    repeat fail
    refine wpO_tuple (items_ref hG) ?_
    repeat fail
    exact h _ kV
theorem kind_tup {S : Store} {d : D} {q : Kd} (hq : kindD d S = some q) (h : isKd q .tup = true) : ∃ xs, d = .tup xs := by
  cases d with
  | tup xs => exact ⟨xs, rfl⟩
  | ref n =>
    unfold kindD at hq
    dsimp only at hq
    cases hn : S[n]? with
    | none => rw [hn] at hq; cases hq
    | some o => rw [hn] at hq; cases o <;> first | (cases hq; cases h) | cases hq
  | _ => cases hq <;> cases h
def offF (x : D) : Option D := if btw x 0 16 = true then none else some x
theorem offF_all : ∀ xs : List D, (xs.filterMap offF).isEmpty = xs.all fun x => btw x 0 16
  | [] => rfl
  | x :: xs => by
    rw [List.filterMap_cons, List.all_cons]
    cases e : btw x 0 16 with
    | true => rw [show offF x = none from if_pos e, Bool.true_and]; exact offF_all xs
    | false => rw [show offF x = some x from if_neg (by rw [e]; decide), Bool.false_and]; rfl
theorem islim_sp {p n : Nat} {d : D} {S : Store} {E : EK} {P : D → Store → Prop} (hv : Vl p d S) (h : ∀ T, Kp S T → P (.bl (limB n d)) T) : wpE (M__law_is_limits ca [d, natD n] S) P E := by
  have hsz : 5000 < sizeLine := by decide
  have hbig : 5000 < bigN := by unfold bigN; omega
  obtain ⟨q, hq⟩ := vl_kind hv
  have hq0 := hq S (KpX.refl _ _)
  refine wpE_def ?_
  unfold b__law_is_limits
  repeat fail
  refine wpO_isi hq0 ?_
  cases hk : isKd q .tup with
  | false =>
    have e : limB n d = false := by
      cases d with
      | tup xs => cases hq0; cases hk
      | _ => rfl
    rw [e] at h
    repeat fail
    exact h _ (Kp.refl _)
  | true =>
    obtain ⟨xs, rfl⟩ := kind_tup hq0 hk
    have hlen : xs.length < 8 := by
      obtain ⟨m, _, _, hl⟩ := Nc.items (Nc.un hv) (xs := xs) rfl
      exact hl
    have hel : ∀ x ∈ xs, ∃ q, ∀ U, KpX p S U → kindD x U = some q := by
      obtain ⟨o, ho, hel⟩ := nc_items hv (vl_kl hv)
      intro x hx
      obtain ⟨qx, hqx⟩ := Nc.kindX (hel xs (ho S (KpX.refl _ _)).symm x hx)
      exact ⟨qx, fun U k => hqx U (k.f (fp_p p))⟩
    repeat fail
    unfold natD
    repeat fail
    by_cases hn : xs.length = n
    · rw [show (!decide (((xs.length : Nat) : Int) = ((n : Nat) : Int))) = false by rw [decide_eq_true (by omega)]; rfl]
      repeat fail
      refine wp_compP xs offF (fun j V _ => next_vals j V) (by omega) (by omega) (fun r z V hz2 kV => ?_) (fun A T1 k1 l1 hA => ?_)
      · obtain ⟨qz, hqz⟩ := hel z (List.mem_of_getElem? hz2)
        refine ⟨_, rfl, ?_⟩
        repeat fail
        refine lawnode_sp (hi := 17) (hqz V kV.x) ?_
        have e : offF z = if btw z 0 (17 - 1) = true then none else some z := rfl
        rw [e]
        refine ⟨_, rfl, Kp.refl _, fun hb => ?_, fun hb => ?_⟩
        · rw [if_pos (by simpa using hb)]
        · repeat fail
          refine ⟨Kp.refl _, ?_⟩
          rw [if_neg (by simpa using hb)]
      · repeat fail
        intro B T2 k2 l2 hB
        refine wpO_eqNil (k2 _ _ hA) hB ?_
        rw [offF_all]
        have e : limB n (.tup xs) = xs.all fun x => btw x 0 16 := by
          show (decide (xs.length = n) && _) = _
          rw [decide_eq_true hn, Bool.true_and]
        rw [← e]
        exact h _ (k1.trans k2)
    · rw [show (!decide (((xs.length : Nat) : Int) = ((n : Nat) : Int))) = true by rw [decide_eq_false (by omega)]; rfl]
      have e : limB n (.tup xs) = false := by
        show (decide (xs.length = n) && _) = _
        rw [decide_eq_false hn, Bool.false_and]
      rw [e] at h
      repeat fail
      exact h _ (Kp.refl _)
theorem limited_sp {n N p : Nat} {ls : List (Nat × Nat)} {cap : List Int} {d : D} {x : Str} {S : Store} {E : EK} {P : D → Store → Prop} (hN : NetAt S ca.c_Network N n ls cap) (h1 : 1 ≤ n) (h5 : n ≤ 5) (hv : Vl p d S) (hx : ∀ U, Kp S U → reprP d U = some x)
    (bad : limB n d = false → ∀ U, Kp S U → P (.tup [.str x, .bl true]) U) (ok : ∀ lim, d = tupD lim → lim.length = n → (∀ z ∈ lim, 0 ≤ z ∧ z ≤ 16) → ∀ T, KpX N S T → NetAt T ca.c_Network N n ls lim → P .non T) : wpE (M__law_limited ca [.ref N, d] S) P E := by
  obtain ⟨q, hi, _⟩ := id hN
  refine wpE_def ?_
  unfold b__law_limited
  refine wpS_seq ?_
  refine wpS_try ?_
  repeat fail
  refine wpE_mth ?_
  repeat fail
  refine ⟨N, _, _, rfl, hi, by simp, rfl, ?_⟩
  repeat fail
  refine limittoV_sp hN h1 h5 hv (fun hb r U kU hU => ?_) (fun lim e hl h0 T kT hT => ?_)
  · refine ⟨by simp [allC], wp_runRt (d := .tup [.str x, .bl true]) (T := U) rfl (fun a z => ?_) (bad hb U kU)⟩
    exact mRet_at (mTup_at (mCons_at (mRepr_at (mXf_at hU rfl rfl) (hx U kU)) (mCons_at (mIsX_at hU rfl) rfl)) (Nat.le_of_lt (show 2 < sizeLine by decide)))
  · repeat fail
    exact ok lim e hl h0 T kT hT
end Q


namespace Q
open PySem PySem.Spec PyProof.Rows L2
variable {ca : CA}
/-! ### lists that change; limits drawn -/
/-- all but the lists among these -/
structure Sp (ds : List D) (S T : Store) : Prop where
  len : S.length ≤ T.length
  k : ∀ (i : Nat) (o : O), S[i]? = some o → (∀ xs, o = .lst xs → D.ref i ∉ ds) → T[i]? = some o
  l : ∀ (i : Nat) (xs : List D), S[i]? = some (.lst xs) → ∃ ys, T[i]? = some (.lst ys)
theorem sp_kind {ds : List D} {S T : Store} {d : D} {q : Kd} (h : Sp ds S T) (hq : kindD d S = some q) : kindD d T = some q := by
  cases d with
  | ref i =>
    unfold kindD at hq ⊢
    dsimp only at hq ⊢
    cases e : S[i]? with
    | none => rw [e] at hq; cases hq
    | some o =>
      rw [e] at hq
      cases o with
      | lst xs =>
        obtain ⟨ys, hy⟩ := h.l i xs e
        rw [hy]
        exact hq
      | _ => rw [h.k i _ e (fun xs z => nomatch z)]; exact hq
  | _ => exact hq
theorem kind_lst {S : Store} {d : D} {q : Kd} (hq : kindD d S = some q) (h : isKd q .lst = true) (hk : ∀ ys, d ≠ .kl ys) : ∃ i xs, d = .ref i ∧ S[i]? = some (.lst xs) := by
  cases d with
  | kl ys => exact (hk ys rfl).elim
  | ref n =>
    unfold kindD at hq
    dsimp only at hq
    cases hn : S[n]? with
    | none => rw [hn] at hq; cases hq
    | some o =>
      rw [hn] at hq
      cases o with
      | lst xs => exact ⟨n, xs, rfl, hn⟩
      | _ => first | (cases hq; cases h) | cases hq
  | _ => cases hq <;> cases h
theorem spoil_sp {p L : Nat} {ds : List D} {S : Store} {E : EK} {P : D → Store → Prop} (hL : S[L]? = some (.lst ds)) (hn : D.ref L ∉ ds) (hv : ∀ d ∈ ds, Vl p d S) (hz : ds.length ≤ 100) (h : ∀ T, Sp ds S T → P .non T) : wpE (M__law_spoil ca [.ref L] S) P E := by
  have hsz : 5000 < sizeLine := by decide
  have hbig : 5000 < bigN := by unfold bigN; omega
  refine wpE_def ?_
  unfold b__law_spoil
  repeat fail
  refine exItI (items_ref hL) fun mi hmi => ?_
  refine wp_forL ds (fun j e U => (∃ x1, e = [some (.ref L), x1]) ∧ Sp ds S U ∧ ∀ (i : Nat) (xs : List D), S[i]? = some (O.lst xs) → ∃ ys : List D, U[i]? = some (O.lst ys) ∧ ys.length ≤ xs.length + j)
    (fun j e U ⟨_, q, _⟩ => hmi U (items_ref (q.k L _ hL (fun _ _ => hn))) j) (fun j d e U hj ⟨⟨x1, he⟩, hS, hl⟩ => ?_) (fun e U ⟨⟨x1, he⟩, hS, hl⟩ => ?_) ds.length bigN 0 _ _ (by omega) (by omega) ⟨⟨_, rfl⟩, ⟨Nat.le_refl _, fun _ _ e _ => e, fun i xs e => ⟨xs, e⟩⟩, fun i xs e => ⟨xs, e, Nat.le_refl _⟩⟩
  · subst he
    have hj2 := (List.getElem?_eq_some_iff.mp hj).1
    have hm := List.mem_of_getElem? hj
    have vd := hv d hm
    obtain ⟨q, hq⟩ := vl_kind vd
    have hq0 := hq S (KpX.refl _ _)
    refine ⟨_, rfl, ?_⟩
    repeat fail
    refine wpO_isi (sp_kind hS hq0) ?_
    cases hk : isKd q .lst with
    | false =>
      repeat fail
      exact ⟨⟨_, rfl⟩, hS, fun i xs e => let ⟨ys, h1, h2⟩ := hl i xs e; ⟨ys, h1, by omega⟩⟩
    | true =>
      obtain ⟨i, xs, rfl, hi⟩ := kind_lst hq0 hk (vl_kl vd)
      have hlen : xs.length < 8 := by
        obtain ⟨m, _, _, hl⟩ := Nc.items (Nc.un vd) (items_ref hi)
        exact hl
      obtain ⟨ys, hy, ly⟩ := hl i xs hi
      repeat fail
      refine tyL hy ?_
      repeat fail
      refine wpO_app hy (by omega) ?_
      have li := lt_of_at hy
      refine ⟨⟨_, rfl⟩, ⟨by rw [List.length_set]; exact hS.len, fun a o ea na => ?_, fun a zs ea => ?_⟩, fun a zs ea => ?_⟩
      · by_cases e : i = a
        · subst e
          rw [hi] at ea
          cases ea
          exact (na xs rfl hm).elim
        · rw [List.getElem?_set_ne e]
          exact hS.k a o ea na
      · by_cases e : i = a
        · subst e
          exact ⟨_, List.getElem?_set_self li⟩
        · rw [List.getElem?_set_ne e]
          exact hS.l a zs ea
      · by_cases e : i = a
        · subst e
          rw [hi] at ea
          cases ea
          exact ⟨_, List.getElem?_set_self li, by rw [List.length_append, List.length_singleton]; omega⟩
        · rw [List.getElem?_set_ne e]
          obtain ⟨ys, h1, h2⟩ := hl a zs ea
          exact ⟨ys, h1, by omega⟩
  · subst he
    repeat fail
    exact h U hS
theorem ncl_ints {S : Store} : ∀ {v : List Int}, (∀ z ∈ v, z.natAbs < 1000) → NcL 0 v.length 100 S (v.map D.int)
  | [], _ => NcL.nil
  | k :: s, h => by
    have := h k List.mem_cons_self
    have z := ncl_ints (S := S) (v := s) fun j hj => h j (List.mem_cons_of_mem _ hj)
    have a : Nc 0 1 100 S (.int k) := Nc.int (by
      have : (1000 : Nat) ≤ 2 ^ 100 := by decide
      omega)
    have r := NcL.cons a z
    rw [List.length_cons, Nat.add_comm]
    exact r
theorem NcL.take {n m b : Nat} {S : Store} {xs : List D} (h : NcL n m b S xs) (i : Nat) : NcL n m b S (xs.take i) := by
  have h : NcL n m b S (xs.take i ++ xs.drop i) := by rw [List.take_append_drop]; exact h
  obtain ⟨m1, m2, q1, q2, _⟩ := h.split
  exact q2.up (Nat.le_refl _) (by omega) (Nat.le_refl _)
theorem NcL.drop {n m b : Nat} {S : Store} {xs : List D} (h : NcL n m b S xs) (i : Nat) : NcL n m b S (xs.drop i) := by
  have h : NcL n m b S (xs.take i ++ xs.drop i) := by rw [List.take_append_drop]; exact h
  obtain ⟨m1, m2, q1, _, q2⟩ := h.split
  exact q2.up (Nat.le_refl _) (by omega) (Nat.le_refl _)
theorem NcL.cut {n m b : Nat} {S : Store} {xs : List D} (h : NcL n m b S xs) (lo hi : Option Int) : NcL n m b S (cutD xs lo hi) := (h.drop _).take _
theorem cut_len (xs : List D) (lo hi : Option Int) : (cutD xs lo hi).length ≤ xs.length := by
  unfold cutD
  rw [List.length_take, List.length_drop]
  omega
theorem limitsL_sp {p c i n : Nat} {S : Store} {E : EK} {Q : D → Store → Prop} (P : Pen p c i S) (hi : i < 2 ^ 50) (h1 : 1 ≤ n) (h5 : n ≤ 5) (k : ∀ d T, Vb S.length T d → Pen p c (i + 20) T → KpX p S T → Q d T) : wpE (M__law_limits ca [.ref p, natD n] S) Q E := by
  have hz : 5000 < sizeLine := by decide
  have hbig : 5000 < bigN := by unfold bigN; omega
  have hpl := P.lt
  refine wpE_def ?_
  unfold b__law_limits natD
  repeat fail
  refine exR1N (by omega) ?_
  rw [Int.toNat_natCast]
  refine wp_compL ((List.range n).map fun k => D.int ((k : Nat) : Int)) (fun j a T => KpX p S T ∧ Pen p c (i + 2 * j) T ∧ ∃ lim : List Int, a = lim.map D.int ∧ lim.length = j ∧ ∀ z ∈ lim, 0 ≤ z ∧ z ≤ 16) (fun j a T _ _ => next_rng j T) (fun j z a T hz1 ⟨hKx, hPn, lim, ea, ll, hv⟩ hT hal => ?_) (by simp; omega) (fun a T1 ⟨hKx, hPn, lim, ea, ll, hv⟩ hT => ?_) n bigN 0 [] _ (by simp) (by omega) (Nat.le_refl _) ⟨Kp.app.x, P.kp Kp.app, [], rfl, rfl, fun z hz => nomatch hz⟩ at_mid
  · have hj : j < n := by have := (List.getElem?_eq_some_iff.mp hz1).1; rw [List.length_map, List.length_range] at this; exact this
    refine ⟨_, rfl, ⟨fun z => Bool.noConfusion z, fun _ => ?_⟩⟩
    repeat fail
    have hpn := hPn.lt
    have lT := lt_of_at hT
    refine draw_sp hPn (by omega) (by decide) (by decide) fun w V w0 w1 PV kV => ?_
    have Tp : p ≠ S.length := by omega
    have eV := kV.len
    repeat fail
    intro R V2 k2 l2 hR
    repeat fail
    refine pick_sp (PV.kp k2) (by omega) hR (by omega) (by simp) (by simp only [List.length_cons, List.length_nil]; decide) fun d V3 hd P3 x3 => ?_
    obtain ⟨y, rfl, y0, y1⟩ : ∃ y : Int, d = .int y ∧ 0 ≤ y ∧ y ≤ 16 := by
      simp only [List.mem_cons, List.not_mem_nil, or_false] at hd
      rcases hd with rfl | rfl | rfl | rfl | rfl
      · exact ⟨_, rfl, by decide, by decide⟩
      · exact ⟨_, rfl, by decide, by decide⟩
      · exact ⟨_, rfl, by decide, by decide⟩
      · exact ⟨_, rfl, by decide, by decide⟩
      · exact ⟨_, rfl, w0, by omega⟩
    have kT := (kV.trans k2.x).trans x3
    have hT3 := kT.k _ _ (Ne.symm Tp) hT
    refine ⟨hT3, (hKx.trans kT).setN (by omega), (P3.st (Ne.symm Tp) (by omega)).le (by omega), lim ++ [y], by rw [ea, List.map_append]; rfl, by rw [List.length_append, ll]; rfl, fun z hz => ?_⟩
    rcases List.mem_append.mp hz with h | h
    · exact hv z h
    · rw [List.mem_singleton.mp h]; exact ⟨y0, y1⟩
  subst ea
  rw [List.length_map, List.length_range] at ll hPn
  repeat fail
  refine wpO_tuple (items_ref hT) ?_
  repeat fail
  have hsmall : ∀ z ∈ lim, z.natAbs < 1000 := fun z hz => by have := hv z hz; omega
  have nG : ∀ {W : Store}, NcL 0 n 100 W (lim.map D.int) := fun {W} => ll ▸ ncl_ints hsmall
  obtain ⟨g, hg⟩ : ∃ g, g = lim.map D.int := ⟨_, rfl⟩
  have lg : g.length = n := by rw [hg, List.length_map, ll]
  rw [← hg] at nG ⊢
  clear hg hT
  refine wpO_listI (d := .tup g) rfl fun A T2 k2 l2 hA => ?_
  have c1 := cut_len g (some 1) none
  have c2 := cut_len g none (some (-1))
  repeat fail
  refine wpO_addT (by simp only [List.length_singleton]; omega) ?_
  repeat fail
  refine wpO_addT (by simp only [List.length_singleton]; omega) ?_
  repeat fail
  refine wpO_addT (by simp only [List.length_singleton]; omega) ?_
  repeat fail
  refine wpO_addT (by simp only [List.length_singleton]; omega) ?_
  repeat fail
  have eT := hKx.len
  have e2 := k2.len
  refine odd_sp (f := below S.length) (fun w hw => below_no (by omega)) (below_p hpl.1) (hPn.kp k2) (by omega) fun o T3 ho P3 x3 => ?_
  have e3 := x3.len
  repeat fail
  intro O T4 k4 l4 hO
  have e4 := k4.len
  repeat fail
  refine pick_sp (P3.kp k4) (by omega) hO (by omega) (by simp) (by simp only [List.length_cons, List.length_nil]; decide) fun b T5 hb P5 x5 => ?_
  have e5 := x5.len
  repeat fail
  intro R T6 k6 l6 hR
  have e6 := k6.len
  repeat fail
  refine pick_sp (P5.kp k6) (by omega) hR (by omega) (by simp) (by simp only [List.length_cons, List.length_nil]; decide) fun d T7 hd P7 x7 => ?_
  have x27 : KpX p T2 T7 := (((x3.trans k4.x).trans x5).trans k6.x).trans x7
  have x37 : KpX p T3 T7 := ((k4.x.trans x5).trans k6.x).trans x7
  refine k d T7 ?_ (P7.le (by omega)) (hKx.trans (k2.x.trans x27))
  have t0 : ∀ {n m : Nat} {W : Store} {y : D}, Nc n m 100 W y → n ≤ 3 → m ≤ 8 → Nc 3 8 100 W y := fun h a b => h.up a b (Nat.le_refl _)
  have vG : ∀ {W : Store}, Nc 3 8 100 W (.tup g) := fun {W} => t0 (Nc.tup nG) (by decide) (by omega)
  have one : ∀ {W : Store} {z : Int}, z.natAbs < 2 ^ 100 → NcL 0 1 100 W [.int z] := fun h => NcL.cons (m' := 0) (Nc.int h) NcL.nil
  simp only [List.mem_cons, List.not_mem_nil, or_false] at hd
  rcases hd with rfl | rfl | rfl | rfl
  · exact vG
  · exact vG
  · exact vG
  · simp only [List.mem_cons, List.not_mem_nil, or_false] at hb
    rcases hb with rfl | rfl | rfl | rfl | rfl | rfl | rfl
    · exact Nc.kf (t0 (Nc.lst (n := 0) (mask_at (below_no (by omega)) hA) nG) (by decide) (by omega)) (x27.f (below_p hpl.1))
    · exact t0 (Nc.tup (nG.cut _ _)) (by decide) (by omega)
    · exact t0 (Nc.tup (nG.append (one (by decide)))) (by decide) (by omega)
    · exact t0 (Nc.tup ((one (by decide)).append (nG.cut _ _))) (by decide) (by omega)
    · exact t0 (Nc.tup ((nG.cut _ _).append (one (by decide)))) (by decide) (by omega)
    · exact t0 (Nc.tup (NcL.append (m := 1) (NcL.cons (m' := 0) Nc.bl NcL.nil) (nG.cut _ _))) (by decide) (by omega)
    · exact Nc.kf (t0 ho (by decide) (by decide)) (x37.f (below_p hpl.1))
end Q


namespace Q
open PySem PySem.Spec PyProof.Rows L2
variable {ca : CA}
/-! ### refused calls -/
theorem link_ans {n N q p : Nat} {ls : List (Nat × Nat)} {cap : D} {ds : List D} {S : Store} {P : D → Store → Prop} (hca : CaOk ca) (hN : S[N]? = some (.ins ca.c_Network [("size", natD n), ("pairs", .ref q), ("caps", cap)])) (hq : S[q]? = some (.lst (ls.map linkD))) (hl : ls.length ≤ 8) (hv : ∀ d ∈ ds, Vl p d S) (hz : ds.length ≤ 3)
    (bad : ∀ i, dueW ls.length n ds S = some i → ∀ U, Kp S U → P (dueD (some i)) U)
    (ok : dueW ls.length n ds S = none → ∀ T, KpX q S T → T[q]? = some (.lst ((ls ++ (pairsV ds S).map normP).map linkD)) → P .non T) :
    wpE (M_Network_link ca (.ref N :: ds) S) (fun d U => ∃ d0 U0, Ans 2 (b__law_refused ca) S (.ok d U) d0 U0 ∧ P d0 U0) (fun C c U => ∃ d0 U0, Ans 2 (b__law_refused ca) S (.err C c U) d0 U0 ∧ P d0 U0) := by
  refine linkV_sp hN hq hl hv (by omega) (fun i z hi hb hj r U kU hU => ?_) (fun ha h8 r U kU hU => ?_) fun ha h8 T xT hT => ?_
  · have hi2 := (List.getElem?_eq_some_iff.mp hi).1
    exact ⟨_, _, ref_links hca hU (repr_nat (k := i) (by omega)), bad i (due_bad hi hb hj) U kU⟩
  · exact ⟨_, _, ref_links hca hU (repr_nat (k := 8) (by omega)), bad 8 (due_many ha h8) U kU⟩
  · exact ⟨_, _, ref_no, ok (due_ok ha h8) T xT hT⟩
theorem linked_sp {n N q p L : Nat} {ls : List (Nat × Nat)} {cap : D} {ds : List D} {S : Store} {E : EK} {P : D → Store → Prop} (hca : CaOk ca) (tb : S[1]? = some (.tab ca.lP__law_linked (("_law_linked" : Str) ++ ".<locals>." ++ "<lambda>"))) (hN : S[N]? = some (.ins ca.c_Network [("size", natD n), ("pairs", .ref q), ("caps", cap)])) (hq : S[q]? = some (.lst (ls.map linkD))) (hl : ls.length ≤ 8) (hL : S[L]? = some (.lst ds)) (hv : ∀ d ∈ ds, Vl p d S) (hz : ds.length ≤ 3)
    (bad : ∀ i, dueW ls.length n ds S = some i → ∀ U, Kp S U → P (dueD (some i)) U)
    (ok : dueW ls.length n ds S = none → ∀ T, KpX q S T → T[q]? = some (.lst ((ls ++ (pairsV ds S).map normP).map linkD)) → P .non T) : wpE (M__law_linked ca [.ref N, .ref L] S) P E := by
  refine wpE_def ?_
  unfold b__law_linked
  repeat fail
  refine wpO_lenL hL ?_
  match ds, hL, hv, hz, bad, ok with
  | [], hL, hv, hz, bad, ok =>
    repeat fail
    refine ⟨fun _ => ?_, (fun c => absurd c (by simp))⟩
    repeat fail
    refine wpE_lam tb ?_
    refine wpE_mthS ?_
    repeat fail
    refine ⟨N, _, _, rfl, hN, by simp, rfl, ?_⟩
    repeat fail
    refine ⟨⟨by simp, by simp⟩, ?_⟩
    exact link_ans hca hN hq hl hv hz bad ok
  | [a], hL, hv, hz, bad, ok =>
    repeat fail
    refine ⟨(fun c => absurd c (by simp)), fun _ => ?_⟩
    repeat fail
    refine wpO_lenL hL ?_
    repeat fail
    refine ⟨fun _ => ?_, (fun c => absurd c (by simp))⟩
    repeat fail
    refine wpE_lam tb ?_
    refine wpE_mthS ?_
    repeat fail
    refine ⟨N, _, _, rfl, hN, by simp, rfl, ?_⟩
    repeat fail
    refine wpO_subN (i := 0) (items_ref hL) rfl ?_
    repeat fail
    refine ⟨⟨by simp, by simp⟩, ?_⟩
    exact link_ans hca hN hq hl hv hz bad ok
  | [a, b], hL, hv, hz, bad, ok =>
    repeat fail
    refine ⟨(fun c => absurd c (by simp)), fun _ => ?_⟩
    repeat fail
    refine wpO_lenL hL ?_
    repeat fail
    refine ⟨(fun c => absurd c (by simp)), fun _ => ?_⟩
    repeat fail
    refine wpO_lenL hL ?_
    repeat fail
    refine ⟨fun _ => ?_, (fun c => absurd c (by simp))⟩
    repeat fail
    refine wpE_lam tb ?_
    refine wpE_mthS ?_
    repeat fail
    refine ⟨N, _, _, rfl, hN, by simp, rfl, ?_⟩
    repeat fail
    refine wpO_subN (i := 0) (items_ref hL) rfl ?_
    repeat fail
    refine wpO_subN (i := 1) (items_ref hL) rfl ?_
    repeat fail
    refine ⟨⟨by simp, by simp⟩, ?_⟩
    exact link_ans hca hN hq hl hv hz bad ok
  | [a, b, c], hL, hv, hz, bad, ok =>
    repeat fail
    refine ⟨(fun c => absurd c (by simp)), fun _ => ?_⟩
    repeat fail
    refine wpO_lenL hL ?_
    repeat fail
    refine ⟨(fun c => absurd c (by simp)), fun _ => ?_⟩
    repeat fail
    refine wpO_lenL hL ?_
    repeat fail
    refine ⟨(fun c => absurd c (by simp)), fun _ => ?_⟩
    repeat fail
    refine wpE_lam tb ?_
    refine wpE_mthS ?_
    repeat fail
    refine ⟨N, _, _, rfl, hN, by simp, rfl, ?_⟩
    repeat fail
    refine wpO_subN (i := 0) (items_ref hL) rfl ?_
    repeat fail
    refine wpO_subN (i := 1) (items_ref hL) rfl ?_
    repeat fail
    refine wpO_subN (i := 2) (items_ref hL) rfl ?_
    repeat fail
    refine ⟨⟨by simp, by simp⟩, ?_⟩
    exact link_ans hca hN hq hl hv hz bad ok
  | _ :: _ :: _ :: _ :: _, hL, hv, hz, bad, ok => simp only [List.length_cons] at hz; omega
/-- Network(n, links) is refused, or not -/
theorem init_ans {n p : Nat} {d : D} {ds : List D} {S : Store} {P : D → Store → Prop} (hca : CaOk ca) (h1 : 1 ≤ n) (h5 : n ≤ 5) (hd : ∀ T, Kp S T → itemsK ca.dv_Network___init__ d T = some ds) (hv : ∀ x ∈ ds, Vl p x S) (hz : ds.length ≤ 20)
    (h : ∀ U, Kp S U → P (dueD (dueW 0 n ds S)) U) :
    wpE (M_Network___init__ ca [.ref S.length, natD n, d] (S ++ [.ins ca.c_Network []])) (fun z U => z = .non ∧ ∃ d0 U0, Ans 2 (b__law_refused ca) S (.ok (.ref S.length) U) d0 U0 ∧ P d0 U0) (fun C c U => ∃ d0 U0, Ans 2 (b__law_refused ca) S (.err C c U) d0 U0 ∧ P d0 U0) := by
  refine ninitV_sp (B := S) at_mid (Nat.le_refl _) Kp.app h1 h5 hd hv (by omega) (fun i z hi hb hj r U kU hU => ?_) (fun ha h8 r U kU hU => ?_) fun ha h8 T kT hT => ⟨rfl, ?_⟩
  · have hi2 := (List.getElem?_eq_some_iff.mp hi).1
    have h := h U kU
    rw [due_bad hi hb hj] at h
    exact ⟨_, _, ref_links hca hU (repr_nat (k := i) (by omega)), h⟩
  · have h := h U kU
    rw [due_many ha (by omega)] at h
    exact ⟨_, _, ref_links hca hU (repr_nat (k := 8) (by omega)), h⟩
  · have h := h T kT
    rw [due_ok ha (by omega)] at h
    exact ⟨_, _, ref_no, h⟩
theorem eqP_same {T : Store} {xs : List D} {ps : List PyData} (e1 : eqLen (.tup xs) (.tup xs) T = none) (p1 : pyD T (.tup xs) = some (.tuple ps)) (pl : PyData.plain (.tuple ps) = true) (dp : (PyData.tuple ps).depth ≤ 64) (ev : PyData.eqv (.tuple ps) (.tuple ps) = true) : eqP (.tup xs) (.tup xs) T = some true := by
  unfold eqP
  dsimp only
  rw [e1]
  dsimp only
  unfold eqPD
  rw [p1]
  show (if PyData.plain (.tuple ps) = true ∧ PyData.plain (.tuple ps) = true ∧ (PyData.tuple ps).depth ≤ 64 then some (PyData.eqv (.tuple ps) (.tuple ps)) else none) = _
  rw [if_pos ⟨pl, pl, dp⟩, ev]
theorem wpO_ne3 {T : Store} {P : D → Store → Prop} {a b : Str} {c : Bool} (h : P (.bl false) T) : wpO (gNe (.tup [.str a, .str b, .bl c]) (.tup [.str a, .str b, .bl c]) T) P := by
  refine wpO_of (d := .bl false) (T := T) ?_ h
  unfold gNe
  rw [eqP_same (ps := [.str a, .str b, .bool c]) rfl rfl rfl (by have e : (PyData.tuple [.str a, .str b, .bool c]).depth = (PyData.tuple [.str "", .str "", .bool true]).depth := rfl; rw [e]; decide) (by simp [PyData.eqv, PyData.eqvAll])]
  rfl
theorem wpO_neDue {T : Store} {P : D → Store → Prop} {w : Option Nat} (h : P (.bl false) T) : wpO (gNe (dueD w) (dueD w) T) P := by
  cases w with
  | none => exact wpO_of (d := .bl false) (T := T) rfl h
  | some i => exact wpO_ne3 h
theorem mul_list {S : Store} {P : D → Store → Prop} {m k : Nat} {xs : List D} (hx : S[m]? = some (.lst xs)) (hk : k ≤ 100) (hl : xs.length ≤ 10) (h : ∀ U, Kp S U → U[S.length]? = some (.lst (List.replicate k xs).flatten) → P (.ref S.length) U) : wpO (gMul (.ref m) (.int ((k : Nat) : Int)) S) P := by
  have hsz : 5000 < sizeLine := by decide
  refine wpO_of (d := .ref S.length) (T := S ++ [.lst (List.replicate k xs).flatten]) ?_ (h _ Kp.app at_mid)
  unfold gMul
  dsimp only
  have e : lstD (.ref m) S = some xs := by unfold lstD; dsimp only; rw [hx]
  rw [e]
  have hm : xs.length * k ≤ 10 * 100 := Nat.mul_le_mul hl hk
  rw [Option.bind_some, Int.toNat_natCast, if_pos ⟨by omega, by omega, by omega⟩]
end Q


namespace Q
open PySem PySem.Spec PyProof.Rows L2
variable {ca : CA}
/-! ### _law_refused_right -/
theorem vl_int {p : Nat} {S : Store} {z : Int} (h : z.natAbs < 2 ^ 100) : Vl p (.int z) S := (Nc.int (n := 0) h).up (by decide) (by decide) (Nat.le_refl _)
theorem vl_pair {p : Nat} {S : Store} {x y : Int} (hx : x.natAbs < 2 ^ 100) (hy : y.natAbs < 2 ^ 100) : Vl p (.tup [.int x, .int y]) S := (Nc.tup (n := 0) (NcL.cons (m' := 1) (Nc.int hx) (NcL.cons (m' := 0) (Nc.int hy) NcL.nil))).up (by decide) (by decide) (Nat.le_refl _)
theorem repl_one {α : Type} (k : Nat) (a : α) : (List.replicate k [a]).flatten = List.replicate k a := by
  induction k with
  | zero => rfl
  | succ k ih => rw [List.replicate_succ, List.flatten_cons, ih]; rfl
theorem txt_ok {n : Nat} (h : n ≤ 5) : okS (txt n) := by
  obtain rfl | rfl | rfl | rfl | rfl | rfl : n = 0 ∨ n = 1 ∨ n = 2 ∨ n = 3 ∨ n = 4 ∨ n = 5 := by omega
  all_goals exact okS_of (by decide)
theorem due_kx {p m n : Nat} {ds : List D} {S T : Store} (hv : ∀ d ∈ ds, Vl p d S) (k : KpX p S T) : dueW m n ds T = dueW m n ds S := by
  unfold dueW badsN
  have e : ((List.range ds.length).filter fun k => !lkB n (ds.getD k .non) T) = (List.range ds.length).filter fun k => !lkB n (ds.getD k .non) S := by
    refine List.filter_congr fun j hj => ?_
    have hj := List.mem_range.mp hj
    rw [List.getD_eq_getElem?_getD, List.getElem?_eq_getElem hj, Option.getD_some, vl_lkB (hv _ (List.getElem_mem hj)) k]
  rw [e]
theorem refright_sp {p c i n L : Nat} {ds : List D} {S : Store} {E : EK} {Q : D → Store → Prop} (hca : CaOk ca) (tb : S[0]? = some (.tab ca.lP__law_refused_right (("_law_refused_right" : Str) ++ ".<locals>." ++ "<lambda>"))) (P : Pen p c i S) (hi : i < 2 ^ 50) (h1 : 1 ≤ n) (h5 : n ≤ 5) (p0 : p ≠ 0) (hL : S[L]? = some (.lst ds)) (lz : ds.length ≤ 3) (Lp : L ≠ p) (hv : ∀ d ∈ ds, Vl p d S)
    (k : ∀ T, Pen p c (i + 20) T → KpX p S T → Q (.bl true) T) : wpE (M__law_refused_right ca [.ref p, natD n, .ref L] S) Q E := by
  have hz : 5000 < sizeLine := by decide
  have hbig : 5000 < bigN := by unfold bigN; omega
  have hpl := P.lt
  have hl := lt_of_at hL
  refine wpE_def ?_
  unfold b__law_refused_right
  refine wpS_seqJ (fun e U => (∃ x3 x4 x5, e = [some (.ref p), some (natD n), some (.ref L), x3, x4, x5]) ∧ KpX p S U ∧ Pen p c (i + 5) U) ?_ fun e T0 ⟨⟨x3, x4, x5, he⟩, kT0, PT0⟩ => ?_
  · repeat fail
    refine odd_sp (f := below S.length) (fun w hw => below_no (by omega)) (below_p hpl.1) P (by omega) fun o T1 ho P1 x1 => ?_
    have e1 := x1.len
    repeat fail
    refine wpO_strN (by omega) ?_
    repeat fail
    intro R T2 k2 l2 hR
    repeat fail
    have lo : Vl p o T2 := ((Vb.vl (l := S.length) (ho.up (by decide) (by decide) (Nat.le_refl _)) hpl.1).kx k2.x)
    refine exItI (items_ref hR) fun mi hmi => ?_
    refine wp_forL _ (fun j e U => (∃ x3 x4 x5, e = [some (.ref p), some (natD n), some (.ref L), x3, x4, x5]) ∧ Kp T2 U)
      (fun j e U ⟨_, q⟩ => hmi U (items_ref (q _ _ hR)) j) (fun j d e U hj ⟨⟨x3, x4, x5, he⟩, kU⟩ => ?_) (fun e U ⟨he, kU⟩ => ?_) 6 bigN 0 _ _ (by simp) (by omega) ⟨⟨_, _, _, rfl⟩, Kp.refl _⟩
    · subst he
      have vd : Vl p d T2 := by
        have hm := List.mem_of_getElem? hj
        simp only [List.mem_cons, List.not_mem_nil, or_false] at hm
        rcases hm with rfl | rfl | rfl | rfl | rfl | rfl
        · exact vl_int (by decide)
        · exact vl_int (by decide)
        · exact lo
        · exact (Nc.bl (n := 0)).up (by decide) (by decide) (Nat.le_refl _)
        · exact (Nc.tup (n := 0) (NcL.cons (m' := 0) (Nc.int (by omega)) NcL.nil)).up (by decide) (by decide) (Nat.le_refl _)
        · exact (Nc.str (n := 0) (txt_ok h5)).up (by decide) (by decide) (Nat.le_refl _)
      obtain ⟨q, hq⟩ := vl_kind vd
      obtain ⟨x, hx⟩ := vl_repr vd
      have hqU := hq U kU.x
      have eJ : btw d 0 5 = btw d 0 (6 - 1) := rfl
      have tbU : U[0]? = some (.tab ca.lP__law_refused_right (("_law_refused_right" : Str) ++ ".<locals>." ++ "<lambda>")) := kU _ _ (k2 _ _ (x1.k _ _ (Ne.symm p0) tb))
      have go : btw d 1 5 = false → True := fun _ => trivial
      refine ⟨_, rfl, ?_⟩
      repeat fail
      refine lawnode_sp (hi := 6) hqU ?_
      cases hb : btw d 1 5 with
      | true =>
        obtain ⟨z, rfl, z0, z1⟩ := btw_ex hb
        have e6 : btw (.int z) 0 (6 - 1) = true := by
          show (decide (0 ≤ z) && decide (z ≤ 6 - 1)) = true
          rw [decide_eq_true (by omega), decide_eq_true (by omega)]
          rfl
        rw [e6]
        refine ⟨_, rfl, (fun c => absurd c (by decide)), fun _ => ?_⟩
        repeat fail
        refine ⟨fun c => absurd (of_decide_eq_true c) (by omega), fun _ => ?_⟩
        repeat fail
        exact ⟨⟨_, _, _, rfl⟩, kU⟩
      | false =>
        have fin : ∀ (r : Nat) (V : Store), Kp (U ++ [O.ins ca.c_Network []]) V → V[r]? = some (O.xd [("value", d)]) → Kp T2 V ∧ reprP d V = some x := fun r V kV hV => ⟨kU.trans (Kp.trans Kp.app kV), hx V (kU.trans (Kp.trans Kp.app kV)).x⟩
        refine ⟨_, rfl, fun _ => ⟨fun _ => ?_, nofun⟩, fun c => ?_⟩
        · repeat fail
          refine wpE_lam tbU ?_
          refine wpE_make ?_
          repeat fail
          refine ninit_bad at_mid (hq _ (kU.trans Kp.app).x) hb fun r V kV hV => ⟨_, _, ref_index hV (fin r V kV hV).2, ?_⟩
          repeat fail
          refine wpO_reprS (fin r V kV hV).2 ?_
          repeat fail
          refine wpO_ne3 ?_
          repeat fail
          exact ⟨⟨_, _, _, rfl⟩, (fin r V kV hV).1⟩
        · have c : btw d 0 (6 - 1) = true := by simpa using c
          obtain ⟨z, rfl, z0, z1⟩ := btw_ex c
          have z2 : z = 0 := by
            have hb : (decide (1 ≤ z) && decide (z ≤ 5)) = false := hb
            by_cases h : 1 ≤ z
            · rw [decide_eq_true h, decide_eq_true (by omega)] at hb; cases hb
            · omega
          subst z2
          repeat fail
          refine ⟨fun _ => ?_, fun c => absurd c (by decide)⟩
          repeat fail
          refine wpE_lam tbU ?_
          refine wpE_make ?_
          repeat fail
          refine ninit_bad at_mid (hq _ (kU.trans Kp.app).x) hb fun r V kV hV => ⟨_, _, ref_index hV (fin r V kV hV).2, ?_⟩
          repeat fail
          refine wpO_reprS (fin r V kV hV).2 ?_
          repeat fail
          refine wpO_ne3 ?_
          repeat fail
          exact ⟨⟨_, _, _, rfl⟩, (fin r V kV hV).1⟩
    · repeat fail
      exact ⟨he, x1.trans (k2.trans kU).x, (P1.kp (k2.trans kU)).le (by omega)⟩
  · subst he
    have tb0 := kT0.k _ _ (Ne.symm p0) tb
    have hL0 := kT0.k _ _ Lp hL
    have hv0 : ∀ d ∈ ds, Vl p d T0 := fun d hd => (hv d hd).kx kT0
    have p00 := PT0.lt
    unfold natD
    repeat fail
    intro M T1 k1 l1 hM
    repeat fail
    refine draw_sp (PT0.kp k1) (by omega) (by decide) (by decide) fun w T2 w0 w1 P2 x2 => ?_
    obtain ⟨m, hm, m7, m11⟩ : ∃ m : Nat, 7 + w = ((m : Nat) : Int) ∧ 7 ≤ m ∧ m ≤ 10 := ⟨(7 + w).toNat, by omega, by omega, by omega⟩
    repeat fail
    rw [hm]
    refine mul_list (x2.k _ _ (by omega) hM) (by omega) (by simp) fun T3 k3 hW => ?_
    rw [repl_one] at hW
    obtain ⟨W, hWd⟩ : ∃ W, W = T2.length := ⟨_, rfl⟩
    rw [← hWd] at hW ⊢
    repeat fail
    intro Z T4 k4 l4 hZ
    repeat fail
    refine wpO_addL (k4 _ _ hW) hZ (by rw [List.length_replicate, List.length_singleton]; omega) fun K T5 k5 l5 hK => ?_
    repeat fail
    intro R T6 k6 l6 hR
    repeat fail
    have x06 : KpX p T0 T6 := (k1.x.trans x2).trans (k3.trans (k4.trans (k5.trans k6))).x
    have P6 := P2.kp (k3.trans (k4.trans (k5.trans k6)))
    have pr : Vl p (.tup [.int 0, .int (((n : Nat) : Int) - 1)]) T6 := vl_pair (by decide) (by omega)
    have hL6 := x06.k _ _ Lp hL0
    have hW6 := (k4.trans (k5.trans k6)) _ _ hW
    have hK6 := k6 _ _ hK
    have tb6 := x06.k _ _ (Ne.symm p0) tb0
    have rows : ∀ y ∈ [D.ref L, D.ref W, D.ref K], ∃ X xs, y = .ref X ∧ T6[X]? = some (.lst xs) ∧ xs.length ≤ 20 ∧ ∀ d ∈ xs, Vl p d T6 := fun y hy => by
      simp only [List.mem_cons, List.not_mem_nil, or_false] at hy
      rcases hy with rfl | rfl | rfl
      · exact ⟨L, ds, rfl, hL6, by omega, fun d hd => (hv0 d hd).kx x06⟩
      · exact ⟨W, _, rfl, hW6, by rw [List.length_replicate]; omega, fun d hd => by rw [List.eq_of_mem_replicate hd]; exact pr⟩
      · refine ⟨K, _, rfl, hK6, by rw [List.length_append, List.length_replicate, List.length_singleton]; omega, fun d hd => ?_⟩
        rcases List.mem_append.mp hd with hd | hd
        · rw [List.eq_of_mem_replicate hd]; exact pr
        · rw [List.mem_singleton.mp hd]; exact (Nc.non (n := 0)).up (by decide) (by decide) (Nat.le_refl _)
    refine exItI (items_ref hR) fun mi hmi => ?_
    refine wp_forL [D.ref L, D.ref W, D.ref K] (fun j e U => (∃ x5, e = [some (.ref p), some (.int ((n : Nat) : Int)), some (.ref L), x3, some (.ref W), x5]) ∧ Kp T6 U)
      (fun j e U ⟨_, q⟩ => hmi U (items_ref (q _ _ hR)) j) (fun j d e U hj ⟨⟨x5, he⟩, kU⟩ => ?_) (fun e U ⟨⟨x5, he⟩, kU⟩ => ?_) 3 bigN 0 _ _ (by simp) (by omega) ⟨⟨_, rfl⟩, Kp.refl _⟩
    · subst he
      obtain ⟨X, xs, rfl, hX, lx, hvx⟩ := rows d (List.mem_of_getElem? hj)
      have hvU : ∀ d ∈ xs, Vl p d U := fun d hd => (hvx d hd).kx kU.x
      refine ⟨_, rfl, ?_⟩
      repeat fail
      refine wpE_lam (kU _ _ tb6) ?_
      refine wpE_make ?_
      repeat fail
      refine init_ans (n := n) (p := p) (ds := xs) hca h1 h5 (fun V kV => items_ref (kV _ _ (kU _ _ hX))) hvU lx fun V kV => ?_
      repeat fail
      refine due_sp (p := p) (n := n) (as := []) (items_ref (kV _ _ (kU _ _ hX))) (fun d hd => (hvU d hd).kx kV.x) (by omega) (by simp) fun V2 k2 => ?_
      rw [show dueW ([] : List D).length n xs V = dueW 0 n xs U from due_kx hvU kV.x]
      refine wpO_neDue ?_
      repeat fail
      exact ⟨⟨_, rfl⟩, kU.trans (kV.trans k2)⟩
    · subst he
      repeat fail
      refine wpE_lam (kU _ _ tb6) ?_
      refine wpE_make ?_
      repeat fail
      refine init_ans (n := n) (p := p) (ds := []) hca h1 h5 (fun V kV => by unfold itemsK; exact if_pos rfl) (fun _ h => nomatch h) (by simp) fun V kV => ?_
      have e : dueW 0 n [] U = none := rfl
      rw [e]
      repeat fail
      exact k V ((P6.kp (kU.trans kV)).le (by omega)) ((kT0.trans x06).trans (kU.trans kV).x)
end Q


namespace Q
open PySem PySem.Spec PyProof.Rows L2
variable {ca : CA}
/-! ### _law_equal_right -/
theorem lk_pair {n : Nat} {q : Nat × Nat} {S : Store} (h1 : q.1 < n) (h2 : q.2 < n) : lkB n (linkD q) S = true := by
  show (btw (natD q.1) 0 (((n : Nat) : Int) - 1) && btw (natD q.2) 0 (((n : Nat) : Int) - 1)) = true
  show ((decide ((0 : Int) ≤ ((q.1 : Nat) : Int)) && decide (((q.1 : Nat) : Int) ≤ ((n : Nat) : Int) - 1)) && (decide ((0 : Int) ≤ ((q.2 : Nat) : Int)) && decide (((q.2 : Nat) : Int) ≤ ((n : Nat) : Int) - 1))) = true
  rw [decide_eq_true (by omega), decide_eq_true (by omega), decide_eq_true (by omega), decide_eq_true (by omega)]
  rfl
theorem ends_pair {q : Nat × Nat} {S : Store} : endsN (linkD q) S = q := by
  show (((q.1 : Nat) : Int).toNat, ((q.2 : Nat) : Int).toNat) = q
  rw [Int.toNat_natCast, Int.toNat_natCast]
def Okl (n : Nat) (ls : List (Nat × Nat)) : Prop := ∀ q ∈ ls, q.1 ≤ q.2 ∧ q.2 < n
theorem norm_ok {n : Nat} {ls : List (Nat × Nat)} {S : Store} (h : Okl n ls) : (pairsV (ls.map linkD) S).map normP = ls := by
  unfold pairsV
  rw [List.map_map, List.map_map]
  refine (List.map_congr_left (g := id) fun q hq => ?_).trans (List.map_id ls)
  show normP (endsN (linkD q) S) = q
  rw [ends_pair]
  have := h q hq
  unfold normP
  rw [Nat.min_eq_left this.1, Nat.max_eq_right this.1]
theorem make_ans {n : Nat} {ls : List (Nat × Nat)} {S : Store} {E : EK} {Q : Store → Prop} (h1 : 1 ≤ n) (h5 : n ≤ 5) (lk : Okl n ls) (h8 : ls.length ≤ 8) (h : ∀ T, Kp S T → NetAt T ca.c_Network S.length n ls (List.replicate n 16) → Q T) : wpE (M_Network___init__ ca [.ref S.length, natD n, .tup (ls.map linkD)] (S ++ [.ins ca.c_Network []])) (fun z T => z = .non ∧ Q T) E := by
  have good : ∀ y ∈ ls.map linkD, lkB n y S = true := fun y hy => by
    obtain ⟨q, hq, rfl⟩ := List.mem_map.mp hy
    have := lk q hq
    exact lk_pair (by omega) this.2
  refine ninitV_sp (p := 0) (B := S) (ds := ls.map linkD) at_mid (Nat.le_refl _) Kp.app h1 h5 (fun T _ => rfl) (fun y hy => ?_) (by rw [List.length_map]; omega) (fun i z hi hb _ _ _ _ _ => ?_) (fun _ h9 _ _ _ _ => ?_) fun _ _ T kT hT => ⟨rfl, h T kT ?_⟩
  · obtain ⟨q, hq, rfl⟩ := List.mem_map.mp hy
    have := lk q hq
    exact vl_pair (by omega) (by omega)
  · rw [good z (List.mem_of_getElem? hi)] at hb
    cases hb
  · rw [List.length_map] at h9
    omega
  · rw [norm_ok lk] at hT
    exact hT
theorem NetAt.ap {S T : Store} {C : Addr} {N M n m : Nat} {ls ms : List (Nat × Nat)} {cap cap2 : List Int} (h : NetAt S C N n ls cap) (hM : NetAt S C M m ms cap2) (hne : N ≠ M) (k : KpX M S T) : NetAt T C N n ls cap := by
  obtain ⟨q, a1, a2, a3⟩ := h
  obtain ⟨q2, b1, b2, b3⟩ := hM
  refine ⟨q, k.k _ _ hne a1, k.k _ _ (fun e => ?_) a2, a3⟩
  subst e
  rw [b1] at a2
  cases a2
theorem limitto_sp {n N : Nat} {ls : List (Nat × Nat)} {cap lim : List Int} {S : Store} {E : EK} {P : D → Store → Prop} (hN : NetAt S ca.c_Network N n ls cap) (h1 : 1 ≤ n) (h5 : n ≤ 5) (hl : lim.length = n) (h0 : ∀ z ∈ lim, 0 ≤ z ∧ z ≤ 16) (h : ∀ T, KpX N S T → NetAt T ca.c_Network N n ls lim → P .non T) : wpE (M_Network_limit_to ca [.ref N, tupD lim] S) P E := by
  obtain ⟨q, hi, hq, hNq⟩ := id hN
  refine wpE_def ?_
  unfold b_Network_limit_to
  refine wpS_setP ?_
  repeat fail
  refine ⟨N, _, _, rfl, hi, by simp, ?_⟩
  exact limits_sp hN h1 h5 hl h0 h
theorem eq_own {N M n m : Nat} {ls ms : List (Nat × Nat)} {cap cap2 : List Int} {U : Store} {Q : Bool → Store → Prop} (hN : NetAt U ca.c_Network N n ls cap) (hM : NetAt U ca.c_Network M m ms cap2) (hcn : cap.length = n) (hcm : cap2.length = m) (h : Q (decide (n = m) && (decide (ls = ms) && decide (cap = cap2))) U) :
    ∃ k fs, D.ref N = .ref k ∧ U[k]? = some (.ins ca.c_Network fs) ∧ otherOk ca.c_Network (.ref M) U = true ∧ wpE (M_Network___eq__ ca [.ref N, .ref M] U) (fun z V => ∃ b, z = .bl b ∧ Q b V) (fun _ _ _ => False) := by
  obtain ⟨q, hi, _⟩ := id hN
  obtain ⟨q2, hi2, _⟩ := id hM
  exact ⟨N, _, rfl, hi, other_ins hi2, neteq_sp hcn hcm hN hM ⟨_, rfl, h⟩⟩
theorem e16 (n : Nat) : D.tup (List.replicate n [D.int 16]).flatten = tupD (List.replicate n 16) := by
  unfold tupD
  rw [repl_one, List.map_replicate]
theorem eqright_sp {n N : Nat} {ls : List (Nat × Nat)} {lim : List Int} {S : Store} {E : EK} {P : D → Store → Prop} (hN : NetAt S ca.c_Network N n ls lim) (h1 : 1 ≤ n) (h5 : n ≤ 5) (lk : Okl n ls) (h8 : ls.length ≤ 8) (hl : lim.length = n) (h0 : ∀ z ∈ lim, 0 ≤ z ∧ z ≤ 16) (h : ∀ T, Kp S T → P (.bl true) T) : wpE (M__law_equal_right ca [.ref N, natD n, .tup (ls.map linkD), tupD lim] S) P E := by
  have lN := hN.lt
  refine wpE_def ?_
  unfold b__law_equal_right
  repeat fail
  refine wpE_make ?_
  repeat fail
  refine make_ans h1 h5 lk h8 fun T1 k1 hA => ?_
  repeat fail
  refine wpE_make ?_
  repeat fail
  have lkr : Okl n ls.reverse := fun q hq => lk q (List.mem_reverse.mp hq)
  have er : D.tup (ls.map linkD).reverse = .tup (ls.reverse.map linkD) := by rw [List.map_reverse]
  first | rw [er] | (refine wpO_revT ?_; rw [er])
  repeat fail
  refine make_ans h1 h5 lkr (by rw [List.length_reverse]; exact h8) fun T2 k2 hB => ?_
  obtain ⟨A, hAe⟩ : ∃ A, A = S.length := ⟨_, rfl⟩
  obtain ⟨B, hBe⟩ : ∃ B, B = T1.length := ⟨_, rfl⟩
  rw [← hAe] at hA ⊢
  rw [← hBe] at hB ⊢
  have hA2 := hA.kp k2
  have hN2 := hN.kp (k1.trans k2)
  have lrep : (List.replicate n (16 : Int)).length = n := List.length_replicate
  repeat fail
  refine wpE_eqOwn ?_
  repeat fail
  refine eq_own hN2 hA2 hl lrep ?_
  rw [show (decide (n = n) && (decide (ls = ls) && decide (lim = List.replicate n 16))) = decide (lim = List.replicate n 16) by simp, Bool.bne_false]
  unfold natD
  repeat fail
  refine wpO_mulT (k := n) (by simp) h1 (by omega) (by simp) ?_
  rw [e16]
  repeat fail
  refine wpO_eqVec (by rw [hl, lrep]) ?_
  refine wpO_neBo ?_
  rw [bne_self_eq_false]
  repeat fail
  refine wpE_eqOwn ?_
  repeat fail
  obtain ⟨qn, hin, _⟩ := id hN2
  refine ⟨N, _, rfl, hin, rfl, netno_sp (q := .tup) rfl rfl ⟨_, rfl, ?_⟩⟩
  repeat fail
  refine ⟨fun c => absurd c (by decide), fun _ => ?_⟩
  repeat fail
  refine wpE_eqOwn ?_
  repeat fail
  refine wpE_make ?_
  repeat fail
  obtain ⟨m, hm, m1, m5, mn⟩ : ∃ m : Nat, ((n : Nat) : Int) % 5 + 1 = ((m : Nat) : Int) ∧ 1 ≤ m ∧ m ≤ 5 ∧ n ≠ m := ⟨n % 5 + 1, by omega, by omega, by omega, by omega⟩
  rw [hm]
  refine make_ans (n := m) (ls := []) m1 m5 (fun _ h => nomatch h) (by simp) fun T3 k3 hM => ?_
  have k13 := (k1.trans k2).trans k3
  have hA3 := hA2.kp k3
  have hB3 := hB.kp k3
  have hN3 := hN2.kp k3
  repeat fail
  refine eq_own hN3 hM hl List.length_replicate ?_
  rw [show (decide (n = m) && (decide (ls = []) && decide (lim = List.replicate m 16))) = false by rw [decide_eq_false mn]; rfl]
  repeat fail
  refine ⟨fun c => absurd c (by decide), fun _ => ?_⟩
  repeat fail
  refine wpE_mth ?_
  repeat fail
  obtain ⟨qa, hia, _⟩ := id hA3
  refine ⟨A, _, _, rfl, hia, by simp, rfl, ?_⟩
  repeat fail
  have lA := hA.lt
  have lB := hB.lt
  have eAN : N ≠ A := by omega
  have eBN : N ≠ B := by have := k1.len; omega
  have eAB : A ≠ B := by omega
  refine limitto_sp hA3 h1 h5 hl h0 fun T4 x4 hA4 => ?_
  have hN4 := hN3.ap hA3 eAN x4
  have hB4 := hB3.ap hA3 (Ne.symm eAB) x4
  repeat fail
  refine wpE_mth ?_
  repeat fail
  obtain ⟨qb, hib, _⟩ := id hB4
  refine ⟨B, _, _, rfl, hib, by simp, rfl, ?_⟩
  repeat fail
  refine limitto_sp hB4 h1 h5 hl h0 fun T5 x5 hB5 => ?_
  have hN5 := hN4.ap hB4 eBN x5
  have hA5 := hA4.ap hB4 eAB x5
  have kS5 : Kp S T5 := (k13.disp (by omega) x4).disp (by have := k1.len; omega) x5
  repeat fail
  refine wpE_eqOwn ?_
  repeat fail
  refine eq_own hN5 hB5 hl hl ?_
  rw [show (decide (n = n) && (decide (ls = ls.reverse) && decide (lim = lim))) = decide (ls = ls.reverse) by simp, Bool.bne_false]
  repeat fail
  first | rw [er] | (refine wpO_revT ?_; rw [er])
  rw [map_link, map_link]
  refine wpO_eqVecs ?_
  rw [show decide (ls.map pairW = ls.reverse.map pairW) = decide (ls = ls.reverse) from decide_eq_decide.mpr pairW_inj]
  refine wpO_neBo ?_
  rw [bne_self_eq_false]
  repeat fail
  have same : ∀ a b : List (Nat × Nat), (decide (n = n) && (decide (a = a) && decide (lim = lim))) = true := fun _ _ => by simp
  refine wpE_eqOwn ?_
  repeat fail
  refine eq_own hN5 hA5 hl hl ?_
  rw [same ls ls]
  refine ⟨true, rfl, fun _ => ?_, fun c => absurd c (by decide)⟩
  repeat fail
  refine wpE_eqOwn ?_
  repeat fail
  refine eq_own hA5 hN5 hl hl ?_
  rw [same ls ls]
  refine ⟨true, rfl, fun _ => ?_, fun c => absurd c (by decide)⟩
  repeat fail
  refine wpO_eqVecs (b := []) ?_
  cases ls with
  | nil =>
    refine ⟨true, rfl, fun _ => h T5 kS5, fun c => absurd c (by decide)⟩
  | cons a r =>
    rw [show decide (((a :: r).map pairW) = []) = false from rfl]
    refine ⟨false, rfl, (fun c => absurd c (by decide)), fun _ => ?_⟩
    repeat fail
    refine wpE_eqOwn ?_
    repeat fail
    refine wpE_make ?_
    repeat fail
    have ec : cutD (((a :: r).map pairW).map tupD) (some 1) none = (((a :: r).map pairW).map tupD).drop 1 := cut_drop _ 1 (by simp)
    have ed : D.tup (cutD (((a :: r).map pairW).map tupD) (some 1) none) = .tup (r.map linkD) := by rw [ec, ← map_link]; rfl
    first | rw [ed] | skip
    repeat fail
    refine make_ans h1 h5 (ls := r) (fun q hq => lk q (List.mem_cons_of_mem _ hq)) (by simp only [List.length_cons] at h8; omega) fun T6 k6 hR => ?_
    repeat fail
    refine eq_own (hN5.kp k6) hR hl lrep ?_
    have ne : (a :: r) ≠ r := fun e => by have := congrArg List.length e; simp at this
    rw [show (decide (n = n) && (decide ((a :: r) = r) && decide (lim = List.replicate n 16))) = false by rw [decide_eq_false ne]; simp]
    exact h T6 (kS5.trans k6)
end Q


namespace Q
open PySem PySem.Spec PyProof.Rows L2
variable {ca : CA}
/-! ### last pieces -/
section
variable {N n q : Nat} {ls : List (Nat × Nat)} {cap : D} {S : Store} {E : EK} {P : D → Store → Prop}
theorem nodes_sp (hN : S[N]? = some (.ins ca.c_Network [("size", natD n), ("pairs", .ref q), ("caps", cap)])) (h : P (natD n) S) : wpE (M_Network_nodes ca [.ref N] S) P E := by
  refine wpE_def ?_
  unfold b_Network_nodes
  repeat fail
  exact wpO_fld hN (by simp) rfl h
theorem links_sp (hN : S[N]? = some (.ins ca.c_Network [("size", natD n), ("pairs", .ref q), ("caps", cap)])) (hq : S[q]? = some (.lst (ls.map linkD))) (h : P (.tup (ls.map linkD)) S) : wpE (M_Network_links ca [.ref N] S) P E := by
  refine wpE_def ?_
  unfold b_Network_links
  repeat fail
  refine wpO_fld hN (by simp) rfl ?_
  repeat fail
  exact wpO_tuple (items_ref hq) h
theorem limits_get_sp (hN : S[N]? = some (.ins ca.c_Network [("size", natD n), ("pairs", .ref q), ("caps", cap)])) (h : P cap S) : wpE (M_Network_limits ca [.ref N] S) P E := by
  refine wpE_def ?_
  unfold b_Network_limits
  repeat fail
  exact wpO_fld hN (by simp) rfl h
end
theorem Pen.kxN {p c n N : Nat} {S T : Store} (P : Pen p c n S) (k : KpX N S T) (hp : p ≠ N) (hc : c ≠ N) : Pen p c n T := by
  obtain ⟨⟨ns, t, ρ, q1, q2, q⟩, ne⟩ := P
  exact ⟨⟨ns, t, ρ, k.k _ _ hp q1, k.k _ _ hc q2, q⟩, ne⟩
theorem ncl_links {S : Store} : ∀ {ls : List (Nat × Nat)}, Okl 5 ls → NcL 1 (3 * ls.length) 100 S (ls.map linkD)
  | [], _ => NcL.nil
  | p :: ls, h => by
    have hp := h p List.mem_cons_self
    have z := ncl_links (S := S) (ls := ls) fun j hj => h j (List.mem_cons_of_mem _ hj)
    have a : Nc 1 3 100 S (linkD p) := Nc.tup (NcL.cons (n := 0) (m := 1) (m' := 1) (Nc.int (by omega)) (NcL.cons (m' := 0) (Nc.int (by omega)) NcL.nil))
    have r := NcL.cons a z
    have e : 3 * (p :: ls).length = 3 + 3 * ls.length := by rw [List.length_cons]; omega
    rw [e]
    exact r
theorem rep_net {n : Nat} {ls : List (Nat × Nat)} {lim : List Int} (h5 : n ≤ 5) (lk : Okl n ls) (h8 : ls.length ≤ 8) (hl : lim.length = n) (hv : ∀ z ∈ lim, 0 ≤ z ∧ z ≤ 16) : ∃ x, ∀ T, reprP (.tup [natD n, .tup (ls.map linkD), tupD lim]) T = some x := by
  have a : Nc 2 25 100 ([] : Store) (.tup (ls.map linkD)) := (Nc.tup (ncl_links fun p hp => by have := lk p hp; omega)).up (Nat.le_refl _) (by omega) (Nat.le_refl _)
  have b : Nc 2 6 100 ([] : Store) (tupD lim) := (show Nc 1 (lim.length + 1) 100 ([] : Store) (.tup (lim.map D.int)) from Nc.tup (ncl_ints fun z hz => by have := hv z hz; omega)).up (by omega) (by omega) (Nat.le_refl _)
  have c : Nc 2 1 100 ([] : Store) (natD n) := (Nc.int (n := 0) (i := ((n : Nat) : Int)) (by omega)).up (by omega) (by omega) (Nat.le_refl _)
  obtain ⟨x, hx⟩ := (Nc.tup (NcL.cons c (NcL.cons a (NcL.cons (m' := 0) b NcL.nil)))).repr (by omega) (by omega) (by omega)
  exact ⟨x, fun T => hx T fun a o h => by cases h⟩
theorem ncl_of {n m b : Nat} {S : Store} : ∀ {ds : List D}, (∀ d ∈ ds, Nc n m b S d) → NcL n (m * ds.length) b S ds
  | [], _ => NcL.nil
  | d :: ds, h => by
    have z := ncl_of (ds := ds) fun j hj => h j (List.mem_cons_of_mem _ hj)
    have r := NcL.cons (h d List.mem_cons_self) z
    have e : m * (d :: ds).length = m + m * ds.length := by rw [List.length_cons, Nat.mul_add, Nat.mul_one, Nat.add_comm]
    rw [e]
    exact r
theorem mask_below2 {l m : Nat} (h : l ≤ m) (T : Store) : mask (below m) (mask (below l) T) = mask (below m) T := by
  unfold mask
  refine List.ext_getElem? fun i => ?_
  simp only [List.getElem?_mapIdx, Option.map_map]
  cases T[i]? with
  | none => rfl
  | some o =>
    show some (if below m i = true then O.xd [] else if below l i = true then O.xd [] else o) = some (if below m i = true then O.xd [] else o)
    by_cases h1 : below m i = true
    · rw [if_pos h1, if_pos h1]
    · rw [if_neg h1, if_neg h1, if_neg (fun h2 => h1 (by have := of_decide_eq_true h2; exact decide_eq_true (by omega)))]
/-- the list of things drawn shows itself alike, as long as what stands above stays -/
theorem rep_some {L : Nat} {ds : List D} {T : Store} (hL : T[L]? = some (.lst ds)) (hz : ds.length ≤ 3) (hv : ∀ d ∈ ds, Vb (L + 1) T d) : ∃ x, ∀ V, KpF (below L) T V → reprP (.ref L) V = some x := by
  have hn : ∀ d ∈ ds, Nc 3 8 100 (mask (below L) T) d := fun d hd => by
    have h : Nc 3 8 100 (mask (below (L + 1)) T) d := hv d hd
    rw [← mask_below2 (Nat.le_succ L)] at h
    exact h.un
  exact Nc.reprX (Nc.lst (mask_at (below_no (Nat.le_refl _)) hL) (ncl_of hn)) (by omega) (by omega) (by omega)
theorem wpO_ne2 {T : Store} {P : D → Store → Prop} {a : Str} {c : Bool} (h : P (.bl false) T) : wpO (gNe (.tup [.str a, .bl c]) (.tup [.str a, .bl c]) T) P := by
  refine wpO_of (d := .bl false) (T := T) ?_ h
  unfold gNe
  rw [eqP_same (ps := [.str a, .bool c]) rfl rfl rfl (by have e : (PyData.tuple [.str a, .bool c]).depth = (PyData.tuple [.str "", .bool true]).depth := rfl; rw [e]; decide) (by simp [PyData.eqv, PyData.eqvAll])]
  rfl
theorem okl_new {n : Nat} {ds : List D} {S : Store} (h : ∀ y ∈ ds, lkB n y S = true) : Okl n ((pairsV ds S).map normP) := fun q hq => by
  obtain ⟨r, hr, rfl⟩ := List.mem_map.mp hq
  unfold pairsV at hr
  obtain ⟨d, hd, rfl⟩ := List.mem_map.mp hr
  obtain ⟨_, h2, h3⟩ := lk_ends (h d hd)
  unfold normP
  dsimp only
  omega
/-- what a spoil leaves as it was -/
theorem net_spoil {S T : Store} {C : Addr} {N n q : Nat} {ls : List (Nat × Nat)} {cap : D} {ds : List D} (k : Sp ds S T) (hN : S[N]? = some (.ins C [("size", natD n), ("pairs", .ref q), ("caps", cap)])) (hq : S[q]? = some (.lst (ls.map linkD))) (hd : D.ref q ∉ ds) : T[N]? = some (.ins C [("size", natD n), ("pairs", .ref q), ("caps", cap)]) ∧ T[q]? = some (.lst (ls.map linkD)) :=
  ⟨k.k _ _ hN (fun xs e => nomatch e), k.k _ _ hq (fun _ _ => hd)⟩
theorem pen_spoil {S T : Store} {p c i : Nat} {ds : List D} (P : Pen p c i S) (k : Sp ds S T) (hd : D.ref c ∉ ds) : Pen p c i T := by
  obtain ⟨⟨ns, t, ρ, q1, q2, q⟩, ne⟩ := P
  exact ⟨⟨ns, t, ρ, k.k _ _ q1 (fun xs e => nomatch e), k.k _ _ q2 (fun _ _ => hd), q⟩, ne⟩
end Q


namespace Q
open PySem PySem.Spec PyProof.Rows L2
variable {ca : CA}
theorem NetAt.kxp {S T : Store} {C : Addr} {N n p : Nat} {ls : List (Nat × Nat)} {cap : List Int} (h : NetAt S C N n ls cap) (k : KpX p S T) (hp : p < N) : NetAt T C N n ls cap := h.up hp k
set_option maxHeartbeats 0 in
theorem law_wp (hca : CaOk ca) (ns : List Int) (hl : ns.length ≤ 63) (hb : ∀ z ∈ ns, Builtin.Int.intBits z ≤ 1048576) : wpE (M_law ca [.kl (ns.map D.int)] (tabS0 [(ca.lc__law_refused_right, ca.lP__law_refused_right, ("_law_refused_right" : Str) ++ ".<locals>." ++ "<lambda>"), (ca.lc__law_linked, ca.lP__law_linked, ("_law_linked" : Str) ++ ".<locals>." ++ "<lambda>")])) (fun d _ => d = .bl true) (fun _ _ _ => False) := by
  have hz : 5000 < sizeLine := by decide
  have hbig : 5000 < bigN := by unfold bigN; omega
  obtain ⟨s0, hs0⟩ : ∃ s0, s0 = D.kl (ns.map D.int) := ⟨_, rfl⟩
  refine wpE_def ?_
  unfold b_law
  generalize hS0 : tabS0 [(ca.lc__law_refused_right, ca.lP__law_refused_right, ("_law_refused_right" : Str) ++ ".<locals>." ++ "<lambda>"), (ca.lc__law_linked, ca.lP__law_linked, ("_law_linked" : Str) ++ ".<locals>." ++ "<lambda>")] = S0
  have t00 : S0[0]? = some (.tab ca.lP__law_refused_right (("_law_refused_right" : Str) ++ ".<locals>." ++ "<lambda>")) := by rw [← hS0]; rfl
  have t01 : S0[1]? = some (.tab ca.lP__law_linked (("_law_linked" : Str) ++ ".<locals>." ++ "<lambda>")) := by rw [← hS0]; rfl
  have hS0l : S0.length = 2 := by rw [← hS0]; rfl
  clear hS0
  obtain ⟨Tb, hTb⟩ : ∃ Tb : Store → Prop, Tb = fun U => U[0]? = some (.tab ca.lP__law_refused_right (("_law_refused_right" : Str) ++ ".<locals>." ++ "<lambda>")) ∧ U[1]? = some (.tab ca.lP__law_linked (("_law_linked" : Str) ++ ".<locals>." ++ "<lambda>")) := ⟨_, rfl⟩
  have tbOf : ∀ {U : Store}, Tb U → U[0]? = some (.tab ca.lP__law_refused_right (("_law_refused_right" : Str) ++ ".<locals>." ++ "<lambda>")) ∧ U[1]? = some (.tab ca.lP__law_linked (("_law_linked" : Str) ++ ".<locals>." ++ "<lambda>")) := fun h => by rw [hTb] at h; exact h
  have tbX : ∀ {U V : Store} {r : Nat}, Tb U → KpX r U V → 1 < r → Tb V := fun h k hr => by
    rw [hTb] at h ⊢
    exact ⟨k.k _ _ (by omega) h.1, k.k _ _ (by omega) h.2⟩
  have tbK : ∀ {U V : Store}, Tb U → Kp U V → Tb V := fun h k => by
    rw [hTb] at h ⊢
    exact ⟨k _ _ h.1, k _ _ h.2⟩
  have tbS : ∀ {U V : Store} {ds : List D}, Tb U → Sp ds U V → Tb V := fun h k => by
    rw [hTb] at h ⊢
    exact ⟨k.k _ _ h.1 (fun xs e => nomatch e), k.k _ _ h.2 (fun xs e => nomatch e)⟩
  have tb0 : Tb S0 := by rw [hTb]; exact ⟨t00, t01⟩
  clear hTb t00 t01
  repeat fail
  refine pen_sp hl hb fun p c T0 k0 lp lc P0 => ?_
  rw [← hs0]
  have tbT := tbK tb0 k0
  have p1 : 1 < p := by omega
  have c1 : 1 < c := by omega
  repeat fail
  refine wpO_len (d := s0) (xs := ns.map D.int) (by rw [hs0]; rfl) ?_
  rw [List.length_map]
  repeat fail
  refine wpO_min2 ?_
  repeat fail
  obtain ⟨R, hR, hR8⟩ : ∃ R : Nat, (2 + if ((ns.length : Nat) : Int) < 3 then ((ns.length : Nat) : Int) else 3) = ((R : Nat) : Int) ∧ R ≤ 5 := ⟨(2 + if ((ns.length : Nat) : Int) < 3 then ((ns.length : Nat) : Int) else 3).toNat, by split <;> omega, by split <;> omega⟩
  rw [hR]
  refine exR1N (by omega) ?_
  rw [Int.toNat_natCast]
  refine wp_forL ((List.range R).map fun k => D.int (k : Nat)) (fun i e U => (∃ x2 x3 x4 x5 x6 x7 x8 x9 x10 x11 x12 x13 : Option D, e = [some s0, some (.ref p), x2, x3, x4, x5, x6, x7, x8, x9, x10, x11, x12, x13]) ∧ Pen p c (3000 * i) U ∧ Tb U) (fun i e U _ => next_rng i U) (fun i z e U hz0 ⟨⟨x2, x3, x4, x5, x6, x7, x8, x9, x10, x11, x12, x13, he⟩, PU, tbU⟩ => ?_) (fun e U ⟨⟨x2, x3, x4, x5, x6, x7, x8, x9, x10, x11, x12, x13, he⟩, PU, tbU⟩ => ?_) R bigN 0 _ _ (by simp) (by omega) ⟨⟨_, _, _, _, _, _, _, _, _, _, _, _, rfl⟩, P0, tbT⟩
  rotate_left
  · subst he
    repeat fail
    rfl
  subst he
  have hi : i < R := by have := (List.getElem?_eq_some_iff.mp hz0).1; rw [List.length_map, List.length_range] at this; exact this
  rw [List.getElem?_map, List.getElem?_range hi] at hz0
  cases hz0
  refine ⟨_, rfl, ?_⟩
  try dsimp only [List.cons_append, List.nil_append, setsE, wipeD, List.set_cons_zero, List.set_cons_succ]
  repeat fail
  refine draw_sp PU (by omega) (by decide) (by decide) fun r T1 r0 r5 P1 x1 => ?_
  obtain ⟨n, hn, n1, n5⟩ : ∃ n : Nat, 1 + r = ((n : Nat) : Int) ∧ 1 ≤ n ∧ n ≤ 5 := ⟨(1 + r).toNat, by omega, by omega, by omega⟩
  repeat fail
  rw [hn]
  refine some_sp P1 (by omega) n1 n5 fun L ds T2 lds lL hL hvb P2 x2 => ?_
  have tb2 := tbX tbU (x1.trans x2) p1
  have l1 := P1.lt
  have l2 := P2.lt
  have LT := lt_of_at hL
  have hv2 : ∀ d ∈ ds, Vl p d T2 := fun d hd => (hvb d hd).vl (by omega)
  try dsimp only [List.cons_append, List.nil_append, setsE, wipeD, List.set_cons_zero, List.set_cons_succ]
  refine wpS_seqJ (fun e U => e = [some s0, some (.ref p), some (.int ((i : Nat) : Int)), some (.int ((n : Nat) : Int)), some (.ref L), x5, x6, x7, x8, x9, x10, x11, x12, x13] ∧ Pen p c (3000 * i + 1 + 20 + 20) U ∧ KpX p T2 U) ?_ fun e T3 ⟨he, P3, x3⟩ => ?_
  · repeat fail
    refine refright_sp hca (tbOf tb2).1 P2 (by omega) n1 n5 (by omega) hL lds (by omega) hv2 fun T3 P3 x3 => ?_
    repeat fail
    exact ⟨rfl, P3, x3⟩
  subst he
  have tb3 := tbX tb2 x3 p1
  have hL3 := x3.k _ _ (by omega) hL
  have hvb3 : ∀ d ∈ ds, Vb (L + 1) T3 d := fun d hd => (hvb d hd).kx x3 (by omega)
  have hv3 : ∀ d ∈ ds, Vl p d T3 := fun d hd => (hvb3 d hd).vl (by omega)
  have e3 := x3.len
  clear hv2 hvb hL x1 x2 x3 P1 P2 tbU tb2
  refine wpS_seqJ (fun e U => ∃ G gs, e = [some s0, some (.ref p), some (.int ((i : Nat) : Int)), some (.int ((n : Nat) : Int)), some (.ref G), some (tupD (List.replicate n 16)), x6, x7, x8, x9, x10, x11, x12, x13] ∧ Pen p c (3000 * i + 50) U ∧ Tb U ∧ U[G]? = some (.lst gs) ∧ gs.length ≤ 3 ∧ (∀ d ∈ gs, Vb (G + 1) U d) ∧ (∀ d ∈ gs, lkB n d U = true) ∧ p < G ∧ c < G) ?_ fun e T4 ⟨G, gs, he, P4, tb4, hG, lgs, hvg, hlk, pG, cG⟩ => ?_
  · repeat fail
    refine due_sp (p := p) (n := n) (as := []) (items_ref hL3) hv3 (by omega) (by simp) fun T4 k4 => ?_
    have e4 := k4.len
    cases hw : dueW ([] : List D).length n ds T3 with
    | none =>
      obtain ⟨hall, _⟩ := due_none hw
      repeat fail
      refine ⟨fun _ => ?_, (fun c => Bool.noConfusion (show true = false from c))⟩
      repeat fail
      refine wpO_mulT (k := n) (by simp) n1 (by omega) (by simp) ?_
      rw [e16]
      repeat fail
      exact ⟨L, ds, rfl, (P3.kp k4).le (by omega), tbK tb3 k4, k4 _ _ hL3, lds, (fun d hd => (hvb3 d hd).kf (Kp.f k4)), (fun d hd => by rw [vl_lkB (hv3 d hd) k4.x]; exact hall d hd), by omega, by omega⟩
    | some w =>
      repeat fail
      refine ⟨(fun c => Bool.noConfusion (show false = true from c)), fun _ => ?_⟩
      repeat fail
      intro G T5 k5 l5 hG
      repeat fail
      refine wpO_mulT (k := n) (by simp) n1 (by omega) (by simp) ?_
      rw [e16]
      repeat fail
      exact ⟨G, [], rfl, ((P3.kp k4).kp k5).le (by omega), tbK (tbK tb3 k4) k5, hG, by simp, (fun d hd => nomatch hd), (fun d hd => nomatch hd), by omega, by omega⟩
  subst he
  clear hvb3 hv3 hL3 P3 tb3
  have hvp : ∀ d ∈ gs, Vl p d T4 := fun d hd => (hvg d hd).vl (by omega)
  have lG := lt_of_at hG
  repeat fail
  refine ordered_sp (p := p) (n := n) (items_ref hG) hvp (by omega) hlk fun T5 k5 => ?_
  obtain ⟨ls0, hls0⟩ : ∃ ls0, ls0 = (pairsV gs T4).map normP := ⟨_, rfl⟩
  rw [← hls0]
  have lk0 : Okl n ls0 := by rw [hls0]; exact okl_new hlk
  have ll0 : ls0.length ≤ 3 := by rw [hls0]; unfold pairsV; rw [List.length_map, List.length_map]; exact lgs
  have hG5 := k5 _ _ hG
  have hv5 : ∀ d ∈ gs, Vl p d T5 := fun d hd => (hvp d hd).kx k5.x
  have hvg5 : ∀ d ∈ gs, Vb (G + 1) T5 d := fun d hd => (hvg d hd).kf (Kp.f k5)
  have hlk5 : ∀ d ∈ gs, lkB n d T5 = true := fun d hd => by rw [vl_lkB (hvp d hd) k5.x]; exact hlk d hd
  have hpv : (pairsV gs T5).map normP = ls0 := by
    rw [hls0]
    unfold pairsV
    refine congrArg (List.map normP) (List.map_congr_left fun d hd => ?_)
    unfold endsN
    rw [vl_items (hvp d hd) k5.x]
  have e5 := k5.len
  repeat fail
  refine wpE_make ?_
  repeat fail
  refine ninitV_sp (p := p) (B := T5) (n := n) (ds := gs) at_mid (Nat.le_refl _) Kp.app n1 n5 (fun V kV => items_ref (kV _ _ hG5)) hv5 (by omega) (fun w z hw hb _ _ _ _ _ => by rw [hlk5 z (List.mem_of_getElem? hw)] at hb; cases hb) (fun _ h9 _ _ _ _ => by omega) fun _ _ T6 k6 hN6 => ?_
  rw [hpv] at hN6
  obtain ⟨N, hNe⟩ : ∃ N, N = T5.length := ⟨_, rfl⟩
  rw [← hNe] at hN6 ⊢
  obtain ⟨q, hi6, hq6, hNq⟩ := hN6
  have hG6 := k6 _ _ hG5
  have tb6 := tbK (tbK tb4 k5) k6
  have P6 := (P4.kp k5).kp k6
  have hvg6 : ∀ d ∈ gs, Vb (G + 1) T6 d := fun d hd => (hvg5 d hd).kf (Kp.f k6)
  repeat fail
  refine ⟨rfl, ?_⟩
  repeat fail
  refine tyL hG6 ?_
  repeat fail
  refine wpO_app hG6 (by omega) ?_
  obtain ⟨T7, hT7⟩ : ∃ T7, T7 = T6.set G (.lst (gs ++ [.tup [.int 0, .int 0]])) := ⟨_, rfl⟩
  rw [← hT7]
  have x7 : KpX G T6 T7 := by rw [hT7]; exact KpX.set
  have hG7 : T7[G]? = some (.lst (gs ++ [.tup [.int 0, .int 0]])) := by rw [hT7]; exact List.getElem?_set_self (lt_of_at hG6)
  have P7 : Pen p c (3000 * i + 50) T7 := by rw [hT7]; exact P6.st (by omega) (by omega)
  have tb7 := tbX tb6 x7 (by omega)
  have hi7 := x7.k _ _ (by omega) hi6
  have hq7 := x7.k _ _ (by omega) hq6
  have hvg7 : ∀ d ∈ gs ++ [.tup [.int 0, .int 0]], Vb (G + 1) T7 d := fun d hd => by
    rcases List.mem_append.mp hd with hd | hd
    · exact (hvg6 d hd).kx x7 (by omega)
    · rw [List.mem_singleton.mp hd]
      exact (Nc.tup (n := 0) (NcL.cons (m' := 1) (Nc.int (by decide)) (NcL.cons (m' := 0) (Nc.int (by decide)) NcL.nil))).up (by decide) (by decide) (Nat.le_refl _)
  have hqn : D.ref q ∉ gs ++ [.tup [.int 0, .int 0]] := fun hd => by
    rcases List.mem_append.mp hd with hd | hd
    · obtain ⟨kd, hkd⟩ := vl_kind (hv5 _ hd)
      have hkd := hkd T5 (KpX.refl _ _)
      unfold kindD at hkd
      dsimp only at hkd
      rw [List.getElem?_eq_none (by omega)] at hkd
      cases hkd
    · exact nomatch List.mem_singleton.mp hd
  have hGn : D.ref G ∉ gs ++ [.tup [.int 0, .int 0]] := fun hd => by have := (hvg7 _ hd).ref; omega
  have hcn : D.ref c ∉ gs ++ [.tup [.int 0, .int 0]] := fun hd => by have := (hvg7 _ hd).ref; omega
  repeat fail
  refine spoil_sp (p := p) hG7 hGn (fun d hd => (hvg7 d hd).vl (by omega)) (by rw [List.length_append, List.length_singleton]; omega) fun T8 s8 => ?_
  have P8 := pen_spoil P7 s8 hcn
  have tb8 := tbS tb7 s8
  obtain ⟨hi8, hq8⟩ := net_spoil s8 hi7 hq7 hqn
  have hN8 : NetAt T8 ca.c_Network N n ls0 (List.replicate n 16) := ⟨q, hi8, hq8, hNq⟩
  have pN : p < N := by omega
  have cN : c < N := by omega
  clear hqn hGn hcn hvg7 hG7 x7 hT7 hvg6 hG6 hi6 hq6 hi7 hq7 P6 P7 tb6 tb7 hv5 hvg5 hlk5 hpv hG5 hvp hvg hlk P4 tb4 hG hi8 hq8
  repeat fail
  rw [show Int.toNat 8 = 8 from rfl]
  refine wp_forL ((List.range 8).map fun k => D.int (k : Nat)) (fun j e U => ∃ ls lim, (∃ x8 x9 x10 x11 x12 x13 : Option D, e = [some s0, some (.ref p), some (.int ((i : Nat) : Int)), some (.int ((n : Nat) : Int)), some (.ref G), some (tupD lim), some (.tup (ls.map linkD)), some (.ref N), x8, x9, x10, x11, x12, x13]) ∧ Pen p c (3000 * i + 100 + 100 * j) U ∧ Tb U ∧ NetAt U ca.c_Network N n ls lim ∧ Okl n ls ∧ ls.length ≤ 8 ∧ lim.length = n ∧ ∀ z ∈ lim, 0 ≤ z ∧ z ≤ 16) (fun j e U _ => next_rng j U) (fun j z e U hz1 ⟨ls, lim, ⟨x8, x9, x10, x11, x12, x13, he⟩, PU, tbU, hN, lk, l8, lln, h0⟩ => ?_) (fun e U ⟨ls, lim, ⟨x8, x9, x10, x11, x12, x13, he⟩, PU, tbU, hN, _⟩ => ?_) 8 bigN 0 _ _ (by simp) (by omega) ⟨ls0, List.replicate n 16, ⟨_, _, _, _, _, _, rfl⟩, P8.le (by omega), tb8, hN8, lk0, by omega, List.length_replicate, fun z hz => by rw [List.eq_of_mem_replicate hz]; decide⟩
  rotate_left
  · subst he
    repeat fail
    exact ⟨⟨_, _, _, _, _, _, _, _, _, _, _, _, rfl⟩, PU.le (by simp; omega), tbU⟩
  subst he
  have hj : j < 8 := by have := (List.getElem?_eq_some_iff.mp hz1).1; rw [List.length_map, List.length_range] at this; exact this
  rw [List.getElem?_map, List.getElem?_range hj] at hz1
  cases hz1
  clear hN8 tb8 P8 lk0 ll0 hls0
  refine ⟨_, rfl, ?_⟩
  try dsimp only [List.cons_append, List.nil_append, setsE, wipeD, List.set_cons_zero, List.set_cons_succ]
  obtain ⟨qq, hiU, hqU, hNqU⟩ := id hN
  have lqU := lt_of_at hqU
  have lU := PU.lt
  repeat fail
  refine some_sp PU (by omega) n1 n5 fun L1 ds1 V1 lds1 lL1 hL1 hv1 PV1 y1 => ?_
  have tbV1 := tbX tbU y1 p1
  have iV1 := y1.k _ _ (by omega) hiU
  have qV1 := y1.k _ _ (by omega) hqU
  have vq1 : ∀ d ∈ ds1, Vl qq d V1 := fun d hd => (hv1 d hd).vl (by omega)
  obtain ⟨x, hx⟩ := rep_some hL1 lds1 hv1
  obtain ⟨w, hw⟩ : ∃ w, w = dueW ls.length n ds1 V1 := ⟨_, rfl⟩
  clear hN hiU hqU tbU y1 PU
  try dsimp only [List.cons_append, List.nil_append, setsE, wipeD, List.set_cons_zero, List.set_cons_succ]
  refine wpS_seqJ (fun e V => e = [some s0, some (.ref p), some (.int ((i : Nat) : Int)), some (.int ((n : Nat) : Int)), some (.ref G), some (tupD lim), some (.tup (ls.map linkD)), some (.ref N), some (.int ((j : Nat) : Int)), some (.ref L1), some (.str x), some (dueD w), x12, x13] ∧ Kp V1 V) ?_ fun e V2 ⟨he, k2⟩ => ?_
  · repeat fail
    refine wpO_reprS (hx V1 (Kp.f (Kp.refl _))) ?_
    repeat fail
    refine due_sp (p := qq) (n := n) (as := ls.map linkD) (items_ref hL1) vq1 (by omega) (by rw [List.length_map]; omega) fun V2 k2 => ?_
    rw [List.length_map, ← hw]
    repeat fail
    exact ⟨rfl, k2⟩
  subst he
  obtain ⟨ls2, hls2⟩ : ∃ ls2, ls2 = if w = none then ls ++ (pairsV ds1 V1).map normP else ls := ⟨_, rfl⟩
  have lq1 : qq < L1 := by omega
  have vq2 : ∀ d ∈ ds1, Vl qq d V2 := fun d hd => (vq1 d hd).kx k2.x
  have hw2 : dueW ls.length n ds1 V2 = w := by rw [hw]; exact due_kx vq1 k2.x
  have hpv2 : pairsV ds1 V2 = pairsV ds1 V1 := List.map_congr_left fun d hd => by unfold endsN; rw [vl_items (vq1 d hd) k2.x]
  refine wpS_seqJ (fun e V => e = [some s0, some (.ref p), some (.int ((i : Nat) : Int)), some (.int ((n : Nat) : Int)), some (.ref G), some (tupD lim), some (.tup (ls.map linkD)), some (.ref N), some (.int ((j : Nat) : Int)), some (.ref L1), some (.str x), some (dueD w), x12, x13] ∧ KpX qq V2 V ∧ V[qq]? = some (.lst (ls2.map linkD))) ?_ fun e V3 ⟨he, k3, qV3⟩ => ?_
  · repeat fail
    refine linked_sp (p := qq) hca (tbOf (tbK tbV1 k2)).2 (k2 _ _ iV1) (k2 _ _ qV1) l8 (k2 _ _ hL1) vq2 lds1 (fun v hv W kW => ?_) (fun hno W xW hW => ?_)
    · rw [hw2] at hv
      rw [hv] at hls2 ⊢
      rw [if_neg (by simp)] at hls2
      subst hls2
      repeat fail
      refine wpO_neDue ?_
      repeat fail
      refine wpO_reprS (hx W ((k2.trans kW).x.f (below_p lq1))) ?_
      repeat fail
      exact ⟨rfl, kW.x, (k2.trans kW) _ _ qV1⟩
    · rw [hw2] at hno
      rw [hno] at hls2 ⊢
      rw [if_pos rfl] at hls2
      subst hls2
      rw [hpv2] at hW
      repeat fail
      refine wpO_neDue (w := none) ?_
      repeat fail
      refine wpO_reprS (hx W ((k2.x.trans xW).f (below_p lq1))) ?_
      repeat fail
      exact ⟨rfl, xW, hW⟩
  subst he
  have y13 : KpX qq V1 V3 := k2.x.trans k3
  have iV3 := y13.k _ _ (by omega) iV1
  have hL3 := y13.k _ _ (by omega) hL1
  have hv3 : ∀ d ∈ ds1, Vb (L1 + 1) V3 d := fun d hd => (hv1 d hd).kx y13 (by omega)
  have PV3 := PV1.kxN y13 (by omega) (by omega)
  have tbV3 := tbX tbV1 y13 (by omega)
  have e13 := y13.len
  have ok2 : Okl n ls2 ∧ ls2.length ≤ 8 := by
    rw [hls2]
    by_cases hwn : w = none
    · rw [if_pos hwn]
      obtain ⟨ha, h8⟩ := due_none (hw ▸ hwn)
      refine ⟨fun r hr => ?_, ?_⟩
      · rcases List.mem_append.mp hr with hr | hr
        · exact lk r hr
        · exact okl_new ha r hr
      · rw [List.length_append, List.length_map]
        unfold pairsV
        rw [List.length_map]
        omega
    · rw [if_neg hwn]
      exact ⟨lk, l8⟩
  obtain ⟨lk2, l82⟩ := ok2
  refine wpS_seqJ (fun e V => e = [some s0, some (.ref p), some (.int ((i : Nat) : Int)), some (.int ((n : Nat) : Int)), some (.ref G), some (tupD lim), some (.tup (ls2.map linkD)), some (.ref N), some (.int ((j : Nat) : Int)), some (.ref L1), some (.str x), some (dueD w), x12, x13] ∧ Kp V3 V) ?_ fun e V4 ⟨he, k4⟩ => ?_
  · cases w with
    | none =>
      rw [if_pos rfl] at hls2
      obtain ⟨ha, h8⟩ := due_none hw.symm
      repeat fail
      refine ⟨fun _ => ?_, (fun c => Bool.noConfusion (show true = false from c))⟩
      repeat fail
      refine ordered_sp (p := qq) (n := n) (items_ref hL3) (fun d hd => (vq1 d hd).kx y13) (by omega) (fun d hd => by rw [vl_lkB (vq1 d hd) y13]; exact ha d hd) fun V4 k4 => ?_
      rw [show pairsV ds1 V3 = pairsV ds1 V1 from List.map_congr_left fun d hd => by unfold endsN; rw [vl_items (vq1 d hd) y13]]
      repeat fail
      refine wpO_addT (by rw [List.length_map, List.length_map, List.length_map]; unfold pairsV; rw [List.length_map]; omega) ?_
      rw [← List.map_append, ← hls2]
      repeat fail
      exact ⟨rfl, k4⟩
    | some v =>
      rw [if_neg (by simp)] at hls2
      subst hls2
      repeat fail
      refine ⟨(fun c => Bool.noConfusion (show false = true from c)), fun _ => ?_⟩
      repeat fail
      exact ⟨rfl, Kp.refl _⟩
  subst he
  have hL4 := k4 _ _ hL3
  have hv4 : ∀ d ∈ ds1, Vb (L1 + 1) V4 d := fun d hd => (hv3 d hd).kf (Kp.f k4)
  have e4' := k4.len
  have nref : ∀ {r : Nat}, r ≤ L1 → D.ref r ∉ ds1 := fun hr hd => by have := (hv4 _ hd).ref; omega
  repeat fail
  refine spoil_sp (p := qq) hL4 (nref (Nat.le_refl _)) (fun d hd => (hv4 d hd).vl (by omega)) (by omega) fun V5 s5 => ?_
  obtain ⟨iV5, qV5⟩ := net_spoil s5 (k4 _ _ iV3) (k4 _ _ qV3) (nref (by omega))
  have PV5 := pen_spoil (PV3.kp k4) s5 (nref (by omega))
  have tbV5 := tbS (tbK tbV3 k4) s5
  have hN5 : NetAt V5 ca.c_Network N n ls2 lim := ⟨qq, iV5, qV5, hNqU⟩
  clear hL4 hv4 nref hL3 hv3 hx hw2 hpv2 vq2 vq1 hL1 hv1 iV1 qV1 iV3 qV3 PV1 PV3 tbV1 tbV3
  repeat fail
  refine limitsL_sp PV5 (by omega) n1 n5 fun d V6 hd6 P6 x6 => ?_
  have l5 := PV5.lt
  have tb6 := tbX tbV5 x6 p1
  have hN6 := hN5.kxp x6 (by omega)
  have vd6 := hd6.vl l5.1
  obtain ⟨t, ht⟩ := vl_repr vd6
  repeat fail
  refine islim_sp (n := n) vd6 fun V7 k7 => ?_
  have vd7 := vd6.kx k7.x
  have hN7 := hN6.kp k7
  have P7 := P6.kp k7
  have tb7 := tbK tb6 k7
  try dsimp only [List.cons_append, List.nil_append, setsE, wipeD, List.set_cons_zero, List.set_cons_succ]
  refine wpS_seqJ (fun e V => ∃ lim2, e = [some s0, some (.ref p), some (.int ((i : Nat) : Int)), some (.int ((n : Nat) : Int)), some (.ref G), some (tupD lim), some (.tup (ls2.map linkD)), some (.ref N), some (.int ((j : Nat) : Int)), some (.ref L1), some (.str x), some (dueD w), some d, some (.bl (limB n d))] ∧ NetAt V ca.c_Network N n ls2 lim2 ∧ KpX N V7 V ∧ (limB n d = false → lim2 = lim) ∧ (limB n d = true → d = tupD lim2) ∧ lim2.length = n ∧ ∀ z ∈ lim2, 0 ≤ z ∧ z ≤ 16) ?_ fun e V8 ⟨lim2, he, hN8, x8', hf, ht8, ll2, h02⟩ => ?_
  · repeat fail
    refine limited_sp (p := p) hN7 n1 n5 vd7 (fun V kV => ht V (k7.trans kV).x) (fun hb V kV => ?_) (fun lm hd hl2 hlm V xV hV => ?_)
    · rw [hb]
      repeat fail
      refine wpO_reprS (ht V (k7.trans kV).x) ?_
      repeat fail
      refine wpO_ne2 ?_
      repeat fail
      exact ⟨lim, rfl, hN7.kp kV, kV.x, fun _ => rfl, (fun c => Bool.noConfusion c), lln, h0⟩
    · have hb : limB n d = true := by
        rw [hd, lim_vec, decide_eq_true hl2, Bool.true_and, List.all_eq_true]
        intro z hz
        have := hlm z hz
        rw [decide_eq_true this.1, decide_eq_true this.2]
        rfl
      rw [hb]
      repeat fail
      first | refine ⟨false, rfl, (fun c => Bool.noConfusion c), fun _ => ?_⟩ | refine wpO_neDue (w := none) ?_
      repeat fail
      exact ⟨lm, rfl, hV, xV, (fun c => Bool.noConfusion c), fun _ => hd, hl2, hlm⟩
  subst he
  have P8 := P7.kxN x8' (by omega) (by omega)
  have tb8 := tbX tb7 x8' (by omega)
  refine wpS_seqJ (fun e V => e = [some s0, some (.ref p), some (.int ((i : Nat) : Int)), some (.int ((n : Nat) : Int)), some (.ref G), some (tupD lim2), some (.tup (ls2.map linkD)), some (.ref N), some (.int ((j : Nat) : Int)), some (.ref L1), some (.str x), some (dueD w), some d, some (.bl (limB n d))] ∧ Kp V8 V) ?_ fun e V9 ⟨he, k9⟩ => ?_
  · cases hbb : limB n d with
    | false =>
      have := hf hbb
      subst this
      repeat fail
      exact ⟨rfl, Kp.refl _⟩
    | true =>
      have hd := ht8 hbb
      subst hd
      repeat fail
      exact ⟨rfl, Kp.refl _⟩
  subst he
  have hN9 := hN8.kp k9
  obtain ⟨q9, i9, l9, _⟩ := id hN9
  obtain ⟨y, hy⟩ := rep_net n5 lk2 l82 ll2 h02
  refine wpS_seqJ (fun e V => e = [some s0, some (.ref p), some (.int ((i : Nat) : Int)), some (.int ((n : Nat) : Int)), some (.ref G), some (tupD lim2), some (.tup (ls2.map linkD)), some (.ref N), some (.int ((j : Nat) : Int)), some (.ref L1), some (.str x), some (dueD w), some d, some (.bl (limB n d))] ∧ Kp V9 V) ?_ fun e V10 ⟨he, k10⟩ => ?_
  · repeat fail
    refine wpE_prop ?_
    repeat fail
    refine ⟨N, _, _, rfl, i9, by simp, ?_⟩
    refine nodes_sp i9 ?_
    repeat fail
    refine wpE_prop ?_
    repeat fail
    refine ⟨N, _, _, rfl, i9, by simp, ?_⟩
    refine links_sp i9 l9 ?_
    repeat fail
    refine wpE_prop ?_
    repeat fail
    refine ⟨N, _, _, rfl, i9, by simp, ?_⟩
    refine limits_get_sp i9 ?_
    repeat fail
    refine wpO_reprS (hy _) ?_
    repeat fail
    refine wpO_reprS (hy _) ?_
    repeat fail
    exact ⟨rfl, Kp.refl _⟩
  subst he
  repeat fail
  refine eqright_sp (hN9.kp k10) n1 n5 lk2 l82 ll2 h02 fun V11 k11 => ?_
  have k811 := k9.trans (k10.trans k11)
  repeat fail
  exact ⟨ls2, lim2, ⟨_, _, _, _, _, _, rfl⟩, (P8.kp k811).le (by omega), tbK tb8 k811, hN8.kp k811, lk2, l82, ll2, h02⟩
theorem law_true (ca : CA) (hca : CaOk ca) (ns : List Int) (hl : ns.length ≤ 63) (hb : ∀ z ∈ ns, Builtin.Int.intBits z ≤ 1048576) : ∃ S', M_law ca [.kl (ns.map D.int)] (tabS0 [(ca.lc__law_refused_right, ca.lP__law_refused_right, ("_law_refused_right" : Str) ++ ".<locals>." ++ "<lambda>"), (ca.lc__law_linked, ca.lP__law_linked, ("_law_linked" : Str) ++ ".<locals>." ++ "<lambda>")]) = .ok (.bl true) S' := by
  obtain ⟨a, T, h, e⟩ := wpE_ex (law_wp (ca := ca) hca ns hl hb)
  subst e
  exact ⟨T, h⟩
end Q

namespace Q
open PySem PySem.Spec PyProof.Rows L2
theorem all_mk {P : Program} {w : World} {K : PySem.W.Frag} {h : Heap} {mg : Str → Option Value} {fa : Addr} (X : K.In h) (G : h.Ns mainGlobals mg) (hfa : mg "law" = some (.ref fa))
  {cc_Network : Addr} (a_Network : PySem.W.nsIn K mainGlobals "Network" = some (some (.ref cc_Network)))
  (w1_Network : PySem.W.plainGet K cc_Network Str.empty = true)
  (w2_Network : PySem.W.hasDictIn K cc_Network = true)
  (w3_Network : PySem.W.plainOver K cc_Network = true)
  (w4_Network : PySem.W.findIn K (.ref cc_Network) "__setattr__" = some (some (.builtin "object.__setattr__")))
  (w5_Network : PySem.W.findIn K (.ref cc_Network) "__class__" = some (some (.builtin "object.__class__")))
  (w6_Network : PySem.W.mroIn K cc_Network (.type "object") = some true)
  (w7_Network : PySem.W.makesIn K cc_Network = true)
  (w8_Network : PySem.W.keepIn K (.ref cc_Network) = true)
  (v0_Network : PySem.W.mroIn K cc_Network (.type "int") = some false)
  (v1_Network : PySem.W.mroIn K cc_Network (.type "bool") = some false)
  (v2_Network : PySem.W.mroIn K cc_Network (.type "tuple") = some false)
  (v3_Network : PySem.W.mroIn K cc_Network (.type "list") = some false)
  (v4_Network : PySem.W.mroIn K cc_Network (.type "str") = some false)
  (v5_Network : PySem.W.mroIn K cc_Network (.type "dict") = some false)
  (y1_Network : PySem.W.typeIn K (.ref cc_Network) = some (.type "type"))
  (y2_Network : PySem.W.findIn K (.ref cc_Network) "__ne__" = some (some (.builtin "object.__ne__")))
  (na_Network_caps : PySem.W.findIn K (.ref cc_Network) "caps" = some none)
  (na_Network_pairs : PySem.W.findIn K (.ref cc_Network) "pairs" = some none)
  (na_Network_size : PySem.W.findIn K (.ref cc_Network) "size" = some none)
  {f__law_pen : Addr} {oc__law_pen kV__law_pen dc__law_pen pm__law_pen cd__law_pen ct__law_pen : Value} {od__law_pen an__law_pen : Option Addr} {sl__law_pen : Array (Option Value)}
  (a__law_pen : PySem.W.nsIn K mainGlobals "_law_pen" = some (some (.ref f__law_pen)))
  (l__law_pen : K.lookup f__law_pen = some ⟨oc__law_pen, od__law_pen, .func (PySem.W.fnOf "_law_pen" "_law_pen" (defArgs s__law_pen) (defBody s__law_pen) (defScope s__law_pen) .none kV__law_pen dc__law_pen pm__law_pen an__law_pen cd__law_pen ct__law_pen), sl__law_pen⟩)
  (c__law_pen : PySem.W.codeIn K cd__law_pen "_law_pen" = true) (k__law_pen : PySem.W.keepIn K (.ref f__law_pen) = true)
  {f__law_draw : Addr} {oc__law_draw kV__law_draw dc__law_draw pm__law_draw cd__law_draw ct__law_draw : Value} {od__law_draw an__law_draw : Option Addr} {sl__law_draw : Array (Option Value)}
  (a__law_draw : PySem.W.nsIn K mainGlobals "_law_draw" = some (some (.ref f__law_draw)))
  (l__law_draw : K.lookup f__law_draw = some ⟨oc__law_draw, od__law_draw, .func (PySem.W.fnOf "_law_draw" "_law_draw" (defArgs s__law_draw) (defBody s__law_draw) (defScope s__law_draw) .none kV__law_draw dc__law_draw pm__law_draw an__law_draw cd__law_draw ct__law_draw), sl__law_draw⟩)
  (c__law_draw : PySem.W.codeIn K cd__law_draw "_law_draw" = true) (k__law_draw : PySem.W.keepIn K (.ref f__law_draw) = true)
  {f__law_pick : Addr} {oc__law_pick kV__law_pick dc__law_pick pm__law_pick cd__law_pick ct__law_pick : Value} {od__law_pick an__law_pick : Option Addr} {sl__law_pick : Array (Option Value)}
  (a__law_pick : PySem.W.nsIn K mainGlobals "_law_pick" = some (some (.ref f__law_pick)))
  (l__law_pick : K.lookup f__law_pick = some ⟨oc__law_pick, od__law_pick, .func (PySem.W.fnOf "_law_pick" "_law_pick" (defArgs s__law_pick) (defBody s__law_pick) (defScope s__law_pick) .none kV__law_pick dc__law_pick pm__law_pick an__law_pick cd__law_pick ct__law_pick), sl__law_pick⟩)
  (c__law_pick : PySem.W.codeIn K cd__law_pick "_law_pick" = true) (k__law_pick : PySem.W.keepIn K (.ref f__law_pick) = true)
  {f__law_odd : Addr} {oc__law_odd kV__law_odd dc__law_odd pm__law_odd cd__law_odd ct__law_odd : Value} {od__law_odd an__law_odd : Option Addr} {sl__law_odd : Array (Option Value)}
  (a__law_odd : PySem.W.nsIn K mainGlobals "_law_odd" = some (some (.ref f__law_odd)))
  (l__law_odd : K.lookup f__law_odd = some ⟨oc__law_odd, od__law_odd, .func (PySem.W.fnOf "_law_odd" "_law_odd" (defArgs s__law_odd) (defBody s__law_odd) (defScope s__law_odd) .none kV__law_odd dc__law_odd pm__law_odd an__law_odd cd__law_odd ct__law_odd), sl__law_odd⟩)
  (c__law_odd : PySem.W.codeIn K cd__law_odd "_law_odd" = true) (k__law_odd : PySem.W.keepIn K (.ref f__law_odd) = true)
  {f__law_some : Addr} {oc__law_some kV__law_some dc__law_some pm__law_some cd__law_some ct__law_some : Value} {od__law_some an__law_some : Option Addr} {sl__law_some : Array (Option Value)}
  (a__law_some : PySem.W.nsIn K mainGlobals "_law_some" = some (some (.ref f__law_some)))
  (l__law_some : K.lookup f__law_some = some ⟨oc__law_some, od__law_some, .func (PySem.W.fnOf "_law_some" "_law_some" (defArgs s__law_some) (defBody s__law_some) (defScope s__law_some) .none kV__law_some dc__law_some pm__law_some an__law_some cd__law_some ct__law_some), sl__law_some⟩)
  (c__law_some : PySem.W.codeIn K cd__law_some "_law_some" = true) (k__law_some : PySem.W.keepIn K (.ref f__law_some) = true)
  {f__law_is_node : Addr} {oc__law_is_node kV__law_is_node dc__law_is_node pm__law_is_node cd__law_is_node ct__law_is_node : Value} {od__law_is_node an__law_is_node : Option Addr} {sl__law_is_node : Array (Option Value)}
  (a__law_is_node : PySem.W.nsIn K mainGlobals "_law_is_node" = some (some (.ref f__law_is_node)))
  (l__law_is_node : K.lookup f__law_is_node = some ⟨oc__law_is_node, od__law_is_node, .func (PySem.W.fnOf "_law_is_node" "_law_is_node" (defArgs s__law_is_node) (defBody s__law_is_node) (defScope s__law_is_node) .none kV__law_is_node dc__law_is_node pm__law_is_node an__law_is_node cd__law_is_node ct__law_is_node), sl__law_is_node⟩)
  (c__law_is_node : PySem.W.codeIn K cd__law_is_node "_law_is_node" = true) (k__law_is_node : PySem.W.keepIn K (.ref f__law_is_node) = true)
  {f__law_refused : Addr} {oc__law_refused kV__law_refused dc__law_refused pm__law_refused cd__law_refused ct__law_refused : Value} {od__law_refused an__law_refused : Option Addr} {sl__law_refused : Array (Option Value)}
  (a__law_refused : PySem.W.nsIn K mainGlobals "_law_refused" = some (some (.ref f__law_refused)))
  (l__law_refused : K.lookup f__law_refused = some ⟨oc__law_refused, od__law_refused, .func (PySem.W.fnOf "_law_refused" "_law_refused" (defArgs s__law_refused) (defBody s__law_refused) (defScope s__law_refused) .none kV__law_refused dc__law_refused pm__law_refused an__law_refused cd__law_refused ct__law_refused), sl__law_refused⟩)
  (c__law_refused : PySem.W.codeIn K cd__law_refused "_law_refused" = true) (k__law_refused : PySem.W.keepIn K (.ref f__law_refused) = true)
  {f_is_integer : Addr} {oc_is_integer kV_is_integer dc_is_integer pm_is_integer cd_is_integer ct_is_integer : Value} {od_is_integer an_is_integer : Option Addr} {sl_is_integer : Array (Option Value)}
  (a_is_integer : PySem.W.nsIn K mainGlobals "is_integer" = some (some (.ref f_is_integer)))
  (l_is_integer : K.lookup f_is_integer = some ⟨oc_is_integer, od_is_integer, .func (PySem.W.fnOf "is_integer" "is_integer" (defArgs s_is_integer) (defBody s_is_integer) (defScope s_is_integer) .none kV_is_integer dc_is_integer pm_is_integer an_is_integer cd_is_integer ct_is_integer), sl_is_integer⟩)
  (c_is_integer : PySem.W.codeIn K cd_is_integer "is_integer" = true) (k_is_integer : PySem.W.keepIn K (.ref f_is_integer) = true)
  {f_is_between : Addr} {oc_is_between kV_is_between dc_is_between pm_is_between cd_is_between ct_is_between : Value} {od_is_between an_is_between : Option Addr} {sl_is_between : Array (Option Value)}
  (a_is_between : PySem.W.nsIn K mainGlobals "is_between" = some (some (.ref f_is_between)))
  (l_is_between : K.lookup f_is_between = some ⟨oc_is_between, od_is_between, .func (PySem.W.fnOf "is_between" "is_between" (defArgs s_is_between) (defBody s_is_between) (defScope s_is_between) .none kV_is_between dc_is_between pm_is_between an_is_between cd_is_between ct_is_between), sl_is_between⟩)
  (c_is_between : PySem.W.codeIn K cd_is_between "is_between" = true) (k_is_between : PySem.W.keepIn K (.ref f_is_between) = true)
  {f_is_list : Addr} {oc_is_list kV_is_list dc_is_list pm_is_list cd_is_list ct_is_list : Value} {od_is_list an_is_list : Option Addr} {sl_is_list : Array (Option Value)}
  (a_is_list : PySem.W.nsIn K mainGlobals "is_list" = some (some (.ref f_is_list)))
  (l_is_list : K.lookup f_is_list = some ⟨oc_is_list, od_is_list, .func (PySem.W.fnOf "is_list" "is_list" (defArgs s_is_list) (defBody s_is_list) (defScope s_is_list) .none kV_is_list dc_is_list pm_is_list an_is_list cd_is_list ct_is_list), sl_is_list⟩)
  (c_is_list : PySem.W.codeIn K cd_is_list "is_list" = true) (k_is_list : PySem.W.keepIn K (.ref f_is_list) = true)
  {f_Network_is_link : Addr} {oc_Network_is_link kV_Network_is_link dc_Network_is_link pm_Network_is_link cd_Network_is_link ct_Network_is_link : Value} {od_Network_is_link an_Network_is_link : Option Addr} {sl_Network_is_link : Array (Option Value)}
  (a_Network_is_link : PySem.W.findIn K (.ref cc_Network) "is_link" = some (some (.ref f_Network_is_link))) (tf_Network_is_link : PySem.W.typeIn K (.ref f_Network_is_link) = some (.type "function"))
  (l_Network_is_link : K.lookup f_Network_is_link = some ⟨oc_Network_is_link, od_Network_is_link, .func (PySem.W.fnOf "is_link" "Network.is_link" (defArgs s_Network_is_link) (defBody s_Network_is_link) (defScope s_Network_is_link) .none kV_Network_is_link dc_Network_is_link pm_Network_is_link an_Network_is_link cd_Network_is_link ct_Network_is_link), sl_Network_is_link⟩)
  (c_Network_is_link : PySem.W.codeIn K cd_Network_is_link "Network.is_link" = true) (k_Network_is_link : PySem.W.keepIn K (.ref f_Network_is_link) = true)
  {f_Network_link : Addr} {oc_Network_link kV_Network_link dc_Network_link pm_Network_link cd_Network_link ct_Network_link : Value} {od_Network_link an_Network_link : Option Addr} {sl_Network_link : Array (Option Value)}
  (a_Network_link : PySem.W.findIn K (.ref cc_Network) "link" = some (some (.ref f_Network_link))) (tf_Network_link : PySem.W.typeIn K (.ref f_Network_link) = some (.type "function"))
  (l_Network_link : K.lookup f_Network_link = some ⟨oc_Network_link, od_Network_link, .func (PySem.W.fnOf "link" "Network.link" (defArgs s_Network_link) (defBody s_Network_link) (defScope s_Network_link) .none kV_Network_link dc_Network_link pm_Network_link an_Network_link cd_Network_link ct_Network_link), sl_Network_link⟩)
  (c_Network_link : PySem.W.codeIn K cd_Network_link "Network.link" = true) (k_Network_link : PySem.W.keepIn K (.ref f_Network_link) = true)
  (bg_Network_link : PySem.W.specialIn K (.ref f_Network_link) "__get__" = some (some (.builtin "function.__get__"))) (bt_Network_link : PySem.W.takesIn K (.ref f_Network_link) = some false) (bf_Network_link : PySem.W.fnIn K f_Network_link = true)
  {f_Network___init__ : Addr} {oc_Network___init__ kV_Network___init__ dc_Network___init__ pm_Network___init__ cd_Network___init__ ct_Network___init__ : Value} {od_Network___init__ an_Network___init__ : Option Addr} {sl_Network___init__ : Array (Option Value)} {dt_Network___init__ : Addr} {ot_Network___init__ : Obj} {dn_Network___init__ : Nat} {dv_Network___init__ : Addr}
  (a_Network___init__ : PySem.W.findIn K (.ref cc_Network) "__init__" = some (some (.ref f_Network___init__))) (tf_Network___init__ : PySem.W.typeIn K (.ref f_Network___init__) = some (.type "function"))
  (l_Network___init__ : K.lookup f_Network___init__ = some ⟨oc_Network___init__, od_Network___init__, .func (PySem.W.fnOf "__init__" "Network.__init__" (defArgs s_Network___init__) (defBody s_Network___init__) (defScope s_Network___init__) (.ref dt_Network___init__) kV_Network___init__ dc_Network___init__ pm_Network___init__ an_Network___init__ cd_Network___init__ ct_Network___init__), sl_Network___init__⟩)
  (c_Network___init__ : PySem.W.codeIn K cd_Network___init__ "Network.__init__" = true) (k_Network___init__ : PySem.W.keepIn K (.ref f_Network___init__) = true)
  (t_Network___init__ : K.lookup dt_Network___init__ = some ot_Network___init__) (e_Network___init__ : ot_Network___init__.data = .seq #[.ref dv_Network___init__] dn_Network___init__)
  {do_Network___init__ : Obj} {dm_Network___init__ : Nat} (dk_Network___init__ : K.lookup dv_Network___init__ = some do_Network___init__) (dc_Network___init__ : do_Network___init__.cls = .type "tuple") (dd_Network___init__ : do_Network___init__.data = .seq #[] dm_Network___init__)
  {f__law_is_link : Addr} {oc__law_is_link kV__law_is_link dc__law_is_link pm__law_is_link cd__law_is_link ct__law_is_link : Value} {od__law_is_link an__law_is_link : Option Addr} {sl__law_is_link : Array (Option Value)}
  (a__law_is_link : PySem.W.nsIn K mainGlobals "_law_is_link" = some (some (.ref f__law_is_link)))
  (l__law_is_link : K.lookup f__law_is_link = some ⟨oc__law_is_link, od__law_is_link, .func (PySem.W.fnOf "_law_is_link" "_law_is_link" (defArgs s__law_is_link) (defBody s__law_is_link) (defScope s__law_is_link) .none kV__law_is_link dc__law_is_link pm__law_is_link an__law_is_link cd__law_is_link ct__law_is_link), sl__law_is_link⟩)
  (c__law_is_link : PySem.W.codeIn K cd__law_is_link "_law_is_link" = true) (k__law_is_link : PySem.W.keepIn K (.ref f__law_is_link) = true)
  {f__law_due : Addr} {oc__law_due kV__law_due dc__law_due pm__law_due cd__law_due ct__law_due : Value} {od__law_due an__law_due : Option Addr} {sl__law_due : Array (Option Value)}
  (a__law_due : PySem.W.nsIn K mainGlobals "_law_due" = some (some (.ref f__law_due)))
  (l__law_due : K.lookup f__law_due = some ⟨oc__law_due, od__law_due, .func (PySem.W.fnOf "_law_due" "_law_due" (defArgs s__law_due) (defBody s__law_due) (defScope s__law_due) .none kV__law_due dc__law_due pm__law_due an__law_due cd__law_due ct__law_due), sl__law_due⟩)
  (c__law_due : PySem.W.codeIn K cd__law_due "_law_due" = true) (k__law_due : PySem.W.keepIn K (.ref f__law_due) = true)
  {lc__law_refused_right lP__law_refused_right : Addr}
  {f__law_refused_right : Addr} {oc__law_refused_right kV__law_refused_right dc__law_refused_right pm__law_refused_right ct__law_refused_right : Value} {od__law_refused_right an__law_refused_right : Option Addr} {sl__law_refused_right : Array (Option Value)}
  (a__law_refused_right : PySem.W.nsIn K mainGlobals "_law_refused_right" = some (some (.ref f__law_refused_right)))
  (l__law_refused_right : K.lookup f__law_refused_right = some ⟨oc__law_refused_right, od__law_refused_right, .func (PySem.W.fnOf "_law_refused_right" "_law_refused_right" (defArgs s__law_refused_right) (defBody s__law_refused_right) (defScope s__law_refused_right) .none kV__law_refused_right dc__law_refused_right pm__law_refused_right an__law_refused_right (.ref lc__law_refused_right) ct__law_refused_right), sl__law_refused_right⟩)
  (c__law_refused_right : PySem.W.codeIn K (.ref lc__law_refused_right) "_law_refused_right" = true) (k__law_refused_right : PySem.W.keepIn K (.ref f__law_refused_right) = true)
  (q__law_refused_right : h.get? lP__law_refused_right = some { cls := .none, data := .fields #[] }) (u__law_refused_right : PySem.W.codeHdIn K lc__law_refused_right lP__law_refused_right = true) (r__law_refused_right : K.lookup lP__law_refused_right = none)
  {f__law_ordered : Addr} {oc__law_ordered kV__law_ordered dc__law_ordered pm__law_ordered cd__law_ordered ct__law_ordered : Value} {od__law_ordered an__law_ordered : Option Addr} {sl__law_ordered : Array (Option Value)}
  (a__law_ordered : PySem.W.nsIn K mainGlobals "_law_ordered" = some (some (.ref f__law_ordered)))
  (l__law_ordered : K.lookup f__law_ordered = some ⟨oc__law_ordered, od__law_ordered, .func (PySem.W.fnOf "_law_ordered" "_law_ordered" (defArgs s__law_ordered) (defBody s__law_ordered) (defScope s__law_ordered) .none kV__law_ordered dc__law_ordered pm__law_ordered an__law_ordered cd__law_ordered ct__law_ordered), sl__law_ordered⟩)
  (c__law_ordered : PySem.W.codeIn K cd__law_ordered "_law_ordered" = true) (k__law_ordered : PySem.W.keepIn K (.ref f__law_ordered) = true)
  {f__law_spoil : Addr} {oc__law_spoil kV__law_spoil dc__law_spoil pm__law_spoil cd__law_spoil ct__law_spoil : Value} {od__law_spoil an__law_spoil : Option Addr} {sl__law_spoil : Array (Option Value)}
  (a__law_spoil : PySem.W.nsIn K mainGlobals "_law_spoil" = some (some (.ref f__law_spoil)))
  (l__law_spoil : K.lookup f__law_spoil = some ⟨oc__law_spoil, od__law_spoil, .func (PySem.W.fnOf "_law_spoil" "_law_spoil" (defArgs s__law_spoil) (defBody s__law_spoil) (defScope s__law_spoil) .none kV__law_spoil dc__law_spoil pm__law_spoil an__law_spoil cd__law_spoil ct__law_spoil), sl__law_spoil⟩)
  (c__law_spoil : PySem.W.codeIn K cd__law_spoil "_law_spoil" = true) (k__law_spoil : PySem.W.keepIn K (.ref f__law_spoil) = true)
  {lc__law_linked lP__law_linked : Addr}
  {f__law_linked : Addr} {oc__law_linked kV__law_linked dc__law_linked pm__law_linked ct__law_linked : Value} {od__law_linked an__law_linked : Option Addr} {sl__law_linked : Array (Option Value)}
  (a__law_linked : PySem.W.nsIn K mainGlobals "_law_linked" = some (some (.ref f__law_linked)))
  (l__law_linked : K.lookup f__law_linked = some ⟨oc__law_linked, od__law_linked, .func (PySem.W.fnOf "_law_linked" "_law_linked" (defArgs s__law_linked) (defBody s__law_linked) (defScope s__law_linked) .none kV__law_linked dc__law_linked pm__law_linked an__law_linked (.ref lc__law_linked) ct__law_linked), sl__law_linked⟩)
  (c__law_linked : PySem.W.codeIn K (.ref lc__law_linked) "_law_linked" = true) (k__law_linked : PySem.W.keepIn K (.ref f__law_linked) = true)
  (q__law_linked : h.get? lP__law_linked = some { cls := .none, data := .fields #[] }) (u__law_linked : PySem.W.codeHdIn K lc__law_linked lP__law_linked = true) (r__law_linked : K.lookup lP__law_linked = none)
  {f__law_limits : Addr} {oc__law_limits kV__law_limits dc__law_limits pm__law_limits cd__law_limits ct__law_limits : Value} {od__law_limits an__law_limits : Option Addr} {sl__law_limits : Array (Option Value)}
  (a__law_limits : PySem.W.nsIn K mainGlobals "_law_limits" = some (some (.ref f__law_limits)))
  (l__law_limits : K.lookup f__law_limits = some ⟨oc__law_limits, od__law_limits, .func (PySem.W.fnOf "_law_limits" "_law_limits" (defArgs s__law_limits) (defBody s__law_limits) (defScope s__law_limits) .none kV__law_limits dc__law_limits pm__law_limits an__law_limits cd__law_limits ct__law_limits), sl__law_limits⟩)
  (c__law_limits : PySem.W.codeIn K cd__law_limits "_law_limits" = true) (k__law_limits : PySem.W.keepIn K (.ref f__law_limits) = true)
  {f__law_is_limits : Addr} {oc__law_is_limits kV__law_is_limits dc__law_is_limits pm__law_is_limits cd__law_is_limits ct__law_is_limits : Value} {od__law_is_limits an__law_is_limits : Option Addr} {sl__law_is_limits : Array (Option Value)}
  (a__law_is_limits : PySem.W.nsIn K mainGlobals "_law_is_limits" = some (some (.ref f__law_is_limits)))
  (l__law_is_limits : K.lookup f__law_is_limits = some ⟨oc__law_is_limits, od__law_is_limits, .func (PySem.W.fnOf "_law_is_limits" "_law_is_limits" (defArgs s__law_is_limits) (defBody s__law_is_limits) (defScope s__law_is_limits) .none kV__law_is_limits dc__law_is_limits pm__law_is_limits an__law_is_limits cd__law_is_limits ct__law_is_limits), sl__law_is_limits⟩)
  (c__law_is_limits : PySem.W.codeIn K cd__law_is_limits "_law_is_limits" = true) (k__law_is_limits : PySem.W.keepIn K (.ref f__law_is_limits) = true)
  {f_fits_vector : Addr} {oc_fits_vector kV_fits_vector dc_fits_vector pm_fits_vector cd_fits_vector ct_fits_vector : Value} {od_fits_vector an_fits_vector : Option Addr} {sl_fits_vector : Array (Option Value)}
  (a_fits_vector : PySem.W.nsIn K mainGlobals "fits_vector" = some (some (.ref f_fits_vector)))
  (l_fits_vector : K.lookup f_fits_vector = some ⟨oc_fits_vector, od_fits_vector, .func (PySem.W.fnOf "fits_vector" "fits_vector" (defArgs s_fits_vector) (defBody s_fits_vector) (defScope s_fits_vector) .none kV_fits_vector dc_fits_vector pm_fits_vector an_fits_vector cd_fits_vector ct_fits_vector), sl_fits_vector⟩)
  (c_fits_vector : PySem.W.codeIn K cd_fits_vector "fits_vector" = true) (k_fits_vector : PySem.W.keepIn K (.ref f_fits_vector) = true)
  {f_Network_limits_set : Addr} {oc_Network_limits_set kV_Network_limits_set dc_Network_limits_set pm_Network_limits_set cd_Network_limits_set ct_Network_limits_set : Value} {od_Network_limits_set an_Network_limits_set : Option Addr} {sl_Network_limits_set : Array (Option Value)}
  {prs_Network_limits_set : Addr} {gs_Network_limits_set : Value} {rs_Network_limits_set : List Value} (a_Network_limits_set : PySem.W.takerIn K cc_Network "limits" = some (some (.ref prs_Network_limits_set))) (ps_Network_limits_set : PySem.W.typeIn K (.ref prs_Network_limits_set) = some (.type "property")) (py_Network_limits_set : PySem.W.recIn K prs_Network_limits_set "property" = some (gs_Network_limits_set :: .ref f_Network_limits_set :: rs_Network_limits_set))
  (l_Network_limits_set : K.lookup f_Network_limits_set = some ⟨oc_Network_limits_set, od_Network_limits_set, .func (PySem.W.fnOf "limits" "Network.limits" (defArgs s_Network_limits_set) (defBody s_Network_limits_set) (defScope s_Network_limits_set) .none kV_Network_limits_set dc_Network_limits_set pm_Network_limits_set an_Network_limits_set cd_Network_limits_set ct_Network_limits_set), sl_Network_limits_set⟩)
  (c_Network_limits_set : PySem.W.codeIn K cd_Network_limits_set "Network.limits" = true) (k_Network_limits_set : PySem.W.keepIn K (.ref f_Network_limits_set) = true)
  {f_Network_limit_to : Addr} {oc_Network_limit_to kV_Network_limit_to dc_Network_limit_to pm_Network_limit_to cd_Network_limit_to ct_Network_limit_to : Value} {od_Network_limit_to an_Network_limit_to : Option Addr} {sl_Network_limit_to : Array (Option Value)}
  (a_Network_limit_to : PySem.W.findIn K (.ref cc_Network) "limit_to" = some (some (.ref f_Network_limit_to))) (tf_Network_limit_to : PySem.W.typeIn K (.ref f_Network_limit_to) = some (.type "function"))
  (l_Network_limit_to : K.lookup f_Network_limit_to = some ⟨oc_Network_limit_to, od_Network_limit_to, .func (PySem.W.fnOf "limit_to" "Network.limit_to" (defArgs s_Network_limit_to) (defBody s_Network_limit_to) (defScope s_Network_limit_to) .none kV_Network_limit_to dc_Network_limit_to pm_Network_limit_to an_Network_limit_to cd_Network_limit_to ct_Network_limit_to), sl_Network_limit_to⟩)
  (c_Network_limit_to : PySem.W.codeIn K cd_Network_limit_to "Network.limit_to" = true) (k_Network_limit_to : PySem.W.keepIn K (.ref f_Network_limit_to) = true)
  {f__law_limited : Addr} {oc__law_limited kV__law_limited dc__law_limited pm__law_limited cd__law_limited ct__law_limited : Value} {od__law_limited an__law_limited : Option Addr} {sl__law_limited : Array (Option Value)}
  (a__law_limited : PySem.W.nsIn K mainGlobals "_law_limited" = some (some (.ref f__law_limited)))
  (l__law_limited : K.lookup f__law_limited = some ⟨oc__law_limited, od__law_limited, .func (PySem.W.fnOf "_law_limited" "_law_limited" (defArgs s__law_limited) (defBody s__law_limited) (defScope s__law_limited) .none kV__law_limited dc__law_limited pm__law_limited an__law_limited cd__law_limited ct__law_limited), sl__law_limited⟩)
  (c__law_limited : PySem.W.codeIn K cd__law_limited "_law_limited" = true) (k__law_limited : PySem.W.keepIn K (.ref f__law_limited) = true)
  {f_Network_limits : Addr} {oc_Network_limits kV_Network_limits dc_Network_limits pm_Network_limits cd_Network_limits ct_Network_limits : Value} {od_Network_limits an_Network_limits : Option Addr} {sl_Network_limits : Array (Option Value)}
  {pr_Network_limits : Addr} {rs_Network_limits : List Value} (a_Network_limits : PySem.W.findIn K (.ref cc_Network) "limits" = some (some (.ref pr_Network_limits))) (pg_Network_limits : PySem.W.specialIn K (.ref pr_Network_limits) "__get__" = some (some (.builtin "property.__get__"))) (pt_Network_limits : PySem.W.takesIn K (.ref pr_Network_limits) = some true) (py_Network_limits : PySem.W.recIn K pr_Network_limits "property" = some (.ref f_Network_limits :: rs_Network_limits))
  (l_Network_limits : K.lookup f_Network_limits = some ⟨oc_Network_limits, od_Network_limits, .func (PySem.W.fnOf "limits" "Network.limits" (defArgs s_Network_limits) (defBody s_Network_limits) (defScope s_Network_limits) .none kV_Network_limits dc_Network_limits pm_Network_limits an_Network_limits cd_Network_limits ct_Network_limits), sl_Network_limits⟩)
  (c_Network_limits : PySem.W.codeIn K cd_Network_limits "Network.limits" = true) (k_Network_limits : PySem.W.keepIn K (.ref f_Network_limits) = true)
  {f_Network_links : Addr} {oc_Network_links kV_Network_links dc_Network_links pm_Network_links cd_Network_links ct_Network_links : Value} {od_Network_links an_Network_links : Option Addr} {sl_Network_links : Array (Option Value)}
  {pr_Network_links : Addr} {rs_Network_links : List Value} (a_Network_links : PySem.W.findIn K (.ref cc_Network) "links" = some (some (.ref pr_Network_links))) (pg_Network_links : PySem.W.specialIn K (.ref pr_Network_links) "__get__" = some (some (.builtin "property.__get__"))) (pt_Network_links : PySem.W.takesIn K (.ref pr_Network_links) = some true) (py_Network_links : PySem.W.recIn K pr_Network_links "property" = some (.ref f_Network_links :: rs_Network_links))
  (l_Network_links : K.lookup f_Network_links = some ⟨oc_Network_links, od_Network_links, .func (PySem.W.fnOf "links" "Network.links" (defArgs s_Network_links) (defBody s_Network_links) (defScope s_Network_links) .none kV_Network_links dc_Network_links pm_Network_links an_Network_links cd_Network_links ct_Network_links), sl_Network_links⟩)
  (c_Network_links : PySem.W.codeIn K cd_Network_links "Network.links" = true) (k_Network_links : PySem.W.keepIn K (.ref f_Network_links) = true)
  {f_Network_nodes : Addr} {oc_Network_nodes kV_Network_nodes dc_Network_nodes pm_Network_nodes cd_Network_nodes ct_Network_nodes : Value} {od_Network_nodes an_Network_nodes : Option Addr} {sl_Network_nodes : Array (Option Value)}
  {pr_Network_nodes : Addr} {rs_Network_nodes : List Value} (a_Network_nodes : PySem.W.findIn K (.ref cc_Network) "nodes" = some (some (.ref pr_Network_nodes))) (pg_Network_nodes : PySem.W.specialIn K (.ref pr_Network_nodes) "__get__" = some (some (.builtin "property.__get__"))) (pt_Network_nodes : PySem.W.takesIn K (.ref pr_Network_nodes) = some true) (py_Network_nodes : PySem.W.recIn K pr_Network_nodes "property" = some (.ref f_Network_nodes :: rs_Network_nodes))
  (l_Network_nodes : K.lookup f_Network_nodes = some ⟨oc_Network_nodes, od_Network_nodes, .func (PySem.W.fnOf "nodes" "Network.nodes" (defArgs s_Network_nodes) (defBody s_Network_nodes) (defScope s_Network_nodes) .none kV_Network_nodes dc_Network_nodes pm_Network_nodes an_Network_nodes cd_Network_nodes ct_Network_nodes), sl_Network_nodes⟩)
  (c_Network_nodes : PySem.W.codeIn K cd_Network_nodes "Network.nodes" = true) (k_Network_nodes : PySem.W.keepIn K (.ref f_Network_nodes) = true)
  {f_Network___eq__ : Addr} {oc_Network___eq__ kV_Network___eq__ dc_Network___eq__ pm_Network___eq__ cd_Network___eq__ ct_Network___eq__ : Value} {od_Network___eq__ an_Network___eq__ : Option Addr} {sl_Network___eq__ : Array (Option Value)}
  (a_Network___eq__ : PySem.W.findIn K (.ref cc_Network) "__eq__" = some (some (.ref f_Network___eq__))) (tf_Network___eq__ : PySem.W.typeIn K (.ref f_Network___eq__) = some (.type "function"))
  (l_Network___eq__ : K.lookup f_Network___eq__ = some ⟨oc_Network___eq__, od_Network___eq__, .func (PySem.W.fnOf "__eq__" "Network.__eq__" (defArgs s_Network___eq__) (defBody s_Network___eq__) (defScope s_Network___eq__) .none kV_Network___eq__ dc_Network___eq__ pm_Network___eq__ an_Network___eq__ cd_Network___eq__ ct_Network___eq__), sl_Network___eq__⟩)
  (c_Network___eq__ : PySem.W.codeIn K cd_Network___eq__ "Network.__eq__" = true) (k_Network___eq__ : PySem.W.keepIn K (.ref f_Network___eq__) = true)
  {f__law_equal_right : Addr} {oc__law_equal_right kV__law_equal_right dc__law_equal_right pm__law_equal_right cd__law_equal_right ct__law_equal_right : Value} {od__law_equal_right an__law_equal_right : Option Addr} {sl__law_equal_right : Array (Option Value)}
  (a__law_equal_right : PySem.W.nsIn K mainGlobals "_law_equal_right" = some (some (.ref f__law_equal_right)))
  (l__law_equal_right : K.lookup f__law_equal_right = some ⟨oc__law_equal_right, od__law_equal_right, .func (PySem.W.fnOf "_law_equal_right" "_law_equal_right" (defArgs s__law_equal_right) (defBody s__law_equal_right) (defScope s__law_equal_right) .none kV__law_equal_right dc__law_equal_right pm__law_equal_right an__law_equal_right cd__law_equal_right ct__law_equal_right), sl__law_equal_right⟩)
  (c__law_equal_right : PySem.W.codeIn K cd__law_equal_right "_law_equal_right" = true) (k__law_equal_right : PySem.W.keepIn K (.ref f__law_equal_right) = true)
  {f_law : Addr} {oc_law kV_law dc_law pm_law cd_law ct_law : Value} {od_law an_law : Option Addr} {sl_law : Array (Option Value)}
  (a_law : PySem.W.nsIn K mainGlobals "law" = some (some (.ref f_law)))
  (l_law : K.lookup f_law = some ⟨oc_law, od_law, .func (PySem.W.fnOf "law" "law" (defArgs s_law) (defBody s_law) (defScope s_law) .none kV_law dc_law pm_law an_law cd_law ct_law), sl_law⟩)
  (c_law : PySem.W.codeIn K cd_law "law" = true) (k_law : PySem.W.keepIn K (.ref f_law) = true)
  (av_Network_Network___eq__ : PySem.W.findIn K (.ref cc_Network) "__eq__" = some (some (.ref f_Network___eq__)))
  (av_Network_Network___init__ : PySem.W.findIn K (.ref cc_Network) "__init__" = some (some (.ref f_Network___init__)))
  (av_Network_Network_is_link : PySem.W.findIn K (.ref cc_Network) "is_link" = some (some (.ref f_Network_is_link)))
  (av_Network_Network_limit_to : PySem.W.findIn K (.ref cc_Network) "limit_to" = some (some (.ref f_Network_limit_to)))
  (av_Network_Network_limits : PySem.W.findIn K (.ref cc_Network) "limits" = some (some (.ref pr_Network_limits)))
  (av_Network_Network_link : PySem.W.findIn K (.ref cc_Network) "link" = some (some (.ref f_Network_link)))
  (av_Network_Network_links : PySem.W.findIn K (.ref cc_Network) "links" = some (some (.ref pr_Network_links)))
  (av_Network_Network_nodes : PySem.W.findIn K (.ref cc_Network) "nodes" = some (some (.ref pr_Network_nodes)))
  {itk_Network_MAX_LIMIT : Tok} (ica_Network_MAX_LIMIT : PySem.W.findIn K (.ref cc_Network) "MAX_LIMIT" = some (some (.int 16 itk_Network_MAX_LIMIT))) (icg_Network_MAX_LIMIT : PySem.W.specialIn K (.int 16 itk_Network_MAX_LIMIT) "__get__" = some none)
  {itk_Network_MAX_LINKS : Tok} (ica_Network_MAX_LINKS : PySem.W.findIn K (.ref cc_Network) "MAX_LINKS" = some (some (.int 8 itk_Network_MAX_LINKS))) (icg_Network_MAX_LINKS : PySem.W.specialIn K (.int 8 itk_Network_MAX_LINKS) "__get__" = some none)
  {itk_Network_MAX_NODES : Tok} (ica_Network_MAX_NODES : PySem.W.findIn K (.ref cc_Network) "MAX_NODES" = some (some (.int 5 itk_Network_MAX_NODES))) (icg_Network_MAX_NODES : PySem.W.specialIn K (.int 5 itk_Network_MAX_NODES) "__get__" = some none)
  {t_MAX_DIMENSION : Tok} (z_MAX_DIMENSION : PySem.W.nsIn K mainGlobals "MAX_DIMENSION" = some (some (.int 5 t_MAX_DIMENSION)))
  {t_MAX_ENTRY : Tok} (z_MAX_ENTRY : PySem.W.nsIn K mainGlobals "MAX_ENTRY" = some (some (.int 1000 t_MAX_ENTRY)))
  (z_ValueError : PySem.W.nsIn K mainGlobals "ValueError" = some none)
  (z_abs : PySem.W.nsIn K mainGlobals "abs" = some none)
  (z_all : PySem.W.nsIn K mainGlobals "all" = some none)
  (z_bool : PySem.W.nsIn K mainGlobals "bool" = some none)
  (z_enumerate : PySem.W.nsIn K mainGlobals "enumerate" = some none)
  (z_int : PySem.W.nsIn K mainGlobals "int" = some none)
  (z_isinstance : PySem.W.nsIn K mainGlobals "isinstance" = some none)
  (z_len : PySem.W.nsIn K mainGlobals "len" = some none)
  (z_list : PySem.W.nsIn K mainGlobals "list" = some none)
  (z_max : PySem.W.nsIn K mainGlobals "max" = some none)
  (z_min : PySem.W.nsIn K mainGlobals "min" = some none)
  (z_range : PySem.W.nsIn K mainGlobals "range" = some none)
  (z_repr : PySem.W.nsIn K mainGlobals "repr" = some none)
  (z_str : PySem.W.nsIn K mainGlobals "str" = some none)
  (z_tuple : PySem.W.nsIn K mainGlobals "tuple" = some none)
  {cc_InvalidLinks NN_InvalidLinks : Addr} {q_InvalidLinks : Str} {bs_InvalidLinks sub_InvalidLinks : List Value} {sn_InvalidLinks : List Str} {ab_InvalidLinks : Bool} {col_InvalidLinks : Option Bool} {dd_InvalidLinks : Option Addr} {x0_InvalidLinks x1_InvalidLinks x2_InvalidLinks x3_InvalidLinks x5_InvalidLinks : Option Value}
  (a_InvalidLinks : PySem.W.nsIn K mainGlobals "InvalidLinks" = some (some (.ref cc_InvalidLinks)))
  (l_InvalidLinks : K.lookup cc_InvalidLinks = some (excClassObj "InvalidLinks" q_InvalidLinks cc_InvalidLinks NN_InvalidLinks bs_InvalidLinks [.type "ValueError", .type "Exception", .type "BaseException", .type "object"] true sn_InvalidLinks sub_InvalidLinks ab_InvalidLinks col_InvalidLinks dd_InvalidLinks x0_InvalidLinks x1_InvalidLinks x2_InvalidLinks x3_InvalidLinks x5_InvalidLinks "ValueError.__new__"))
  (p1_InvalidLinks : PySem.W.findIn K (.ref cc_InvalidLinks) "__setattr__" = some (some (.builtin "object.__setattr__")))
  (p2_InvalidLinks : PySem.W.subIn K (.ref cc_InvalidLinks) (.type "BaseException") = some true)
  (p3_InvalidLinks : PySem.W.typeIn K (.ref cc_InvalidLinks) = some (.type "type"))
  (p4_InvalidLinks : PySem.W.keepIn K (.ref cc_InvalidLinks) = true)
  (p5_InvalidLinks : PySem.W.findIn K (.ref cc_InvalidLinks) "__getattribute__" = some (some (.builtin "BaseException.__getattribute__")))
  (p6_InvalidLinks : PySem.W.findIn K (.ref cc_InvalidLinks) "__getattr__" = some none)
  (p7_InvalidLinks : PySem.W.findIn K (.ref cc_InvalidLinks) "__class__" = some (some (.builtin "object.__class__")))
  {ii_InvalidLinks : Addr} {ioc_InvalidLinks ikV_InvalidLinks idc_InvalidLinks ipm_InvalidLinks icd_InvalidLinks ict_InvalidLinks : Value} {iod_InvalidLinks ian_InvalidLinks : Option Addr} {isl_InvalidLinks : Array (Option Value)}
  (iC_InvalidLinks : PySem.W.findIn K (.ref cc_InvalidLinks) "__init__" = some (some (.ref ii_InvalidLinks)))
  (il_InvalidLinks : K.lookup ii_InvalidLinks = some ⟨ioc_InvalidLinks, iod_InvalidLinks, .func (PySem.W.fnOf "__init__" "InvalidLinks.__init__" (defArgs si_InvalidLinks) (defBody si_InvalidLinks) (defScope si_InvalidLinks) .none ikV_InvalidLinks idc_InvalidLinks ipm_InvalidLinks ian_InvalidLinks icd_InvalidLinks ict_InvalidLinks), isl_InvalidLinks⟩)
  (ic_InvalidLinks : PySem.W.codeIn K icd_InvalidLinks "InvalidLinks.__init__" = true) (ik_InvalidLinks : PySem.W.keepIn K (.ref ii_InvalidLinks) = true) (tI_InvalidLinks : PySem.W.typeIn K (.ref ii_InvalidLinks) = some (.type "function"))
  {cc_InvalidIndex NN_InvalidIndex : Addr} {q_InvalidIndex : Str} {bs_InvalidIndex sub_InvalidIndex : List Value} {sn_InvalidIndex : List Str} {ab_InvalidIndex : Bool} {col_InvalidIndex : Option Bool} {dd_InvalidIndex : Option Addr} {x0_InvalidIndex x1_InvalidIndex x2_InvalidIndex x3_InvalidIndex x5_InvalidIndex : Option Value}
  (a_InvalidIndex : PySem.W.nsIn K mainGlobals "InvalidIndex" = some (some (.ref cc_InvalidIndex)))
  (l_InvalidIndex : K.lookup cc_InvalidIndex = some (excClassObj "InvalidIndex" q_InvalidIndex cc_InvalidIndex NN_InvalidIndex bs_InvalidIndex [.type "ValueError", .type "Exception", .type "BaseException", .type "object"] true sn_InvalidIndex sub_InvalidIndex ab_InvalidIndex col_InvalidIndex dd_InvalidIndex x0_InvalidIndex x1_InvalidIndex x2_InvalidIndex x3_InvalidIndex x5_InvalidIndex "ValueError.__new__"))
  (p1_InvalidIndex : PySem.W.findIn K (.ref cc_InvalidIndex) "__setattr__" = some (some (.builtin "object.__setattr__")))
  (p2_InvalidIndex : PySem.W.subIn K (.ref cc_InvalidIndex) (.type "BaseException") = some true)
  (p3_InvalidIndex : PySem.W.typeIn K (.ref cc_InvalidIndex) = some (.type "type"))
  (p4_InvalidIndex : PySem.W.keepIn K (.ref cc_InvalidIndex) = true)
  (p5_InvalidIndex : PySem.W.findIn K (.ref cc_InvalidIndex) "__getattribute__" = some (some (.builtin "BaseException.__getattribute__")))
  (p6_InvalidIndex : PySem.W.findIn K (.ref cc_InvalidIndex) "__getattr__" = some none)
  (p7_InvalidIndex : PySem.W.findIn K (.ref cc_InvalidIndex) "__class__" = some (some (.builtin "object.__class__")))
  {ii_InvalidIndex : Addr} {ioc_InvalidIndex ikV_InvalidIndex idc_InvalidIndex ipm_InvalidIndex icd_InvalidIndex ict_InvalidIndex : Value} {iod_InvalidIndex ian_InvalidIndex : Option Addr} {isl_InvalidIndex : Array (Option Value)}
  (iC_InvalidIndex : PySem.W.findIn K (.ref cc_InvalidIndex) "__init__" = some (some (.ref ii_InvalidIndex)))
  (il_InvalidIndex : K.lookup ii_InvalidIndex = some ⟨ioc_InvalidIndex, iod_InvalidIndex, .func (PySem.W.fnOf "__init__" "InvalidIndex.__init__" (defArgs si_InvalidIndex) (defBody si_InvalidIndex) (defScope si_InvalidIndex) .none ikV_InvalidIndex idc_InvalidIndex ipm_InvalidIndex ian_InvalidIndex icd_InvalidIndex ict_InvalidIndex), isl_InvalidIndex⟩)
  (ic_InvalidIndex : PySem.W.codeIn K icd_InvalidIndex "InvalidIndex.__init__" = true) (ik_InvalidIndex : PySem.W.keepIn K (.ref ii_InvalidIndex) = true) (tI_InvalidIndex : PySem.W.typeIn K (.ref ii_InvalidIndex) = some (.type "function"))
  {cc_InvalidVector NN_InvalidVector : Addr} {q_InvalidVector : Str} {bs_InvalidVector sub_InvalidVector : List Value} {sn_InvalidVector : List Str} {ab_InvalidVector : Bool} {col_InvalidVector : Option Bool} {dd_InvalidVector : Option Addr} {x0_InvalidVector x1_InvalidVector x2_InvalidVector x3_InvalidVector x5_InvalidVector : Option Value}
  (a_InvalidVector : PySem.W.nsIn K mainGlobals "InvalidVector" = some (some (.ref cc_InvalidVector)))
  (l_InvalidVector : K.lookup cc_InvalidVector = some (excClassObj "InvalidVector" q_InvalidVector cc_InvalidVector NN_InvalidVector bs_InvalidVector [.type "ValueError", .type "Exception", .type "BaseException", .type "object"] true sn_InvalidVector sub_InvalidVector ab_InvalidVector col_InvalidVector dd_InvalidVector x0_InvalidVector x1_InvalidVector x2_InvalidVector x3_InvalidVector x5_InvalidVector "ValueError.__new__"))
  (p1_InvalidVector : PySem.W.findIn K (.ref cc_InvalidVector) "__setattr__" = some (some (.builtin "object.__setattr__")))
  (p2_InvalidVector : PySem.W.subIn K (.ref cc_InvalidVector) (.type "BaseException") = some true)
  (p3_InvalidVector : PySem.W.typeIn K (.ref cc_InvalidVector) = some (.type "type"))
  (p4_InvalidVector : PySem.W.keepIn K (.ref cc_InvalidVector) = true)
  (p5_InvalidVector : PySem.W.findIn K (.ref cc_InvalidVector) "__getattribute__" = some (some (.builtin "BaseException.__getattribute__")))
  (p6_InvalidVector : PySem.W.findIn K (.ref cc_InvalidVector) "__getattr__" = some none)
  (p7_InvalidVector : PySem.W.findIn K (.ref cc_InvalidVector) "__class__" = some (some (.builtin "object.__class__")))
  {ii_InvalidVector : Addr} {ioc_InvalidVector ikV_InvalidVector idc_InvalidVector ipm_InvalidVector icd_InvalidVector ict_InvalidVector : Value} {iod_InvalidVector ian_InvalidVector : Option Addr} {isl_InvalidVector : Array (Option Value)}
  (iC_InvalidVector : PySem.W.findIn K (.ref cc_InvalidVector) "__init__" = some (some (.ref ii_InvalidVector)))
  (il_InvalidVector : K.lookup ii_InvalidVector = some ⟨ioc_InvalidVector, iod_InvalidVector, .func (PySem.W.fnOf "__init__" "InvalidVector.__init__" (defArgs si_InvalidVector) (defBody si_InvalidVector) (defScope si_InvalidVector) .none ikV_InvalidVector idc_InvalidVector ipm_InvalidVector ian_InvalidVector icd_InvalidVector ict_InvalidVector), isl_InvalidVector⟩)
  (ic_InvalidVector : PySem.W.codeIn K icd_InvalidVector "InvalidVector.__init__" = true) (ik_InvalidVector : PySem.W.keepIn K (.ref ii_InvalidVector) = true) (tI_InvalidVector : PySem.W.typeIn K (.ref ii_InvalidVector) = some (.type "function"))
  (cn_ : PySem.W.specialIn K (.builtin "object.__class__") "__get__" = some (some (.builtin "getset_descriptor.__get__"))) (ct_ : PySem.W.takesIn K (.builtin "object.__class__") = some true)
  (vV_ValueError : PySem.W.findCls K (.type "ValueError") (.type "type") "__init__" = some (.val (.builtin "ValueError.__init__")))
  (no_InvalidIndex_value : PySem.W.findIn K (.ref cc_InvalidIndex) "value" = some none)
  (no_InvalidLinks_index : PySem.W.findIn K (.ref cc_InvalidLinks) "index" = some none)
  (no_InvalidVector_value : PySem.W.findIn K (.ref cc_InvalidVector) "value" = some none)
  (nd_ : [lP__law_refused_right, lP__law_linked].Nodup)
  : ∃ (K : PySem.W.Frag) (fd : FuncData) (M : MF) (ts : List (Addr × Addr × Str)), K.In h ∧ (∀ t ∈ ts, h.get? t.2.1 = some { cls := .none, data := .fields #[] }) ∧ (∀ t ∈ ts, K.lookup t.2.1 = none) ∧ (∀ t ∈ ts, PySem.W.CodeHd h t.1 t.2.1) ∧ (ts.map (·.2.1)).Nodup ∧ (∀ (s : Shared) (u : Value), BindsTo s fd ⟨[u], []⟩ [("_law_script", u)]) ∧ (∀ ns : List Int, ns.length ≤ 63 → (∀ z ∈ ns, Builtin.Int.intBits z ≤ 1048576) → ∃ S', M [.kl (ns.map D.int)] (tabS0 ts) = .ok (.bl true) S') ∧ ∀ base : Heap, K.In base → base.Ns mainGlobals mg → (∀ t ∈ ts, LamX.TabB base mg t.1 t.2.1) → FnM P w K mg base 10 fa fd ["_law_script"] M := by
  have F__law_pen := funD_mk (x := "_law_pen") (qual := "_law_pen") (st := s__law_pen) l__law_pen c__law_pen k__law_pen dfl0
  have F__law_draw := funD_mk (x := "_law_draw") (qual := "_law_draw") (st := s__law_draw) l__law_draw c__law_draw k__law_draw dfl0
  have F__law_pick := funD_mk (x := "_law_pick") (qual := "_law_pick") (st := s__law_pick) l__law_pick c__law_pick k__law_pick dfl0
  have F__law_odd := funD_mk (x := "_law_odd") (qual := "_law_odd") (st := s__law_odd) l__law_odd c__law_odd k__law_odd dfl0
  have F__law_some := funD_mk (x := "_law_some") (qual := "_law_some") (st := s__law_some) l__law_some c__law_some k__law_some dfl0
  have F__law_is_node := funD_mk (x := "_law_is_node") (qual := "_law_is_node") (st := s__law_is_node) l__law_is_node c__law_is_node k__law_is_node dfl0
  have F__law_refused := funD_mk (x := "_law_refused") (qual := "_law_refused") (st := s__law_refused) l__law_refused c__law_refused k__law_refused dfl0
  have F_is_integer := funD_mk (x := "is_integer") (qual := "is_integer") (st := s_is_integer) l_is_integer c_is_integer k_is_integer dfl0
  have F_is_between := funD_mk (x := "is_between") (qual := "is_between") (st := s_is_between) l_is_between c_is_between k_is_between dfl0
  have F_is_list := funD_mk (x := "is_list") (qual := "is_list") (st := s_is_list) l_is_list c_is_list k_is_list dfl0
  have F_Network_is_link := funD_mk (x := "is_link") (qual := "Network.is_link") (st := s_Network_is_link) l_Network_is_link c_Network_is_link k_Network_is_link dfl0
  have F_Network_link := funD_mk (x := "link") (qual := "Network.link") (st := s_Network_link) l_Network_link c_Network_link k_Network_link dfl0
  have F_Network___init__ := funD_mk (x := "__init__") (qual := "Network.__init__") (st := s_Network___init__) l_Network___init__ c_Network___init__ k_Network___init__ (dfl1 (dvs := [.ref dv_Network___init__]) (its := [.ref dv_Network___init__]) (by simp) t_Network___init__ e_Network___init__ (.cons rfl .nil))
  have F__law_is_link := funD_mk (x := "_law_is_link") (qual := "_law_is_link") (st := s__law_is_link) l__law_is_link c__law_is_link k__law_is_link dfl0
  have F__law_due := funD_mk (x := "_law_due") (qual := "_law_due") (st := s__law_due) l__law_due c__law_due k__law_due dfl0
  have F__law_refused_right := funD_mk (x := "_law_refused_right") (qual := "_law_refused_right") (st := s__law_refused_right) l__law_refused_right c__law_refused_right k__law_refused_right dfl0
  have F__law_ordered := funD_mk (x := "_law_ordered") (qual := "_law_ordered") (st := s__law_ordered) l__law_ordered c__law_ordered k__law_ordered dfl0
  have F__law_spoil := funD_mk (x := "_law_spoil") (qual := "_law_spoil") (st := s__law_spoil) l__law_spoil c__law_spoil k__law_spoil dfl0
  have F__law_linked := funD_mk (x := "_law_linked") (qual := "_law_linked") (st := s__law_linked) l__law_linked c__law_linked k__law_linked dfl0
  have F__law_limits := funD_mk (x := "_law_limits") (qual := "_law_limits") (st := s__law_limits) l__law_limits c__law_limits k__law_limits dfl0
  have F__law_is_limits := funD_mk (x := "_law_is_limits") (qual := "_law_is_limits") (st := s__law_is_limits) l__law_is_limits c__law_is_limits k__law_is_limits dfl0
  have F_fits_vector := funD_mk (x := "fits_vector") (qual := "fits_vector") (st := s_fits_vector) l_fits_vector c_fits_vector k_fits_vector dfl0
  have F_Network_limits_set := funD_mk (x := "limits") (qual := "Network.limits") (st := s_Network_limits_set) l_Network_limits_set c_Network_limits_set k_Network_limits_set dfl0
  have F_Network_limit_to := funD_mk (x := "limit_to") (qual := "Network.limit_to") (st := s_Network_limit_to) l_Network_limit_to c_Network_limit_to k_Network_limit_to dfl0
  have F__law_limited := funD_mk (x := "_law_limited") (qual := "_law_limited") (st := s__law_limited) l__law_limited c__law_limited k__law_limited dfl0
  have F_Network_limits := funD_mk (x := "limits") (qual := "Network.limits") (st := s_Network_limits) l_Network_limits c_Network_limits k_Network_limits dfl0
  have F_Network_links := funD_mk (x := "links") (qual := "Network.links") (st := s_Network_links) l_Network_links c_Network_links k_Network_links dfl0
  have F_Network_nodes := funD_mk (x := "nodes") (qual := "Network.nodes") (st := s_Network_nodes) l_Network_nodes c_Network_nodes k_Network_nodes dfl0
  have F_Network___eq__ := funD_mk (x := "__eq__") (qual := "Network.__eq__") (st := s_Network___eq__) l_Network___eq__ c_Network___eq__ k_Network___eq__ dfl0
  have F__law_equal_right := funD_mk (x := "_law_equal_right") (qual := "_law_equal_right") (st := s__law_equal_right) l__law_equal_right c__law_equal_right k__law_equal_right dfl0
  have F_law := funD_mk (x := "law") (qual := "law") (st := s_law) l_law c_law k_law dfl0
  obtain ⟨d_Network___init___2, v_Network___init___2, b_Network___init___2⟩ := FunD.binds1 (ps := ["self", "nodes", "links"]) F_Network___init__ 2 0 (by simp) rfl fun T kV doc pm an cdv ct us its hu hi => match us, its, hu, hi with | [_, _], [_], _, _ => ⟨_, rfl, rfl⟩
  obtain ⟨d_Network___init___3, v_Network___init___3, b_Network___init___3⟩ := FunD.binds1 (ps := ["self", "nodes", "links"]) F_Network___init__ 3 1 (by simp) rfl fun T kV doc pm an cdv ct us its hu hi => match us, its, hu, hi with | [_, _, _], [_], _, _ => ⟨_, rfl, rfl⟩
  have b_Network_is_link_2 := FunD.bindsN (ps := ["self", "value"]) F_Network_is_link fun _ _ _ _ _ _ us hl => match us, hl with | [_, _], _ => rfl
  have b_Network_limit_to_2 := FunD.bindsN (ps := ["self", "limits"]) F_Network_limit_to fun _ _ _ _ _ _ us hl => match us, hl with | [_, _], _ => rfl
  have b__law_draw_2 := FunD.bindsN (ps := ["_law_pen_here", "_law_many"]) F__law_draw fun _ _ _ _ _ _ us hl => match us, hl with | [_, _], _ => rfl
  have b__law_due_3 := FunD.bindsN (ps := ["_law_links", "_law_some_here", "_law_nodes"]) F__law_due fun _ _ _ _ _ _ us hl => match us, hl with | [_, _, _], _ => rfl
  have b__law_equal_right_4 := FunD.bindsN (ps := ["_law_net", "_law_nodes", "_law_links", "_law_limits_here"]) F__law_equal_right fun _ _ _ _ _ _ us hl => match us, hl with | [_, _, _, _], _ => rfl
  have b__law_is_limits_2 := FunD.bindsN (ps := ["_law_value", "_law_nodes"]) F__law_is_limits fun _ _ _ _ _ _ us hl => match us, hl with | [_, _], _ => rfl
  have b__law_is_link_2 := FunD.bindsN (ps := ["_law_value", "_law_nodes"]) F__law_is_link fun _ _ _ _ _ _ us hl => match us, hl with | [_, _], _ => rfl
  have b__law_is_node_2 := FunD.bindsN (ps := ["_law_value", "_law_nodes"]) F__law_is_node fun _ _ _ _ _ _ us hl => match us, hl with | [_, _], _ => rfl
  have b__law_limited_2 := FunD.bindsN (ps := ["_law_net", "_law_value"]) F__law_limited fun _ _ _ _ _ _ us hl => match us, hl with | [_, _], _ => rfl
  have b__law_limits_2 := FunD.bindsN (ps := ["_law_pen_here", "_law_nodes"]) F__law_limits fun _ _ _ _ _ _ us hl => match us, hl with | [_, _], _ => rfl
  have b__law_linked_2 := FunD.bindsN (ps := ["_law_net", "_law_some_here"]) F__law_linked fun _ _ _ _ _ _ us hl => match us, hl with | [_, _], _ => rfl
  have b__law_odd_1 := FunD.bindsN (ps := ["_law_pen_here"]) F__law_odd fun _ _ _ _ _ _ us hl => match us, hl with | [_], _ => rfl
  have b__law_ordered_1 := FunD.bindsN (ps := ["_law_some_here"]) F__law_ordered fun _ _ _ _ _ _ us hl => match us, hl with | [_], _ => rfl
  have b__law_pen_1 := FunD.bindsN (ps := ["_law_script"]) F__law_pen fun _ _ _ _ _ _ us hl => match us, hl with | [_], _ => rfl
  have b__law_pick_2 := FunD.bindsN (ps := ["_law_pen_here", "_law_choices"]) F__law_pick fun _ _ _ _ _ _ us hl => match us, hl with | [_, _], _ => rfl
  have b__law_refused_1 := FunD.bindsN (ps := ["_law_call"]) F__law_refused fun _ _ _ _ _ _ us hl => match us, hl with | [_], _ => rfl
  have b__law_refused_right_3 := FunD.bindsN (ps := ["_law_pen_here", "_law_nodes", "_law_given"]) F__law_refused_right fun _ _ _ _ _ _ us hl => match us, hl with | [_, _, _], _ => rfl
  have b__law_some_3 := FunD.bindsN (ps := ["_law_pen_here", "_law_nodes", "_law_most"]) F__law_some fun _ _ _ _ _ _ us hl => match us, hl with | [_, _, _], _ => rfl
  have b__law_spoil_1 := FunD.bindsN (ps := ["_law_some_here"]) F__law_spoil fun _ _ _ _ _ _ us hl => match us, hl with | [_], _ => rfl
  have b_fits_vector_1 := FunD.bindsN (ps := ["value"]) F_fits_vector fun _ _ _ _ _ _ us hl => match us, hl with | [_], _ => rfl
  have b_is_between_3 := FunD.bindsN (ps := ["value", "low", "high"]) F_is_between fun _ _ _ _ _ _ us hl => match us, hl with | [_, _, _], _ => rfl
  have b_is_integer_1 := FunD.bindsN (ps := ["value"]) F_is_integer fun _ _ _ _ _ _ us hl => match us, hl with | [_], _ => rfl
  have b_is_list_1 := FunD.bindsN (ps := ["value"]) F_is_list fun _ _ _ _ _ _ us hl => match us, hl with | [_], _ => rfl
  have kb_Network___eq___ := FunD.bindsN (ps := ["self", "other"]) F_Network___eq__ fun _ _ _ _ _ _ us hl => match us, hl with | [_, _], _ => rfl
  have kb_Network_limits_ := FunD.bindsN (ps := ["self"]) F_Network_limits fun _ _ _ _ _ _ us hl => match us, hl with | [_], _ => rfl
  have kb_Network_limits_set_ := FunD.bindsN (ps := ["self", "value"]) F_Network_limits_set fun _ _ _ _ _ _ us hl => match us, hl with | [_, _], _ => rfl
  have kb_Network_links_ := FunD.bindsN (ps := ["self"]) F_Network_links fun _ _ _ _ _ _ us hl => match us, hl with | [_], _ => rfl
  have kb_Network_nodes_ := FunD.bindsN (ps := ["self"]) F_Network_nodes fun _ _ _ _ _ _ us hl => match us, hl with | [_], _ => rfl
  have Fi_InvalidIndex := funD_mk (x := "__init__") (qual := "InvalidIndex.__init__") (st := si_InvalidIndex) il_InvalidIndex ic_InvalidIndex ik_InvalidIndex dfl0
  have bi_InvalidIndex := FunD.bindsN (ps := ["self", "value"]) Fi_InvalidIndex fun _ _ _ _ _ _ us hl => match us, hl with | [_, _], _ => rfl
  have Fi_InvalidLinks := funD_mk (x := "__init__") (qual := "InvalidLinks.__init__") (st := si_InvalidLinks) il_InvalidLinks ic_InvalidLinks ik_InvalidLinks dfl0
  have bi_InvalidLinks := FunD.bindsN (ps := ["self", "index"]) Fi_InvalidLinks fun _ _ _ _ _ _ us hl => match us, hl with | [_, _], _ => rfl
  have Fi_InvalidVector := funD_mk (x := "__init__") (qual := "InvalidVector.__init__") (st := si_InvalidVector) il_InvalidVector ic_InvalidVector ik_InvalidVector dfl0
  have bi_InvalidVector := FunD.bindsN (ps := ["self", "value"]) Fi_InvalidVector fun _ _ _ _ _ _ us hl => match us, hl with | [_, _], _ => rfl
  have e_InvalidLinks : EcOk K "ValueError" "ValueError.__new__" "ValueError.__init__" [.type "ValueError", .type "Exception", .type "BaseException", .type "object"] cc_InvalidLinks := ⟨eb_ValueError, ⟨_, _, _, _, _, _, _, _, _, _, _, _, _, _, l_InvalidLinks⟩, p1_InvalidLinks, p2_InvalidLinks, p3_InvalidLinks, p4_InvalidLinks, p5_InvalidLinks, p6_InvalidLinks, p7_InvalidLinks, cn_, ct_⟩
  have e_InvalidIndex : EcOk K "ValueError" "ValueError.__new__" "ValueError.__init__" [.type "ValueError", .type "Exception", .type "BaseException", .type "object"] cc_InvalidIndex := ⟨eb_ValueError, ⟨_, _, _, _, _, _, _, _, _, _, _, _, _, _, l_InvalidIndex⟩, p1_InvalidIndex, p2_InvalidIndex, p3_InvalidIndex, p4_InvalidIndex, p5_InvalidIndex, p6_InvalidIndex, p7_InvalidIndex, cn_, ct_⟩
  have e_InvalidVector : EcOk K "ValueError" "ValueError.__new__" "ValueError.__init__" [.type "ValueError", .type "Exception", .type "BaseException", .type "object"] cc_InvalidVector := ⟨eb_ValueError, ⟨_, _, _, _, _, _, _, _, _, _, _, _, _, _, l_InvalidVector⟩, p1_InvalidVector, p2_InvalidVector, p3_InvalidVector, p4_InvalidVector, p5_InvalidVector, p6_InvalidVector, p7_InvalidVector, cn_, ct_⟩
  let ca : CA := ⟨cc_InvalidLinks, cc_InvalidIndex, cc_InvalidVector, cc_Network, lc__law_refused_right, lP__law_refused_right, lc__law_linked, lP__law_linked, dv_Network___init__⟩
  have hca : CaOk ca := ⟨cls_ne l_InvalidLinks l_InvalidIndex (by decide), cls_ne l_InvalidLinks l_InvalidVector (by decide), cls_ne l_InvalidIndex l_InvalidLinks (by decide), cls_ne l_InvalidIndex l_InvalidVector (by decide), cls_ne l_InvalidVector l_InvalidLinks (by decide), cls_ne l_InvalidVector l_InvalidIndex (by decide)⟩
  let T : Tx K mg ca := {
    e_InvalidLinks := e_InvalidLinks, h_InvalidLinks := PySem.W.mg_of X G a_InvalidLinks,
    e_InvalidIndex := e_InvalidIndex, h_InvalidIndex := PySem.W.mg_of X G a_InvalidIndex,
    e_InvalidVector := e_InvalidVector, h_InvalidVector := PySem.W.mg_of X G a_InvalidVector,
    i_InvalidIndex := ii_InvalidIndex, fdi_InvalidIndex := _, Fi_InvalidIndex := Fi_InvalidIndex, bi_InvalidIndex := bi_InvalidIndex, iC_InvalidIndex := iC_InvalidIndex, tI_InvalidIndex := tI_InvalidIndex,
    i_InvalidLinks := ii_InvalidLinks, fdi_InvalidLinks := _, Fi_InvalidLinks := Fi_InvalidLinks, bi_InvalidLinks := bi_InvalidLinks, iC_InvalidLinks := iC_InvalidLinks, tI_InvalidLinks := tI_InvalidLinks,
    i_InvalidVector := ii_InvalidVector, fdi_InvalidVector := _, Fi_InvalidVector := Fi_InvalidVector, bi_InvalidVector := bi_InvalidVector, iC_InvalidVector := iC_InvalidVector, tI_InvalidVector := tI_InvalidVector,
    vV_ValueError := vV_ValueError,
    no_InvalidIndex_value := no_InvalidIndex_value,
    no_InvalidLinks_index := no_InvalidLinks_index,
    no_InvalidVector_value := no_InvalidVector_value,
    kit_InvalidIndex_ValueError := (e_InvalidIndex.kitT (by decide +kernel) (by decide +kernel)),
    kit_InvalidLinks_ValueError := (e_InvalidLinks.kitT (by decide +kernel) (by decide +kernel)),
    kit_InvalidVector_ValueError := (e_InvalidVector.kitT (by decide +kernel) (by decide +kernel)),
    f__law_pen := f__law_pen, fd__law_pen := _, F__law_pen := F__law_pen, g__law_pen := PySem.W.mg_of X G a__law_pen,
    f__law_draw := f__law_draw, fd__law_draw := _, F__law_draw := F__law_draw, g__law_draw := PySem.W.mg_of X G a__law_draw,
    f__law_pick := f__law_pick, fd__law_pick := _, F__law_pick := F__law_pick, g__law_pick := PySem.W.mg_of X G a__law_pick,
    f__law_odd := f__law_odd, fd__law_odd := _, F__law_odd := F__law_odd, g__law_odd := PySem.W.mg_of X G a__law_odd,
    f__law_some := f__law_some, fd__law_some := _, F__law_some := F__law_some, g__law_some := PySem.W.mg_of X G a__law_some,
    f__law_is_node := f__law_is_node, fd__law_is_node := _, F__law_is_node := F__law_is_node, g__law_is_node := PySem.W.mg_of X G a__law_is_node,
    f__law_refused := f__law_refused, fd__law_refused := _, F__law_refused := F__law_refused, g__law_refused := PySem.W.mg_of X G a__law_refused,
    f_is_integer := f_is_integer, fd_is_integer := _, F_is_integer := F_is_integer, g_is_integer := PySem.W.mg_of X G a_is_integer,
    f_is_between := f_is_between, fd_is_between := _, F_is_between := F_is_between, g_is_between := PySem.W.mg_of X G a_is_between,
    f_is_list := f_is_list, fd_is_list := _, F_is_list := F_is_list, g_is_list := PySem.W.mg_of X G a_is_list,
    f_Network_is_link := f_Network_is_link, fd_Network_is_link := _, F_Network_is_link := F_Network_is_link,
    f_Network_link := f_Network_link, fd_Network_link := _, F_Network_link := F_Network_link,
    f_Network___init__ := f_Network___init__, fd_Network___init__ := _, F_Network___init__ := F_Network___init__,
    f__law_is_link := f__law_is_link, fd__law_is_link := _, F__law_is_link := F__law_is_link, g__law_is_link := PySem.W.mg_of X G a__law_is_link,
    f__law_due := f__law_due, fd__law_due := _, F__law_due := F__law_due, g__law_due := PySem.W.mg_of X G a__law_due,
    f__law_refused_right := f__law_refused_right, fd__law_refused_right := _, F__law_refused_right := F__law_refused_right, g__law_refused_right := PySem.W.mg_of X G a__law_refused_right,
    f__law_ordered := f__law_ordered, fd__law_ordered := _, F__law_ordered := F__law_ordered, g__law_ordered := PySem.W.mg_of X G a__law_ordered,
    f__law_spoil := f__law_spoil, fd__law_spoil := _, F__law_spoil := F__law_spoil, g__law_spoil := PySem.W.mg_of X G a__law_spoil,
    f__law_linked := f__law_linked, fd__law_linked := _, F__law_linked := F__law_linked, g__law_linked := PySem.W.mg_of X G a__law_linked,
    f__law_limits := f__law_limits, fd__law_limits := _, F__law_limits := F__law_limits, g__law_limits := PySem.W.mg_of X G a__law_limits,
    f__law_is_limits := f__law_is_limits, fd__law_is_limits := _, F__law_is_limits := F__law_is_limits, g__law_is_limits := PySem.W.mg_of X G a__law_is_limits,
    f_fits_vector := f_fits_vector, fd_fits_vector := _, F_fits_vector := F_fits_vector, g_fits_vector := PySem.W.mg_of X G a_fits_vector,
    f_Network_limits_set := f_Network_limits_set, fd_Network_limits_set := _, F_Network_limits_set := F_Network_limits_set,
    f_Network_limit_to := f_Network_limit_to, fd_Network_limit_to := _, F_Network_limit_to := F_Network_limit_to,
    f__law_limited := f__law_limited, fd__law_limited := _, F__law_limited := F__law_limited, g__law_limited := PySem.W.mg_of X G a__law_limited,
    f_Network_limits := f_Network_limits, fd_Network_limits := _, F_Network_limits := F_Network_limits,
    f_Network_links := f_Network_links, fd_Network_links := _, F_Network_links := F_Network_links,
    f_Network_nodes := f_Network_nodes, fd_Network_nodes := _, F_Network_nodes := F_Network_nodes,
    f_Network___eq__ := f_Network___eq__, fd_Network___eq__ := _, F_Network___eq__ := F_Network___eq__,
    f__law_equal_right := f__law_equal_right, fd__law_equal_right := _, F__law_equal_right := F__law_equal_right, g__law_equal_right := PySem.W.mg_of X G a__law_equal_right,
    f_law := f_law, fd_law := _, F_law := F_law, g_law := PySem.W.mg_of X G a_law,
    h_Network := PySem.W.mg_of X G a_Network, ow_Network := ⟨⟨w1_Network, w2_Network, w3_Network, w4_Network⟩, w5_Network, cn_, ct_, w6_Network, own_nT v0_Network v1_Network v2_Network v3_Network v4_Network v5_Network⟩,
    ki_Network := ⟨by obtain ⟨_, z, _⟩ := PySem.W.any_some w2_Network; rw [z]; rfl, y1_Network⟩,
    eo_Network := ⟨av_Network_Network___eq__, y2_Network, beq_iff_eq.mpr tf_Network___eq__, w6_Network⟩,
    mk_Network := ⟨w7_Network, av_Network_Network___init__, beq_iff_eq.mpr tf_Network___init__, w8_Network⟩,
    me_Network_is_link_c0 := (all_cons ⟨av_Network_Network_is_link, beq_iff_eq.mpr tf_Network_is_link, k_Network_is_link⟩ all_nil),
    me_Network_limit_to_c0 := (all_cons ⟨av_Network_Network_limit_to, beq_iff_eq.mpr tf_Network_limit_to, k_Network_limit_to⟩ all_nil),
    me_Network_link_c0 := (all_cons ⟨av_Network_Network_link, beq_iff_eq.mpr tf_Network_link, k_Network_link⟩ all_nil),
    pr_Network_limits := pr_Network_limits,
    pr_Network_links := pr_Network_links,
    pr_Network_nodes := pr_Network_nodes,
    bm_Network_link_c0 := (all_cons ⟨⟨av_Network_Network_link, beq_iff_eq.mpr tf_Network_link, k_Network_link⟩, bg_Network_link, bt_Network_link, by decide, bf_Network_link⟩ all_nil),
    prs_Network_limits := prs_Network_limits_set,
    sq_Network_limits_set_c0 := (all_cons ⟨a_Network_limits_set, ps_Network_limits_set, ⟨_, _, py_Network_limits_set⟩⟩ all_nil),
    dvk_Network___init__ := ⟨do_Network___init__, dm_Network___init__, dk_Network___init__, dc_Network___init__, dd_Network___init__⟩,
    pp_Network_limits_c0 := (all_cons ⟨av_Network_Network_limits, pg_Network_limits, pt_Network_limits, ⟨_, py_Network_limits⟩⟩ all_nil),
    pp_Network_links_c0 := (all_cons ⟨av_Network_Network_links, pg_Network_links, pt_Network_links, ⟨_, py_Network_links⟩⟩ all_nil),
    pp_Network_nodes_c0 := (all_cons ⟨av_Network_Network_nodes, pg_Network_nodes, pt_Network_nodes, ⟨_, py_Network_nodes⟩⟩ all_nil),
    na_c0_caps := (all_cons na_Network_caps all_nil),
    na_c0_pairs := (all_cons na_Network_pairs all_nil),
    na_c0_size := (all_cons na_Network_size all_nil),
    itk_Network_MAX_LIMIT := itk_Network_MAX_LIMIT, ic_Network_MAX_LIMIT := ⟨ica_Network_MAX_LIMIT, ⟨_, rfl⟩, icg_Network_MAX_LIMIT, by decide⟩,
    itk_Network_MAX_LINKS := itk_Network_MAX_LINKS, ic_Network_MAX_LINKS := ⟨ica_Network_MAX_LINKS, ⟨_, rfl⟩, icg_Network_MAX_LINKS, by decide⟩,
    itk_Network_MAX_NODES := itk_Network_MAX_NODES, ic_Network_MAX_NODES := ⟨ica_Network_MAX_NODES, ⟨_, rfl⟩, icg_Network_MAX_NODES, by decide⟩,
    kb_Network___eq___ := kb_Network___eq___,
    kb_Network_limits_ := kb_Network_limits_,
    kb_Network_limits_set_ := kb_Network_limits_set_,
    kb_Network_links_ := kb_Network_links_,
    kb_Network_nodes_ := kb_Network_nodes_,
    d_Network___init___2 := d_Network___init___2, v_Network___init___2 := v_Network___init___2, b_Network___init___2 := b_Network___init___2,
    d_Network___init___3 := d_Network___init___3, v_Network___init___3 := v_Network___init___3, b_Network___init___3 := b_Network___init___3,
    d_Network_is_link_2 := [], v_Network_is_link_2 := .nil, b_Network_is_link_2 := b_Network_is_link_2,
    d_Network_limit_to_2 := [], v_Network_limit_to_2 := .nil, b_Network_limit_to_2 := b_Network_limit_to_2,
    d__law_draw_2 := [], v__law_draw_2 := .nil, b__law_draw_2 := b__law_draw_2,
    d__law_due_3 := [], v__law_due_3 := .nil, b__law_due_3 := b__law_due_3,
    d__law_equal_right_4 := [], v__law_equal_right_4 := .nil, b__law_equal_right_4 := b__law_equal_right_4,
    d__law_is_limits_2 := [], v__law_is_limits_2 := .nil, b__law_is_limits_2 := b__law_is_limits_2,
    d__law_is_link_2 := [], v__law_is_link_2 := .nil, b__law_is_link_2 := b__law_is_link_2,
    d__law_is_node_2 := [], v__law_is_node_2 := .nil, b__law_is_node_2 := b__law_is_node_2,
    d__law_limited_2 := [], v__law_limited_2 := .nil, b__law_limited_2 := b__law_limited_2,
    d__law_limits_2 := [], v__law_limits_2 := .nil, b__law_limits_2 := b__law_limits_2,
    d__law_linked_2 := [], v__law_linked_2 := .nil, b__law_linked_2 := b__law_linked_2,
    d__law_odd_1 := [], v__law_odd_1 := .nil, b__law_odd_1 := b__law_odd_1,
    d__law_ordered_1 := [], v__law_ordered_1 := .nil, b__law_ordered_1 := b__law_ordered_1,
    d__law_pen_1 := [], v__law_pen_1 := .nil, b__law_pen_1 := b__law_pen_1,
    d__law_pick_2 := [], v__law_pick_2 := .nil, b__law_pick_2 := b__law_pick_2,
    b__law_refused_1 := b__law_refused_1,
    d__law_refused_right_3 := [], v__law_refused_right_3 := .nil, b__law_refused_right_3 := b__law_refused_right_3,
    d__law_some_3 := [], v__law_some_3 := .nil, b__law_some_3 := b__law_some_3,
    d__law_spoil_1 := [], v__law_spoil_1 := .nil, b__law_spoil_1 := b__law_spoil_1,
    d_fits_vector_1 := [], v_fits_vector_1 := .nil, b_fits_vector_1 := b_fits_vector_1,
    d_is_between_3 := [], v_is_between_3 := .nil, b_is_between_3 := b_is_between_3,
    d_is_integer_1 := [], v_is_integer_1 := .nil, b_is_integer_1 := b_is_integer_1,
    d_is_list_1 := [], v_is_list_1 := .nil, b_is_list_1 := b_is_list_1,
    lk__law_refused_right := ⟨_, _, _, _, _, _, _, _, _, rfl, l__law_refused_right, c__law_refused_right⟩,
    lk__law_linked := ⟨_, _, _, _, _, _, _, _, _, rfl, l__law_linked, c__law_linked⟩,
    b_law := fun s u => FunD.bindsA (ps := ["_law_script"]) F_law (fun _ _ _ _ _ _ us hl => match us, hl with | [_], _ => rfl) s [u] rfl,
    t_MAX_DIMENSION := t_MAX_DIMENSION, c_MAX_DIMENSION := PySem.W.mg_of X G z_MAX_DIMENSION,
    t_MAX_ENTRY := t_MAX_ENTRY, c_MAX_ENTRY := PySem.W.mg_of X G z_MAX_ENTRY,
    n_ValueError := PySem.W.mg_none_of X G z_ValueError,
    n_abs := PySem.W.mg_none_of X G z_abs,
    n_all := PySem.W.mg_none_of X G z_all,
    n_bool := PySem.W.mg_none_of X G z_bool,
    n_enumerate := PySem.W.mg_none_of X G z_enumerate,
    n_int := PySem.W.mg_none_of X G z_int,
    n_isinstance := PySem.W.mg_none_of X G z_isinstance,
    n_len := PySem.W.mg_none_of X G z_len,
    n_list := PySem.W.mg_none_of X G z_list,
    n_max := PySem.W.mg_none_of X G z_max,
    n_min := PySem.W.mg_none_of X G z_min,
    n_range := PySem.W.mg_none_of X G z_range,
    n_repr := PySem.W.mg_none_of X G z_repr,
    n_str := PySem.W.mg_none_of X G z_str,
    n_tuple := PySem.W.mg_none_of X G z_tuple }
  have e := hfa.symm.trans T.g_law
  cases e
  exact ⟨K, T.fd_law, M_law ca, [(lc__law_refused_right, lP__law_refused_right, ("_law_refused_right" : Str) ++ ".<locals>." ++ "<lambda>"), (lc__law_linked, lP__law_linked, ("_law_linked" : Str) ++ ".<locals>." ++ "<lambda>")], X, (fun t ht => by
    simp only [List.mem_cons, List.not_mem_nil, or_false] at ht
    rcases ht with rfl | rfl
    · exact q__law_refused_right
    · exact q__law_linked), (fun t ht => by
    simp only [List.mem_cons, List.not_mem_nil, or_false] at ht
    rcases ht with rfl | rfl
    · exact r__law_refused_right
    · exact r__law_linked), (fun t ht => by
    simp only [List.mem_cons, List.not_mem_nil, or_false] at ht
    rcases ht with rfl | rfl
    · exact PySem.W.codeHd_of_K X u__law_refused_right
    · exact PySem.W.codeHd_of_K X u__law_linked), nd_, fun s u => T.b_law s u, fun ns hl hb => law_true ca hca ns hl hb, fun base _ _ hTB => fn_law T ⟨hTB _ List.mem_cons_self, hTB _ (List.mem_cons_of_mem _ List.mem_cons_self)⟩⟩
end Q

open PySem PySem.W PyProof.Rows
set_option maxHeartbeats 0 in
set_option maxRecDepth 100000 in
theorem PySem.Challenge.cw_jumpsets_k62_networks_link_by_link_holds : PySem.Challenge.rw_jumpsets_k62_networks_link_by_link.Holds := by
  refine HeadFirst.head.2.2 HeadFirst.run ?_
  delta HeadFirst.head
  dsimp only
  k_fill
  refine Q.walk_MT (l := PySem.Challenge.rw_jumpsets_k62_networks_link_by_link) (n := 63) (k := 10) (x := "_law_script") rfl (by decide) rfl ⟨rfl, by decide, by decide⟩ (by decide +kernel) ?F
  case F =>
    intro w mg fa h Y G hmg
    have KX := PySem.W.km_in_of Y
    have hT8 := PySem.W.km_tabs_of Y
    refine' Q.all_mk KX G hmg ?a_Network ?w1_Network ?w2_Network ?w3_Network ?w4_Network ?w5_Network ?w6_Network ?w7_Network ?w8_Network ?v0_Network ?v1_Network ?v2_Network ?v3_Network ?v4_Network ?v5_Network ?y1_Network ?y2_Network ?na_Network_caps ?na_Network_pairs ?na_Network_size ?a__law_pen ?l__law_pen ?c__law_pen ?k__law_pen ?a__law_draw ?l__law_draw ?c__law_draw ?k__law_draw ?a__law_pick ?l__law_pick ?c__law_pick ?k__law_pick ?a__law_odd ?l__law_odd ?c__law_odd ?k__law_odd ?a__law_some ?l__law_some ?c__law_some ?k__law_some ?a__law_is_node ?l__law_is_node ?c__law_is_node ?k__law_is_node ?a__law_refused ?l__law_refused ?c__law_refused ?k__law_refused ?a_is_integer ?l_is_integer ?c_is_integer ?k_is_integer ?a_is_between ?l_is_between ?c_is_between ?k_is_between ?a_is_list ?l_is_list ?c_is_list ?k_is_list ?a_Network_is_link ?tf_Network_is_link ?l_Network_is_link ?c_Network_is_link ?k_Network_is_link ?a_Network_link ?tf_Network_link ?l_Network_link ?c_Network_link ?k_Network_link ?bg_Network_link ?bt_Network_link ?bf_Network_link ?a_Network___init__ ?tf_Network___init__ ?l_Network___init__ ?c_Network___init__ ?k_Network___init__ ?t_Network___init__ ?e_Network___init__ ?dk_Network___init__ ?dc_Network___init__ ?dd_Network___init__ ?a__law_is_link ?l__law_is_link ?c__law_is_link ?k__law_is_link ?a__law_due ?l__law_due ?c__law_due ?k__law_due ?a__law_refused_right ?l__law_refused_right ?c__law_refused_right ?k__law_refused_right ?q__law_refused_right ?u__law_refused_right ?r__law_refused_right ?a__law_ordered ?l__law_ordered ?c__law_ordered ?k__law_ordered ?a__law_spoil ?l__law_spoil ?c__law_spoil ?k__law_spoil ?a__law_linked ?l__law_linked ?c__law_linked ?k__law_linked ?q__law_linked ?u__law_linked ?r__law_linked ?a__law_limits ?l__law_limits ?c__law_limits ?k__law_limits ?a__law_is_limits ?l__law_is_limits ?c__law_is_limits ?k__law_is_limits ?a_fits_vector ?l_fits_vector ?c_fits_vector ?k_fits_vector ?a_Network_limits_set ?ps_Network_limits_set ?py_Network_limits_set ?l_Network_limits_set ?c_Network_limits_set ?k_Network_limits_set ?a_Network_limit_to ?tf_Network_limit_to ?l_Network_limit_to ?c_Network_limit_to ?k_Network_limit_to ?a__law_limited ?l__law_limited ?c__law_limited ?k__law_limited ?a_Network_limits ?pg_Network_limits ?pt_Network_limits ?py_Network_limits ?l_Network_limits ?c_Network_limits ?k_Network_limits ?a_Network_links ?pg_Network_links ?pt_Network_links ?py_Network_links ?l_Network_links ?c_Network_links ?k_Network_links ?a_Network_nodes ?pg_Network_nodes ?pt_Network_nodes ?py_Network_nodes ?l_Network_nodes ?c_Network_nodes ?k_Network_nodes ?a_Network___eq__ ?tf_Network___eq__ ?l_Network___eq__ ?c_Network___eq__ ?k_Network___eq__ ?a__law_equal_right ?l__law_equal_right ?c__law_equal_right ?k__law_equal_right ?a_law ?l_law ?c_law ?k_law ?av_Network_Network___eq__ ?av_Network_Network___init__ ?av_Network_Network_is_link ?av_Network_Network_limit_to ?av_Network_Network_limits ?av_Network_Network_link ?av_Network_Network_links ?av_Network_Network_nodes ?ica_Network_MAX_LIMIT ?icg_Network_MAX_LIMIT ?ica_Network_MAX_LINKS ?icg_Network_MAX_LINKS ?ica_Network_MAX_NODES ?icg_Network_MAX_NODES ?z_MAX_DIMENSION ?z_MAX_ENTRY ?z_ValueError ?z_abs ?z_all ?z_bool ?z_enumerate ?z_int ?z_isinstance ?z_len ?z_list ?z_max ?z_min ?z_range ?z_repr ?z_str ?z_tuple ?a_InvalidLinks ?l_InvalidLinks ?p1_InvalidLinks ?p2_InvalidLinks ?p3_InvalidLinks ?p4_InvalidLinks ?p5_InvalidLinks ?p6_InvalidLinks ?p7_InvalidLinks ?iC_InvalidLinks ?il_InvalidLinks ?ic_InvalidLinks ?ik_InvalidLinks ?tI_InvalidLinks ?a_InvalidIndex ?l_InvalidIndex ?p1_InvalidIndex ?p2_InvalidIndex ?p3_InvalidIndex ?p4_InvalidIndex ?p5_InvalidIndex ?p6_InvalidIndex ?p7_InvalidIndex ?iC_InvalidIndex ?il_InvalidIndex ?ic_InvalidIndex ?ik_InvalidIndex ?tI_InvalidIndex ?a_InvalidVector ?l_InvalidVector ?p1_InvalidVector ?p2_InvalidVector ?p3_InvalidVector ?p4_InvalidVector ?p5_InvalidVector ?p6_InvalidVector ?p7_InvalidVector ?iC_InvalidVector ?il_InvalidVector ?ic_InvalidVector ?ik_InvalidVector ?tI_InvalidVector ?cn_ ?ct_ ?vV_ValueError ?no_InvalidIndex_value ?no_InvalidLinks_index ?no_InvalidVector_value ?nd_
    (case a_Network => k_is); (case w1_Network => k_is); (case w2_Network => k_is); (case w3_Network => k_is); (case w4_Network => k_is); (case w5_Network => k_is); (case w6_Network => k_is); (case w7_Network => k_is); (case w8_Network => k_is); (case v0_Network => k_is); (case v1_Network => k_is); (case v2_Network => k_is); (case v3_Network => k_is); (case v4_Network => k_is); (case v5_Network => k_is); (case y1_Network => k_is); (case y2_Network => k_is); (case na_Network_caps => k_is); (case na_Network_pairs => k_is); (case na_Network_size => k_is); (case a__law_pen => k_is); (case l__law_pen => k_is); (case c__law_pen => k_is); (case k__law_pen => k_is); (case a__law_draw => k_is); (case l__law_draw => k_is); (case c__law_draw => k_is); (case k__law_draw => k_is); (case a__law_pick => k_is); (case l__law_pick => k_is); (case c__law_pick => k_is); (case k__law_pick => k_is); (case a__law_odd => k_is); (case l__law_odd => k_is); (case c__law_odd => k_is); (case k__law_odd => k_is); (case a__law_some => k_is); (case l__law_some => k_is); (case c__law_some => k_is); (case k__law_some => k_is); (case a__law_is_node => k_is); (case l__law_is_node => k_is); (case c__law_is_node => k_is); (case k__law_is_node => k_is); (case a__law_refused => k_is); (case l__law_refused => k_is); (case c__law_refused => k_is); (case k__law_refused => k_is); (case a_is_integer => k_is); (case l_is_integer => k_is); (case c_is_integer => k_is); (case k_is_integer => k_is); (case a_is_between => k_is); (case l_is_between => k_is); (case c_is_between => k_is); (case k_is_between => k_is); (case a_is_list => k_is); (case l_is_list => k_is); (case c_is_list => k_is); (case k_is_list => k_is); (case a_Network_is_link => k_is); (case tf_Network_is_link => k_is); (case l_Network_is_link => k_is); (case c_Network_is_link => k_is); (case k_Network_is_link => k_is); (case a_Network_link => k_is); (case tf_Network_link => k_is); (case l_Network_link => k_is); (case c_Network_link => k_is); (case k_Network_link => k_is); (case bg_Network_link => k_is); (case bt_Network_link => k_is); (case bf_Network_link => k_is); (case a_Network___init__ => k_is); (case tf_Network___init__ => k_is); (case l_Network___init__ => k_is); (case c_Network___init__ => k_is); (case k_Network___init__ => k_is); (case t_Network___init__ => k_is); (case e_Network___init__ => rfl); (case dk_Network___init__ => k_is); (case a__law_is_link => k_is); (case l__law_is_link => k_is); (case c__law_is_link => k_is); (case k__law_is_link => k_is); (case a__law_due => k_is); (case l__law_due => k_is); (case c__law_due => k_is); (case k__law_due => k_is); (case a__law_refused_right => k_is); (case l__law_refused_right => k_is); (case c__law_refused_right => k_is); (case k__law_refused_right => k_is); (case a__law_ordered => k_is); (case l__law_ordered => k_is); (case c__law_ordered => k_is); (case k__law_ordered => k_is); (case a__law_spoil => k_is); (case l__law_spoil => k_is); (case c__law_spoil => k_is); (case k__law_spoil => k_is); (case a__law_linked => k_is); (case l__law_linked => k_is); (case c__law_linked => k_is); (case k__law_linked => k_is); (case a__law_limits => k_is); (case l__law_limits => k_is); (case c__law_limits => k_is); (case k__law_limits => k_is); (case a__law_is_limits => k_is); (case l__law_is_limits => k_is); (case c__law_is_limits => k_is); (case k__law_is_limits => k_is); (case a_fits_vector => k_is); (case l_fits_vector => k_is); (case c_fits_vector => k_is); (case k_fits_vector => k_is); (case a_Network_limits_set => k_is); (case ps_Network_limits_set => k_is); (case py_Network_limits_set => k_is); (case l_Network_limits_set => k_is); (case c_Network_limits_set => k_is); (case k_Network_limits_set => k_is); (case a_Network_limit_to => k_is); (case tf_Network_limit_to => k_is); (case l_Network_limit_to => k_is); (case c_Network_limit_to => k_is); (case k_Network_limit_to => k_is); (case a__law_limited => k_is); (case l__law_limited => k_is); (case c__law_limited => k_is); (case k__law_limited => k_is); (case a_Network_limits => k_is); (case pg_Network_limits => k_is); (case pt_Network_limits => k_is); (case py_Network_limits => k_is); (case l_Network_limits => k_is); (case c_Network_limits => k_is); (case k_Network_limits => k_is); (case a_Network_links => k_is); (case pg_Network_links => k_is); (case pt_Network_links => k_is); (case py_Network_links => k_is); (case l_Network_links => k_is); (case c_Network_links => k_is); (case k_Network_links => k_is); (case a_Network_nodes => k_is); (case pg_Network_nodes => k_is); (case pt_Network_nodes => k_is); (case py_Network_nodes => k_is); (case l_Network_nodes => k_is); (case c_Network_nodes => k_is); (case k_Network_nodes => k_is); (case a_Network___eq__ => k_is); (case tf_Network___eq__ => k_is); (case l_Network___eq__ => k_is); (case c_Network___eq__ => k_is); (case k_Network___eq__ => k_is); (case a__law_equal_right => k_is); (case l__law_equal_right => k_is); (case c__law_equal_right => k_is); (case k__law_equal_right => k_is); (case a_law => k_is); (case l_law => k_is); (case c_law => k_is); (case k_law => k_is); (case av_Network_Network___eq__ => k_is); (case av_Network_Network___init__ => k_is); (case av_Network_Network_is_link => k_is); (case av_Network_Network_limit_to => k_is); (case av_Network_Network_limits => k_is); (case av_Network_Network_link => k_is); (case av_Network_Network_links => k_is); (case av_Network_Network_nodes => k_is); (case ica_Network_MAX_LIMIT => k_is); (case icg_Network_MAX_LIMIT => k_is); (case ica_Network_MAX_LINKS => k_is); (case icg_Network_MAX_LINKS => k_is); (case ica_Network_MAX_NODES => k_is); (case icg_Network_MAX_NODES => k_is); (case z_MAX_DIMENSION => k_is); (case z_MAX_ENTRY => k_is); (case z_ValueError => k_is); (case z_abs => k_is); (case z_all => k_is); (case z_bool => k_is); (case z_enumerate => k_is); (case z_int => k_is); (case z_isinstance => k_is); (case z_len => k_is); (case z_list => k_is); (case z_max => k_is); (case z_min => k_is); (case z_range => k_is); (case z_repr => k_is); (case z_str => k_is); (case z_tuple => k_is); (case a_InvalidLinks => k_is); (case l_InvalidLinks => k_is); (case p1_InvalidLinks => k_is); (case p2_InvalidLinks => k_is); (case p3_InvalidLinks => k_is); (case p4_InvalidLinks => k_is); (case p5_InvalidLinks => k_is); (case p6_InvalidLinks => k_is); (case p7_InvalidLinks => k_is); (case iC_InvalidLinks => k_is); (case il_InvalidLinks => k_is); (case ic_InvalidLinks => k_is); (case ik_InvalidLinks => k_is); (case tI_InvalidLinks => k_is); (case a_InvalidIndex => k_is); (case l_InvalidIndex => k_is); (case p1_InvalidIndex => k_is); (case p2_InvalidIndex => k_is); (case p3_InvalidIndex => k_is); (case p4_InvalidIndex => k_is); (case p5_InvalidIndex => k_is); (case p6_InvalidIndex => k_is); (case p7_InvalidIndex => k_is); (case iC_InvalidIndex => k_is); (case il_InvalidIndex => k_is); (case ic_InvalidIndex => k_is); (case ik_InvalidIndex => k_is); (case tI_InvalidIndex => k_is); (case a_InvalidVector => k_is); (case l_InvalidVector => k_is); (case p1_InvalidVector => k_is); (case p2_InvalidVector => k_is); (case p3_InvalidVector => k_is); (case p4_InvalidVector => k_is); (case p5_InvalidVector => k_is); (case p6_InvalidVector => k_is); (case p7_InvalidVector => k_is); (case iC_InvalidVector => k_is); (case il_InvalidVector => k_is); (case ic_InvalidVector => k_is); (case ik_InvalidVector => k_is); (case tI_InvalidVector => k_is); (case cn_ => k_is); (case ct_ => k_is); (case vV_ValueError => k_is); (case no_InvalidIndex_value => k_is); (case no_InvalidLinks_index => k_is); (case no_InvalidVector_value => k_is); (case q__law_refused_right => exact hT8 _ List.mem_cons_self); (case q__law_linked => exact hT8 _ (List.mem_cons_of_mem _ List.mem_cons_self)); (case u__law_refused_right => kernel_rfl); (case r__law_refused_right => kernel_rfl); (case u__law_linked => kernel_rfl); (case r__law_linked => kernel_rfl); (case dc_Network___init__ => rfl); (case dd_Network___init__ => rfl); (case nd_ => decide)
