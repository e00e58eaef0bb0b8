import PyProof.Rows.All
import Wide.All
import OpenK.AllK
import Wide.FinOn
import HandS.ForMost
import HandS.ForExc
import HandS.IsInst
import HandS.Lambda
import HandS.Flow
import HandS.Star
import KE.DataEq
import HandS.Wide
import HandS.TupAny
import HandS.TupMul
import HandS.Style
import HandS.TupLe
import HandS.Defaults
import KE.GoesMore
import KE.GoesEnum
import HandS.Zip
import HandS.Iter
import HandS.Words
import HandS.EndBits
import HandS.Ends
import HandS.RaiseMore
import PyProof.StrLawsRepr
import HandS.ExcInit
import HandS.ExcIs
import HandS.ExcField
import HandS.TryMany
import KE.KExcInit
import KE.SortData
import HandS.SortInts
import HandS.More
import HandS.Deep
import HandS.Conv
import HandS.Property
import PyProof.InstEq
import HandS.Nested
import KE.KSuper
import HandS.EndTab
import HandS.TupSets
import HandS.SetBool
import HandS.DictComp
import HandS.TupLen
import KE.KDictCopyH
import HandS.ClsMeth
import KE.RegKSuper
import HandS.GenList
import HandS.OwnIter
import KE.KDictPairs
import KE.KTupSum
import KE.DataMinMax
import KE.KDflt
import KE.KDictWalk
import KE.KDictSum
import KE.KDictDisplayH
import HandS.DictTup
import KE.KEqDict
import PyProof.Rows.IntBool
import PyProof.CallStr
import KE.OsRunLaw
import PySem.Challenge.RW_jumpsets_k06_members_refused
set_option Elab.async false
set_option linter.all false
set_option maxRecDepth 100000
set_option maxHeartbeats 4000000
set_option exponentiation.threshold 100
namespace HeadFirst
open PySem PySem.W PyProof.Rows
/-- the same Hook; a hypothesis stays named in it -/
def keepH {C : Prop} (_ : C) (H : Hook) : Hook := H
/-- the run read off the tree, for a head that also tells of tables of lambdas -/
theorem left_oneM {p q : Program} {loose : List PySem.Str} {Xt : Shared → Bool} {K : Params → Frag} {as ts : List Addr} {ek : ∀ P, as = (K P).map (·.1)} {N M : Nat} (e : opening p = plainProg p.main.scope.names) (hN : Nat.ble 600 N = true) (f : ∀ s, fenceModules? p s = some s) (le : Nat.ble M N = true)
    (run : ∀ (w : World) (os : OsState), (HeadRun.endF (HeadRun.stepQ (HeadRun.denQ HeadRun.tabQ) p w) M p w os).map (fun s => (HeadRun.looksF p (boot_heap w.params) s.abs, HeadRun.seenQ q loose (importedModules p.main.body) Xt s.abs, (as.map (HeadRun.getT s), ts.map (HeadRun.getT s)))) = some (true, openGood q loose, ((K w.params).map (fun x => some x.2), ts.map fun _ => some (tabObj #[])))) :
    LeftO p q loose Xt (Hook.obs (kmHook K as ek ts)) (Hook.val (kmHook K as ek ts)) N true := by
  refine HeadRun.left_one (M := M) e hN f le fun w os => ?_
  have g : ∀ (l : List Addr) s, l.map (HeadRun.getT s) = l.map s.abs.heap.get? := fun l s => List.map_congr_left fun a _ => HeadRun.getT_eq s a
  have z := run w os
  simp only [g] at z
  simp only [HeadRun.endQ_eq, HeadRun.seenQ_eq]
  exact z
theorem keepD {A : Prop} (h : A) (_ : ∀ _ os : Unit, os = os) : A := h
theorem split3 {α A B C : Type} {o : Option α} {f : α → A} {g : α → B} {h : α → C} {a : A} {b : B} {c : C} (h1 : o.map f = some a) (h2 : o.map g = some b) (h3 : o.map h = some c) : o.map (fun x => (f x, g x, h x)) = some (a, b, c) := by
  cases o with
  | none => cases h1
  | some x => simp only [Option.map_some, Option.some.injEq] at *; rw [h1, h2, h3]
section
local macro_rules | `(tactic| refine $f:ident $args*) => do
  if f.getId.eraseMacroScopes == `HeadRun.left_oneK then
    let a := args.pop
    let i := Lean.mkIdent `hr
    let f := Lean.mkIdent `HeadFirst.left_oneM
    `(tactic| (refine HeadFirst.keepD ?_ ?_; apply $f $a*; exact $i))
  else Lean.Macro.throwUnsupported
local macro_rules | `(tactic| o_head $h:term) => let i := Lean.mkIdent `hc; `(tactic| o_headL (keepH $i $h))
local macro_rules | `(tactic| o_headL (kHook $a $b $c)) => let i := Lean.mkIdent `hc; `(tactic| o_headL (keepH $i (kHook $a $b $c)))
set_option maxHeartbeats 0 in
noncomputable def head : (R : Prop) ×' (C : Prop) ×' (R → C → PySem.Challenge.rw_jumpsets_k06_members_refused.Holds) := ⟨_, _, fun hr hc => by
  w_on; o_law; k_head; (case hw => w_witness2)
  delta keepH
  exact hc⟩
end
noncomputable def runs : (A B C : Prop) ×' (A → B → C → head.1) := ⟨_, _, _, fun a b c => by
  delta head
  dsimp only
  intro w os
  refine split3 ?_ ?_ ?_
  · revert w os; exact a
  · revert w os; exact b
  · revert w os; exact c⟩
theorem run1 : runs.1 := by
  delta runs
  dsimp only
  intro w os
  kernel_rfl
theorem pairS {α A B : Type} {o : Option α} {f : α → A × B} {c : A × B} (h1 : o.map (fun x => (f x).1) = some c.1) (h2 : o.map (fun x => (f x).2) = some c.2) : o.map f = some c := by
  cases o with
  | none => cases h1
  | some x => simp only [Option.map_some, Option.some.injEq] at *; exact Prod.ext h1 h2
noncomputable def looks : (A1 A2 A3 A4 A5 A6 A7 A8 A9 : Prop) ×' (A1 → A2 → A3 → A4 → A5 → A6 → A7 → A8 → A9 → runs.2.1) := ⟨_, _, _, _, _, _, _, _, _,  fun a1 a2 a3 a4 a5 a6 a7 a8 a9 => by
  delta runs
  dsimp only
  intro w os
  refine pairS ?_ (pairS ?_ (pairS ?_ (pairS ?_ (pairS ?_ (pairS ?_ (pairS ?_ (pairS ?_ ?_)))))))
  all_goals (unfold HeadRun.seenQ PySem.W.Fast.tw4187177175401517315 PySem.W.openGood; dsimp only)
  · revert w os; exact a1
  · revert w os; exact a2
  · revert w os; exact a3
  · revert w os; exact a4
  · revert w os; exact a5
  · revert w os; exact a6
  · revert w os; exact a7
  · revert w os; exact a8
  · revert w os; exact a9⟩
theorem look1 : looks.1 := by
  delta looks
  dsimp only
  intro w os
  kernel_rfl
theorem look2 : looks.2.1 := by
  delta looks
  dsimp only
  intro w os
  kernel_rfl
theorem look3 : looks.2.2.1 := by
  delta looks
  dsimp only
  intro w os
  kernel_rfl
theorem look4 : looks.2.2.2.1 := by
  delta looks
  dsimp only
  intro w os
  kernel_rfl
theorem look5 : looks.2.2.2.2.1 := by
  delta looks
  dsimp only
  intro w os
  kernel_rfl
theorem look6 : looks.2.2.2.2.2.1 := by
  delta looks
  dsimp only
  intro w os
  kernel_rfl
theorem look7 : looks.2.2.2.2.2.2.1 := by
  delta looks
  dsimp only
  intro w os
  kernel_rfl
theorem look8 : looks.2.2.2.2.2.2.2.1 := by
  delta looks
  dsimp only
  intro w os
  kernel_rfl
theorem look9 : looks.2.2.2.2.2.2.2.2.1 := by
  delta looks
  dsimp only
  intro w os
  kernel_rfl
theorem run2 : runs.2.1 := looks.2.2.2.2.2.2.2.2.2 look1 look2 look3 look4 look5 look6 look7 look8 look9
theorem run3 : runs.2.2.1 := by
  delta runs
  dsimp only
  intro w os
  kernel_rfl
theorem run : head.1 := runs.2.2.2 run1 run2 run3
end HeadFirst
namespace Q
open PySem PySem.Spec PyProof.Rows L2

/-! ### the mirror's values, objects, results -/
inductive D where
  | non | bl (b : Bool) | int (i : Int) | str (x : Str) | tup (xs : List D) | ref (n : Nat) | ty (n : String) | adr (a : Addr) | kl (xs : List D) | exc (a d : Addr) (n : Nat)
inductive O where
  | lst (xs : List D) | dct (kvs : List (Key × D)) | ins (C : Addr) (fs : List (Str × D)) | xd (fs : List (Str × D)) | tab (P : Addr) (q : Str) | dcT (kvs : List (List Int × D)) | lkT (kvs : List (List Int × D))
abbrev Store := List O
abbrev En := List (Option D)
inductive Res (α : Type) where
  | ok (a : α) (S : Store) | err (C : Addr) (n : Option Nat) (S : Store) | bad
inductive SRes where
  | nx (e : En) (S : Store) | rt (d : D) (S : Store) | bk (e : En) (S : Store) | ct (e : En) (S : Store) | err (C : Addr) (n : Option Nat) (e : En) (S : Store) | bad
def Res.bind {α β : Type} (m : Res α) (f : α → Store → Res β) : Res β := match m with
  | .ok a S => f a S
  | .err C n S => .err C n S
  | .bad => .bad
def ofOpt {α : Type} : Option (α × Store) → Res α
  | some (a, S) => .ok a S
  | none => .bad
/-- an expression's result within a statement -/
def Res.stm {α : Type} (m : Res α) (e : En) (f : α → Store → SRes) : SRes := match m with
  | .ok a S => f a S
  | .err C n S => .err C n e S
  | .bad => .bad

/-! ### the relation with the abstract heap -/
/-- a list that is only read: the script, or an object of the module -/
def SqF (K : PySem.W.Frag) (H : Hp) (a : Addr) (xs : List V) : Prop := (∃ o, H a = some (.frz o (.lst xs))) ∨
  ∃ (o : Obj) (its : Array Value) (n : Nat), K.lookup a = some o ∧ o.cls = .type "list" ∧ o.dict = none ∧ o.data = .seq its n ∧ its.size ≤ sizeLine ∧ Vals xs its.toList
theorem SqF.l {K : PySem.W.Frag} {H : Hp} {a : Addr} {xs : List V} (h : SqF K H a xs) : SqL K H a xs := h.elim (fun q => .inl (.inr q)) .inr
mutual
def VR (K : PySem.W.Frag) (r : List Addr) (H : Hp) : D → V → Prop
  | .non, v => v = .non
  | .bl b, v => v = .bl b
  | .int i, v => v = .int i
  | .str x, v => v = .str x
  | .ty n, v => v = .ty n
  | .adr a, v => v = .ref a
  | .ref n, v => ∃ a, r[n]? = some a ∧ v = .ref a
  | .tup xs, v => ∃ a vs, v = .ref a ∧ H a = some (.tup vs) ∧ VRs K r H xs vs
  | .kl xs, v => ∃ a vs, v = .ref a ∧ SqF K H a vs ∧ VRs K r H xs vs
  | .exc a d n, v => v = .ref a ∧ r[n]? = some d
def VRs (K : PySem.W.Frag) (r : List Addr) (H : Hp) : List D → List V → Prop
  | [], vs => vs = []
  | d :: ds, vs => ∃ v ws, vs = v :: ws ∧ VR K r H d v ∧ VRs K r H ds ws
end
def keyD : D → Option Key
  | .int i => some (.inl i)
  | .str x => some (.inr x)
  | _ => none
def KR (K : PySem.W.Frag) (r : List Addr) (H : Hp) : List (Key × D) → List (Key × V) → Prop
  | [], vs => vs = []
  | p :: ds, vs => ∃ v ws, vs = (p.1, v) :: ws ∧ VR K r H p.2 v ∧ KR K r H ds ws
/-- a dict whose keys are tuples of ints -/
def KTR (K : PySem.W.Frag) (r : List Addr) (H : Hp) : List (List Int × D) → List (List Key × V) → Prop
  | [], vs => vs = []
  | p :: ds, vs => ∃ v ws, vs = (p.1.map Sum.inl, v) :: ws ∧ VR K r H p.2 v ∧ KTR K r H ds ws
def FR (K : PySem.W.Frag) (r : List Addr) (H : Hp) : List (Str × D) → List (Str × V) → Prop
  | [], vs => vs = []
  | p :: ds, vs => ∃ v ws, vs = (p.1, v) :: ws ∧ VR K r H p.2 v ∧ FR K r H ds ws
/-- what is asked of an own class whose instances the store holds -/
structure OwnOk (K : PySem.W.Frag) (C : Addr) : Prop where
  cl : Cls K C
  ha : PySem.W.findIn K (.ref C) "__class__" = some (some (.builtin "object.__class__"))
  hn : PySem.W.specialIn K (.builtin "object.__class__") "__get__" = some (some (.builtin "getset_descriptor.__get__"))
  htk : PySem.W.takesIn K (.builtin "object.__class__") = some true
  hm : PySem.W.mroIn K C (.type "object") = some true
  nT : ∀ T : String, T = "int" ∨ T = "bool" ∨ T = "tuple" ∨ T = "list" ∨ T = "str" ∨ T = "dict" → PySem.W.kitOne K (.ref C) (.type T) = some false
def OR (K : PySem.W.Frag) (r : List Addr) (H : Hp) : O → Addr → Prop
  | .lst xs, a => ∃ vs, H a = some (.lst vs) ∧ VRs K r H xs vs
  | .dct kvs, a => ∃ vs, H a = some (.dK vs) ∧ KR K r H kvs vs
  | .ins C fs, a => ∃ dx vs, H a = some (.ins C dx vs) ∧ FR K r H fs vs ∧ OwnOk K C
  | .xd fs, a => ∃ vs, H a = some (.xd vs) ∧ FR K r H fs vs
  | .tab P q, a => a = P ∧ LamX.TabS H P q
  | .dcT kvs, a => ∃ vs, H a = some (.dT vs) ∧ KTR K r H kvs vs
  | .lkT kvs, a => ∃ o vs, H a = some (.frz o (.dT vs)) ∧ KTR K r H kvs vs
/-- the dict of modules is none of the things that are told -/
def SysOk (K : PySem.W.Frag) (H : Hp) : Prop := (∃ o es ep, K.lookup sysModules = some o ∧ o.data = .dict es ep) ∨ ∃ o u es ep, H sysModules = some (.frz o (.own u)) ∧ o.data = .dict es ep
structure Stp (r : List Addr) (H : Hp) (r' : List Addr) (H' : Hp) : Prop where
  pre : ∀ (n : Nat) (a : Addr), r[n]? = some a → r'[n]? = some a
  tup : ∀ (a : Addr) (xs : List V), H a = some (.tup xs) → H' a = some (.tup xs)
  frz : ∀ (a : Addr) (o : Obj) (u : HO), H a = some (.frz o u) → H' a = some (.frz o u)
  ext : ∀ (a : Addr) (q : Heap → Prop), H a = some (.ext q) → H' a = some (.ext q)
theorem Stp.cod {r r' : List Addr} {H H' : Hp} (s : Stp r H r' H') (a : Addr) (q : Str) (h : H a = some (LamX.CodeO a q)) : H' a = some (LamX.CodeO a q) := s.ext a _ h
/-- what else is known all along (of a lambda that is under way) -/
class Ghost where
  P : List Addr → Hp → Prop
  mono : ∀ {r r' : List Addr} {H H' : Hp}, Stp r H r' H' → P r H → P r' H'
/-- nothing else -/
instance (priority := low) Ghost.no : Ghost := ⟨fun _ _ => True, fun _ _ => trivial⟩
variable [Gh : Ghost]
structure ROk (K : PySem.W.Frag) (r : List Addr) (H : Hp) (S : Store) : Prop where
  sys : SysOk K H
  len : r.length = S.length
  nd : r.Nodup
  ob : ∀ (n : Nat) (o : O) (a : Addr), S[n]? = some o → r[n]? = some a → OR K r H o a
  gh : Gh.P r H
theorem Stp.refl (r : List Addr) (H : Hp) : Stp r H r H := ⟨fun _ _ h => h, fun _ _ h => h, fun _ _ _ h => h, fun _ _ h => h⟩
theorem Stp.trans {r r1 r2 : List Addr} {H H1 H2 : Hp} (a : Stp r H r1 H1) (b : Stp r1 H1 r2 H2) : Stp r H r2 H2 :=
  ⟨fun n x h => b.pre n x (a.pre n x h), fun p xs h => b.tup p xs (a.tup p xs h), fun p o u h => b.frz p o u (a.frz p o u h), fun p q h => b.ext p q (a.ext p q h)⟩
section
variable {K : PySem.W.Frag} {r r' : List Addr} {H H' : Hp}
theorem SysOk.mono (s : Stp r H r' H') (h : SysOk K H) : SysOk K H' := h.elim .inl fun ⟨o, u, es, ep, e, q⟩ => .inr ⟨o, u, es, ep, s.frz _ _ _ e, q⟩
theorem Stp.sqT (s : Stp r H r' H') {a : Addr} {vs : List V} (h : SqT K H a vs) : SqT K H' a vs := by
  rcases h with (h | ⟨o, h⟩) | h
  · exact .inl (.inl (s.tup _ _ h))
  · exact .inl (.inr ⟨o, s.frz _ _ _ h⟩)
  · exact .inr h
theorem Stp.sqF (s : Stp r H r' H') {a : Addr} {vs : List V} (h : SqF K H a vs) : SqF K H' a vs := h.elim (fun ⟨o, q⟩ => .inl ⟨o, s.frz _ _ _ q⟩) .inr
theorem sqT_of {a : Addr} {vs : List V} (h : H a = some (.tup vs)) : SqT K H a vs := .inl (.inl h)
mutual
theorem VR.mono (s : Stp r H r' H') : ∀ {d : D} {v : V}, VR K r H d v → VR K r' H' d v
  | .non, _, h => h
  | .bl _, _, h => h
  | .int _, _, h => h
  | .str _, _, h => h
  | .ty _, _, h => h
  | .adr _, _, h => h
  | .ref _, _, ⟨a, h1, h2⟩ => ⟨a, s.pre _ _ h1, h2⟩
  | .tup _, _, ⟨a, vs, h1, h2, h3⟩ => ⟨a, vs, h1, s.tup _ _ h2, VRs.mono s h3⟩
  | .kl _, _, ⟨a, vs, h1, h2, h3⟩ => ⟨a, vs, h1, s.sqF h2, VRs.mono s h3⟩
  | .exc _ _ _, _, ⟨h1, h2⟩ => ⟨h1, s.pre _ _ h2⟩
theorem VRs.mono (s : Stp r H r' H') : ∀ {ds : List D} {vs : List V}, VRs K r H ds vs → VRs K r' H' ds vs
  | [], _, h => h
  | _ :: _, _, ⟨v, ws, h1, h2, h3⟩ => ⟨v, ws, h1, VR.mono s h2, VRs.mono s h3⟩
end
theorem KR.mono (s : Stp r H r' H') : ∀ {ds : List (Key × D)} {vs : List (Key × V)}, KR K r H ds vs → KR K r' H' ds vs
  | [], _, h => h
  | _ :: _, _, ⟨v, ws, h1, h3, h4⟩ => ⟨v, ws, h1, h3.mono s, KR.mono s h4⟩
theorem KTR.mono (s : Stp r H r' H') : ∀ {ds : List (List Int × D)} {vs : List (List Key × V)}, KTR K r H ds vs → KTR K r' H' ds vs
  | [], _, h => h
  | _ :: _, _, ⟨v, ws, h1, h3, h4⟩ => ⟨v, ws, h1, h3.mono s, KTR.mono s h4⟩
theorem FR.mono (s : Stp r H r' H') : ∀ {ds : List (Str × D)} {vs : List (Str × V)}, FR K r H ds vs → FR K r' H' ds vs
  | [], _, h => h
  | _ :: _, _, ⟨v, ws, h1, h3, h4⟩ => ⟨v, ws, h1, h3.mono s, FR.mono s h4⟩
/-- a tracked object's description where its own object is kept -/
theorem OR.mono (s : Stp r H r' H') {o : O} {a : Addr} (k : H' a = H a) (h : OR K r H o a) : OR K r' H' o a := by
  cases o with
  | lst xs => obtain ⟨vs, h1, h2⟩ := h; exact ⟨vs, k.trans h1, h2.mono s⟩
  | dct kvs => obtain ⟨vs, h1, h2⟩ := h; exact ⟨vs, k.trans h1, h2.mono s⟩
  | ins C fs => obtain ⟨dx, vs, h1, h2, h3⟩ := h; exact ⟨dx, vs, k.trans h1, h2.mono s, h3⟩
  | xd fs => obtain ⟨vs, h1, h2⟩ := h; exact ⟨vs, k.trans h1, h2.mono s⟩
  | dcT kvs => obtain ⟨vs, h1, h2⟩ := h; exact ⟨vs, k.trans h1, h2.mono s⟩
  | lkT kvs => obtain ⟨x, vs, h1, h2⟩ := h; exact ⟨x, vs, k.trans h1, h2.mono s⟩
  | tab P q =>
    obtain ⟨e, ps, h1, h2, h3⟩ := h
    subst e
    refine ⟨rfl, ps, k.trans h1, h2, fun pos cv hc => ?_⟩
    obtain ⟨c, e1, e2⟩ := h3 pos cv hc
    exact ⟨c, e1, s.cod _ _ e2⟩
theorem OR.some {o : O} {a : Addr} (h : OR K r H o a) : H a ≠ none := by
  cases o with
  | lst xs => obtain ⟨vs, h1, h2⟩ := h; rw [h1]; exact fun z => nomatch z
  | dct kvs => obtain ⟨vs, h1, h2⟩ := h; rw [h1]; exact fun z => nomatch z
  | ins C fs => obtain ⟨dx, vs, h1, h2⟩ := h; rw [h1]; exact fun z => nomatch z
  | xd fs => obtain ⟨vs, h1, h2⟩ := h; rw [h1]; exact fun z => nomatch z
  | dcT kvs => obtain ⟨vs, h1, h2⟩ := h; rw [h1]; exact fun z => nomatch z
  | lkT kvs => obtain ⟨x, u, h1, _⟩ := h; rw [h1]; exact fun z => nomatch z
  | tab P q => obtain ⟨e, ps, h1, _⟩ := h; subst e; rw [h1]; exact fun z => nomatch z
theorem ROk.at {S : Store} (h : ROk K r H S) {n : Nat} {o : O} (e : S[n]? = some o) : ∃ a, r[n]? = some a ∧ OR K r H o a := by
  have hn : n < r.length := by rw [h.len]; exact (List.getElem?_eq_some_iff.mp e).1
  exact ⟨r[n], List.getElem?_eq_getElem hn, h.ob n o _ e (List.getElem?_eq_getElem hn)⟩
/-- a new object -/
theorem Stp.new {p : Addr} {u : HO} (hp : H p = none) : Stp r H (r ++ [p]) (upd H p u) :=
  ⟨fun n a h => by rw [List.getElem?_append_left (List.getElem?_eq_some_iff.mp h).1]; exact h,
   fun a xs h => by rw [upd_ne (ne_of_none h hp)]; exact h, fun a o u h => by rw [upd_ne (ne_of_none h hp)]; exact h, fun a q h => by rw [upd_ne (ne_of_none h hp)]; exact h⟩
theorem ROk.mem_ne {S : Store} (h : ROk K r H S) {p : Addr} (hp : H p = none) : p ∉ r := fun hm => by
  obtain ⟨n, hn, e⟩ := List.getElem_of_mem hm
  have hS : n < S.length := by rw [← h.len]; exact hn
  have := (h.ob n S[n] p (List.getElem?_eq_getElem hS) (by rw [List.getElem?_eq_getElem hn, e])).some
  exact this hp
theorem ROk.new {S : Store} (h : ROk K r H S) {p : Addr} {u : HO} {o : O} (hp : H p = none) (ho : OR K (r ++ [p]) (upd H p u) o p) : ROk K (r ++ [p]) (upd H p u) (S ++ [o]) where
  sys := h.sys.mono (Stp.new (r := r) hp)
  gh := Ghost.mono (Stp.new hp) h.gh
  len := by rw [List.length_append, List.length_append, h.len]; rfl
  nd := List.nodup_append.mpr ⟨h.nd, by simp, fun a ha b hb => by
    rw [List.mem_singleton.mp hb]
    intro e
    exact h.mem_ne hp (e ▸ ha)⟩
  ob := fun n o' a e1 e2 => by
    by_cases hn : n < S.length
    · rw [List.getElem?_append_left hn] at e1
      rw [List.getElem?_append_left (by rw [h.len]; exact hn)] at e2
      have hne : a ≠ p := fun e => h.mem_ne hp (e ▸ List.mem_of_getElem? e2)
      exact (h.ob n o' a e1 e2).mono (Stp.new hp) (upd_ne hne)
    · have hl : n < (S ++ [o]).length := (List.getElem?_eq_some_iff.mp e1).1
      rw [List.length_append] at hl
      have en : n = S.length := by simp at hl; omega
      subst en
      rw [List.getElem?_append_right (Nat.le_refl _), Nat.sub_self] at e1
      rw [List.getElem?_append_right (by rw [h.len]; exact Nat.le_refl _), h.len, Nat.sub_self] at e2
      cases e1; cases e2
      exact ho
/-- a fresh object that the store doesn't hold -/
theorem Stp.loose {p : Addr} {u : HO} (hp : H p = none) : Stp r H r (upd H p u) :=
  ⟨fun n a h => h, fun a xs h => by rw [upd_ne (ne_of_none h hp)]; exact h, fun a o u h => by rw [upd_ne (ne_of_none h hp)]; exact h, fun a q h => by rw [upd_ne (ne_of_none h hp)]; exact h⟩
theorem ROk.loose {S : Store} (h : ROk K r H S) {p : Addr} {u : HO} (hp : H p = none) : ROk K r (upd H p u) S where
  sys := h.sys.mono (Stp.loose (r := r) hp)
  gh := Ghost.mono (Stp.loose hp) h.gh
  len := h.len
  nd := h.nd
  ob := fun n o' a e1 e2 => (h.ob n o' a e1 e2).mono (Stp.loose hp) (upd_ne fun e => h.mem_ne hp (e ▸ List.mem_of_getElem? e2))
/-- an object changed -/
theorem Stp.mut {p : Addr} {u v : HO} (hp : H p = some v) (hv : Mut (some v)) (hx : ∀ F, v ≠ .ext F := by intro _ z; cases z) : Stp r H r (upd H p u) :=
  ⟨fun n a h => h, fun a xs h => by
    rw [upd_ne]; · exact h
    intro e; subst e; rw [hp] at h; cases h; exact hv, fun a o u h => by
    rw [upd_ne]; · exact h
    intro e; subst e; rw [hp] at h; cases h; exact hv, fun a q h => by
    rw [upd_ne]; · exact h
    intro e; subst e; rw [hp] at h; exact hx _ (Option.some.inj h)⟩
theorem ROk.mut {S : Store} (h : ROk K r H S) {n : Nat} {p : Addr} {u v : HO} {o : O} (hn : r[n]? = some p) (hp : H p = some v) (hv : Mut (some v)) (ho : OR K r (upd H p u) o p) (hx : ∀ F, v ≠ .ext F := by intro _ z; cases z) : ROk K r (upd H p u) (S.set n o) where
  sys := h.sys.mono (Stp.mut (r := r) hp hv hx)
  gh := Ghost.mono (Stp.mut hp hv hx) h.gh
  len := by rw [List.length_set]; exact h.len
  nd := h.nd
  ob := fun m o' a e1 e2 => by
    by_cases e : m = n
    · subst e
      rw [hn] at e2; cases e2
      have hl : m < S.length := by rw [← h.len]; exact (List.getElem?_eq_some_iff.mp hn).1
      rw [List.getElem?_set_self hl] at e1
      cases e1
      exact ho
    · rw [List.getElem?_set_ne (Ne.symm e)] at e1
      have hne : a ≠ p := fun z => by
        subst z
        obtain ⟨h1, q1⟩ := List.getElem?_eq_some_iff.mp e2
        obtain ⟨h2, q2⟩ := List.getElem?_eq_some_iff.mp hn
        exact e ((List.getElem_inj h.nd).mp (q1.trans q2.symm))
      exact (h.ob m o' a e1 e2).mono (Stp.mut hp hv hx) (upd_ne hne)
theorem VRs.length : ∀ {ds : List D} {vs : List V}, VRs K r H ds vs → ds.length = vs.length
  | [], _, h => by subst h; rfl
  | _ :: _, _, ⟨v, ws, h1, _, h3⟩ => by subst h1; simp [VRs.length h3]
theorem VRs.get : ∀ {ds : List D} {vs : List V} {i : Nat} {d : D}, VRs K r H ds vs → ds[i]? = some d → ∃ v, vs[i]? = some v ∧ VR K r H d v
  | [], _, _, _, _, e => by simp at e
  | _ :: _, _, 0, _, ⟨v, ws, h1, h2, _⟩, e => by subst h1; simp at e; subst e; exact ⟨v, rfl, h2⟩
  | _ :: _, _, i + 1, _, ⟨v, ws, h1, _, h3⟩, e => by subst h1; simp at e; simpa using VRs.get h3 e
theorem VRs.append : ∀ {ds es : List D} {vs ws : List V}, VRs K r H ds vs → VRs K r H es ws → VRs K r H (ds ++ es) (vs ++ ws)
  | [], _, _, _, h, k => by subst h; exact k
  | _ :: _, _, _, _, ⟨v, us, h1, h2, h3⟩, k => by subst h1; exact ⟨v, us ++ _, rfl, h2, VRs.append h3 k⟩
theorem VRs.take : ∀ {ds : List D} {vs : List V} (n : Nat), VRs K r H ds vs → VRs K r H (ds.take n) (vs.take n)
  | [], _, n, h => by subst h; simp [VRs]
  | _ :: _, _, 0, ⟨v, us, h1, h2, h3⟩ => by simp [VRs]
  | _ :: _, _, n + 1, ⟨v, us, h1, h2, h3⟩ => by subst h1; exact ⟨v, us.take n, by simp, h2, VRs.take n h3⟩
theorem VRs.drop : ∀ {ds : List D} {vs : List V} (n : Nat), VRs K r H ds vs → VRs K r H (ds.drop n) (vs.drop n)
  | [], _, n, h => by subst h; simp [VRs]
  | _ :: _, _, 0, h => by simpa using h
  | _ :: _, _, n + 1, ⟨v, us, h1, h2, h3⟩ => by subst h1; simpa using VRs.drop n h3
theorem VRs.set : ∀ {ds : List D} {vs : List V} {d : D} {v : V} (i : Nat), VR K r H d v → VRs K r H ds vs → VRs K r H (ds.set i d) (vs.set i v)
  | [], _, _, _, _, _, h => by subst h; simp [VRs]
  | _ :: _, _, _, _, 0, k, ⟨v, us, h1, h2, h3⟩ => by subst h1; exact ⟨_, _, rfl, k, h3⟩
  | _ :: _, _, _, _, i + 1, k, ⟨v, us, h1, h2, h3⟩ => by subst h1; exact ⟨_, _, rfl, h2, VRs.set i k h3⟩
theorem VRs.one {d : D} {v : V} (h : VR K r H d v) : VRs K r H [d] [v] := ⟨v, [], rfl, h, rfl⟩
end
end Q

namespace Q
open PySem PySem.Spec PyProof.Rows L2
variable [Gh : Ghost]

/-! ### weakest readings -/
def wE (X : Cx) (e : Expr) : TE := fun σ H Q => ∀ (pins : List (Addr × Obj)) (s : Shared), Inv X pins σ H s → wpAny (model X.prog X.w) X.A (eval e X.env) (EP X pins σ Q) X.xe s
def wT (X : Cx) (e : Expr) : TT := fun σ H Q => ∀ (pins : List (Addr × Obj)) (s : Shared), Inv X pins σ H s → wpAny (model X.prog X.w) X.A (isTrue e X.env (eval e X.env)) (TP X pins σ Q) X.xe s
def wA (X : Cx) (es : List Expr) : TA := fun σ H Q => ∀ (pos : Pos) (pins : List (Addr × Obj)) (s : Shared), Inv X pins σ H s → wpAny (model X.prog X.w) X.A (spliced (backTo pos (starEach es X.env))) (AP X pins σ Q) X.xe s
def wS (X : Cx) (st : Stmt) : TS := fun D σ H => ∀ (pins : List (Addr × Obj)) (s : Shared), Inv X pins σ H s → wpAny (model X.prog X.w) X.A (exec st X.env) (SP X pins D) X.xe s
def wSs (X : Cx) (st : List Stmt) : TS := fun D σ H => ∀ (pins : List (Addr × Obj)) (s : Shared), Inv X pins σ H s → wpAny (model X.prog X.w) X.A (execs st X.env) (SP X pins D) X.xe s
theorem pe_wE (X : Cx) (e : Expr) : PE X e (wE X e) := ⟨fun pins s _ _ _ I h => h pins s I⟩
theorem pt_wT (X : Cx) (e : Expr) : PT X e (wT X e) := ⟨fun pins s _ _ _ I h => h pins s I⟩
theorem pa_wA (X : Cx) (es : List Expr) : PA X es (wA X es) := ⟨fun pos pins s _ _ _ I h => h pos pins s I⟩
theorem ps_wS (X : Cx) (st : Stmt) : PS X st (wS X st) := ⟨fun pins s _ _ _ I h => h pins s I⟩
theorem pss_wSs (X : Cx) (st : List Stmt) : PSs X st (wSs X st) := ⟨fun pins s _ _ _ I h => h pins s I⟩
/-- operators by values -/
def wO (X : Cx) (f : Value → Value → Sem Value) : R2 := fun x y H Q => ∀ (pins : List (Addr × Obj)) (s : Shared) (σ : L2.St) (v u : Value), Inv X pins σ H s → RelV x v → RelV y u → wpAny (model X.prog X.w) X.A (f v u) (EP X pins σ Q) X.xe s
theorem opr_wO (X : Cx) (f : Value → Value → Sem Value) : OpR X f (wO X f) := fun pins s σ _ _ _ v u _ I rx ry h => h pins s σ v u I rx ry
def wU (X : Cx) (f : Value → Sem Value) : V → Hp → VK → Prop := fun x H Q => ∀ (pins : List (Addr × Obj)) (s : Shared) (σ : L2.St) (v : Value), Inv X pins σ H s → RelV x v → wpAny (model X.prog X.w) X.A (f v) (EP X pins σ Q) X.xe s
theorem unr_wU (X : Cx) (f : Value → Sem Value) : UnR X f (wU X f) := fun pins s σ _ _ v _ I rx h => h pins s σ v I rx
def wC (X : Cx) (f : Value) : List V → Hp → VK → Prop := fun xs H Q => ∀ (pins : List (Addr × Obj)) (s : Shared) (σ : L2.St) (us : List Value), Inv X pins σ H s → Vals xs us → wpAny (model X.prog X.w) X.A (call f us) (EP X pins σ Q) X.xe s
theorem callr_wC (X : Cx) (f : Value) : CallR X f (wC X f) := fun pins s σ _ _ us _ I r h => h pins s σ us I r

/-! ### what a result promises -/
def NR (r : List Addr) (n : Option Nat) (x : Option Addr) : Prop := match n with
  | none => x = none
  | some n => ∃ a, r[n]? = some a ∧ x = some a
/-- β: the values; R: how the mirror's thing is told by the value -/
def Dn (K : PySem.W.Frag) (r : List Addr) (H : Hp) {α β : Type} (R : List Addr → Hp → α → β → Prop) (m : Res α) (Q : β → Hp → Prop) (W : XK) : Prop := match m with
  | .ok a S' => ∀ (r' : List Addr) (H' : Hp) (v : β), Stp r H r' H' → ROk K r' H' S' → R r' H' a v → Q v H'
  | .err C n S' => ∀ (r' : List Addr) (H' : Hp) (x : Option Addr), Stp r H r' H' → ROk K r' H' S' → NR r' n x → W (.ref C) x H'
  | .bad => False
def RT : List Addr → Hp → Bool → Bool → Prop := fun _ _ a b => b = a
section
variable {K : PySem.W.Frag} {r r1 : List Addr} {H H1 : Hp} {α β γ δ : Type} {R : List Addr → Hp → α → β → Prop} {R2 : List Addr → Hp → γ → δ → Prop} {m : Res α} {f : α → Store → Res γ} {Q : β → Hp → Prop} {Q2 : δ → Hp → Prop} {W : XK}
theorem Dn.mono (s : Stp r H r1 H1) (h : Dn K r H R m Q W) : Dn K r1 H1 R m Q W := by
  cases m with
  | ok a S => exact fun r' H' v s' o k => h r' H' v (s.trans s') o k
  | err C n S => exact fun r' H' x s' o k => h r' H' x (s.trans s') o k
  | bad => exact h
theorem Dn.imp {Q' : β → Hp → Prop} (h : Dn K r H R m Q W) (q : ∀ v H', Q v H' → Q' v H') : Dn K r H R m Q' W := by
  cases m with
  | ok a S => exact fun r' H' v s' o k => q _ _ (h r' H' v s' o k)
  | err C n S => exact fun r' H' x s' o k => h r' H' x s' o k
  | bad => exact h
theorem Dn.bind (h : Dn K r H R2 (m.bind f) Q2 W) : Dn K r H R m (fun v H1 => ∃ a S1 r1, m = .ok a S1 ∧ Stp r H r1 H1 ∧ ROk K r1 H1 S1 ∧ R r1 H1 a v ∧ Dn K r1 H1 R2 (f a S1) Q2 W) W := by
  cases m with
  | ok a S => exact fun r' H' v s o k => ⟨a, S, r', rfl, s, o, k, Dn.mono s h⟩
  | err C n S => exact fun r' H' x s' o k => h r' H' x s' o k
  | bad => exact h
theorem Dn.ok_here {S : Store} {a : α} {v : β} (h : Dn K r H R (.ok a S) Q W) (o : ROk K r H S) (k : R r H a v) : Q v H := h r H v (Stp.refl _ _) o k
end

/-! ### slots -/
structure ER (K : PySem.W.Frag) (r : List Addr) (H : Hp) (e : En) (σ : L2.St) : Prop where
  len : e.length = σ.length
  at_ : ∀ (i : Nat) (d : D), e[i]? = some (some d) → ∃ v, σ[i]? = some (some v) ∧ VR K r H d v
theorem ER.mono {K : PySem.W.Frag} {r r' : List Addr} {H H' : Hp} {e : En} {σ : L2.St} (s : Stp r H r' H') (h : ER K r H e σ) : ER K r' H' e σ :=
  ⟨h.len, fun i d q => let ⟨v, h1, h2⟩ := h.at_ i d q; ⟨v, h1, h2.mono s⟩⟩
theorem ER.set {K : PySem.W.Frag} {r : List Addr} {H : Hp} {e : En} {σ : L2.St} {i : Nat} {d : D} {v : V} (h : ER K r H e σ) (k : VR K r H d v) : ER K r H (e.set i (some d)) (σ.set i (some v)) :=
  ⟨by rw [List.length_set, List.length_set]; exact h.len, fun j d' q => by
    by_cases e' : j = i
    · subst e'
      by_cases hl : j < e.length
      · rw [List.getElem?_set_self hl] at q
        cases q
        exact ⟨v, by rw [List.getElem?_set_self (by rw [← h.len]; exact hl)], k⟩
      · rw [List.getElem?_eq_none (by rw [List.length_set]; omega)] at q
        cases q
    · rw [List.getElem?_set_ne (Ne.symm e')] at q
      obtain ⟨v', h1, h2⟩ := h.at_ j d' q
      exact ⟨v', by rw [List.getElem?_set_ne (Ne.symm e')]; exact h1, h2⟩⟩
/-! ### the judgements -/
abbrev ME := En → Store → Res D
abbrev MT := En → Store → Res Bool
abbrev MA := En → Store → Res (List D)
def WE (W : WX) (σ : L2.St) : XK := fun c x H => W c x σ H
structure SndE (X : Cx) (e : Expr) (m : ME) : Prop where
  run : ∀ (W : WX), Takes X W → ∀ (en : En) (σ : L2.St) (r : List Addr) (H : Hp) (S : Store) (Q : VK), ER X.K r H en σ → ROk X.K r H S → Dn X.K r H (VR X.K) (m en S) Q (WE W σ) → wE X e σ H Q
structure SndT (X : Cx) (e : Expr) (m : MT) : Prop where
  run : ∀ (W : WX), Takes X W → ∀ (en : En) (σ : L2.St) (r : List Addr) (H : Hp) (S : Store) (Q : Bool → Hp → Prop), ER X.K r H en σ → ROk X.K r H S → Dn X.K r H RT (m en S) Q (WE W σ) → wT X e σ H Q
structure SndA (X : Cx) (es : List Expr) (m : MA) : Prop where
  run : ∀ (W : WX), Takes X W → ∀ (en : En) (σ : L2.St) (r : List Addr) (H : Hp) (S : Store) (Q : List V → Hp → Prop), ER X.K r H en σ → ROk X.K r H S → Dn X.K r H (VRs X.K) (m en S) Q (WE W σ) → wA X es σ H Q
theorem wE_of {X : Cx} {e : Expr} {t : TE} (h : PE X e t) {σ : L2.St} {H : Hp} {Q : VK} (q : t σ H Q) : wE X e σ H Q := fun pins s I => h.run pins s σ H Q I q
theorem wT_of {X : Cx} {e : Expr} {t : TT} (h : PT X e t) {σ : L2.St} {H : Hp} {Q : Bool → Hp → Prop} (q : t σ H Q) : wT X e σ H Q := fun pins s I => h.run pins s σ H Q I q
theorem wA_of {X : Cx} {e : List Expr} {t : TA} (h : PA X e t) {σ : L2.St} {H : Hp} {Q : List V → Hp → Prop} (q : t σ H Q) : wA X e σ H Q := fun pos pins s I => h.run pos pins s σ H Q I q

/-! ### names, constants -/
def mVar (i : Nat) : ME := fun en S => match en[i]? with
  | some (some d) => .ok d S
  | _ => .bad
def mC (d : D) : ME := fun _ S => .ok d S
section
variable {X : Cx} {a b c : Expr} {ma mb mc : ME} {pos : Pos}
theorem e_var {i : Nat} {x : Str} {pos : Pos} (hN : X.N[i]? = some x) (hv : Vis X.env.scope x) (hd : (x == ("__debug__" : Str)) = false := by decide) (hcd : (x == ("__classdict__" : Str)) = false := by decide) : SndE X (.Name x pos) (mVar i) := by
  refine ⟨?_⟩
  intro W tk en σ r H S Q er ro dn
  refine wE_of (pe_var hN hv hd hcd) ?_
  unfold mVar at dn
  cases h : en[i]? with
  | none => rw [h] at dn; exact dn.elim
  | some o =>
    cases o with
    | none => rw [h] at dn; exact dn.elim
    | some d =>
      rw [h] at dn
      obtain ⟨v, h1, h2⟩ := er.at_ i d h
      exact ⟨v, h1, dn.ok_here ro h2⟩
theorem e_const {e : Expr} {d : D} {v : V} (h : PE X e (tC v)) (k : ∀ r H, VR X.K r H d v) : SndE X e (mC d) := by
  refine ⟨?_⟩
  intro W tk en σ r H S Q er ro dn
  exact wE_of h (Dn.ok_here (R := VR X.K) dn ro (k r H))
theorem e_int {i : Int} {j pos} : SndE X (.Constant (.int i) j pos) (mC (.int i)) := e_const pe_int fun _ _ => rfl
theorem e_bl {b j pos} : SndE X (.Constant (.bool b) j pos) (mC (.bl b)) := e_const pe_bl fun _ _ => rfl
theorem e_non {j pos} : SndE X (.Constant .none j pos) (mC .non) := e_const pe_non fun _ _ => rfl
theorem e_str {x j pos} : SndE X (.Constant (.str x) j pos) (mC (.str x)) := e_const pe_str fun _ _ => rfl
/-- a module's constant -/
theorem e_glob {x : Str} {d : D} {v : V} {u : Value} {pos : Pos} (hg : Gl X x) (hm : X.mg x = some u) (r : RelV v u) (k : ∀ r H, VR X.K r H d v) (hd : (x == ("__debug__" : Str)) = false := by decide) : SndE X (.Name x pos) (mC d) := e_const (pe_glob hg hm r hd) k
/-! ### operators -/
abbrev G2 := D → D → Store → Option (D × Store)
abbrev G1 := D → Store → Option (D × Store)
abbrev GN := List D → Store → Option (D × Store)
/-- the end of an operation by values -/
abbrev Ed (K : PySem.W.Frag) (r : List Addr) (H : Hp) (z : D) (S' : Store) (Q : VK) : Prop := ∀ (r' : List Addr) (H' : Hp) (v : V), Stp r H r' H' → ROk K r' H' S' → VR K r' H' z v → Q v H'
structure OpD (X : Cx) (f : Value → Value → Sem Value) (g : G2) : Prop where
  run : ∀ (d e z : D) (x y : V) (r : List Addr) (H : Hp) (S S' : Store) (Q : VK), g d e S = some (z, S') → VR X.K r H d x → VR X.K r H e y → ROk X.K r H S → Ed X.K r H z S' Q → wO X f x y H Q
structure UnD (X : Cx) (f : Value → Sem Value) (g : G1) : Prop where
  run : ∀ (d z : D) (x : V) (r : List Addr) (H : Hp) (S S' : Store) (Q : VK), g d S = some (z, S') → VR X.K r H d x → ROk X.K r H S → Ed X.K r H z S' Q → wU X f x H Q
structure CallD (X : Cx) (f : Value) (g : GN) : Prop where
  run : ∀ (ds : List D) (z : D) (xs : List V) (r : List Addr) (H : Hp) (S S' : Store) (Q : VK), g ds S = some (z, S') → VRs X.K r H ds xs → ROk X.K r H S → Ed X.K r H z S' Q → wC X f xs H Q
theorem dn_ofOpt {K : PySem.W.Frag} {r : List Addr} {H : Hp} {o : Option (D × Store)} {Q : VK} {W : XK} (h : Dn K r H (VR K) (ofOpt o) Q W) : ∃ z S', o = some (z, S') ∧ Ed K r H z S' Q := by
  cases o with
  | none => exact h.elim
  | some p => exact ⟨p.1, p.2, rfl, h⟩
def m2 (g : G2) (ma mb : ME) : ME := fun en S => (ma en S).bind fun d S1 => (mb en S1).bind fun e S2 => ofOpt (g d e S2)
def m1 (g : G1) (ma : ME) : ME := fun en S => (ma en S).bind fun d S1 => ofOpt (g d S1)
/-- two operands, then an operation by values -/
theorem two {W : WX} {en : En} {σ : L2.St} {r : List Addr} {H : Hp} {S : Store} {Q : VK} {rd : V → V → Hp → VK → Prop} {g : G2} (ha : SndE X a ma) (hb : SndE X b mb)
    (hr : ∀ (d e z : D) (x y : V) (r : List Addr) (H : Hp) (S S' : Store), g d e S = some (z, S') → VR X.K r H d x → VR X.K r H e y → ROk X.K r H S → Ed X.K r H z S' Q → rd x y H Q)
    (tk : Takes X W) (er : ER X.K r H en σ) (ro : ROk X.K r H S) (dn : Dn X.K r H (VR X.K) (m2 g ma mb en S) Q (WE W σ)) : tOp rd (wE X a) (wE X b) σ H Q := by
  refine ha.run W tk en σ r H S _ er ro (Dn.imp (Dn.bind dn) fun x H1 ⟨d, S1, r1, e1, s1, o1, k1, d1⟩ => ?_)
  refine hb.run W tk en σ r1 H1 S1 _ (er.mono s1) o1 (Dn.imp (Dn.bind d1) fun y H2 ⟨e, S2, r2, e2, s2, o2, k2, d2⟩ => ?_)
  obtain ⟨z, S', g1, ed⟩ := dn_ofOpt d2
  exact hr d e z x y r2 H2 S2 S' g1 (k1.mono s2) k2 o2 ed
theorem e_op {op : Operator} {g : G2} (ho : OpD X (binaryOp op) g) (ha : SndE X a ma) (hb : SndE X b mb) : SndE X (.BinOp a op b pos) (m2 g ma mb) := by
  refine ⟨?_⟩
  intro W tk en σ r H S Q er ro dn
  exact wE_of (pe_op (opr_wO X _) (pe_wE X a) (pe_wE X b)) (two ha hb (fun d e z x y r H S S' g1 k1 k2 o ed => ho.run d e z x y r H S S' Q g1 k1 k2 o ed) tk er ro dn)
theorem e_un {op : UnaryOp} {g : G1} (ho : UnD X (unaryOp op) g) (ha : SndE X a ma) : SndE X (.UnaryOp op a pos) (m1 g ma) := by
  refine ⟨?_⟩
  intro W tk en σ r H S Q er ro dn
  refine wE_of (pe_un (unr_wU X _) (pe_wE X a)) ?_
  refine ha.run W tk en σ r H S _ er ro (Dn.imp (Dn.bind dn) fun x H1 ⟨d, S1, r1, e1, s1, o1, k1, d1⟩ => ?_)
  obtain ⟨z, S', g1, ed⟩ := dn_ofOpt d1
  exact ho.run d z x r1 H1 S1 S' Q g1 k1 o1 ed
/-- a comparison -/
theorem e_cmp {op : CmpOp} {g : G2} (ho : OpD X (compareOp op) g) (ha : SndE X a ma) (hb : SndE X b mb) (hm : behindInMarks op b = false) : SndE X (.Compare a [op] [b] pos) (m2 g ma mb) := by
  refine ⟨?_⟩
  intro W tk en σ r H S Q er ro dn
  exact wE_of (pe_cmpR (opr_wO X _) (pe_wE X a) (pe_wE X b) hm) (two ha hb (fun d e z x y r H S S' g1 k1 k2 o ed => ho.run d e z x y r H S S' Q g1 k1 k2 o ed) tk er ro dn)
end
end Q

namespace Q
open PySem PySem.Spec PyProof.Rows L2
variable [Gh : Ghost]
section
variable {X : Cx} {a b c : Expr} {ma mb mc : ME} {mt mu : MT} {rest : List Expr} {pos : Pos}
/-! ### tests -/
def boolD : D → Option Bool
  | .bl b => some b
  | _ => none
def asB (o : Option Bool) (S : Store) : Res Bool := match o with
  | some b => .ok b S
  | none => .bad
def mB (m : ME) : MT := fun en S => (m en S).bind fun d S1 => asB (boolD d) S1
/-- truth -/
def truD (d : D) (S : Store) : Option Bool := match d with
  | .non => some false
  | .bl b => some b
  | .int i => some (i != 0)
  | .str y => if y.length ≤ sizeLine then some ((y.length : Int) != 0) else none
  | .tup xs => some (!xs.isEmpty)
  | .kl xs => some (!xs.isEmpty)
  | .ref n => match S[n]? with
    | some (.lst xs) => some (!xs.isEmpty)
    | some (.dct kvs) => some (!kvs.isEmpty)
    | _ => none
  | _ => none
def mTr (m : ME) : MT := fun en S => (m en S).bind fun d S1 => asB (truD d S1) S1
theorem VRs.isEmpty {K : PySem.W.Frag} {r : List Addr} {H : Hp} {ds : List D} {vs : List V} (h : VRs K r H ds vs) : ds.isEmpty = vs.isEmpty := by
  cases ds with
  | nil => have : vs = [] := h; rw [this]; rfl
  | cons d l => obtain ⟨v, w, e, _⟩ := h; rw [e]; rfl
theorem KR.isEmpty {K : PySem.W.Frag} {r : List Addr} {H : Hp} {ds : List (Key × D)} {vs : List (Key × V)} (h : KR K r H ds vs) : ds.isEmpty = vs.isEmpty := by
  cases ds with
  | nil => have : vs = [] := h; rw [this]; rfl
  | cons d l => obtain ⟨v, w, e, _⟩ := h; rw [e]; rfl
theorem truD_ok {K : PySem.W.Frag} {r : List Addr} {H : Hp} {S : Store} {d : D} {x : V} {k : Bool} (ro : ROk K r H S) (h : VR K r H d x) (e : truD d S = some k) : TruV K x H k := by
  cases d with
  | non => have h : x = .non := h; subst h; exact (Option.some.inj e).symm
  | bl b => have h : x = .bl b := h; subst h; exact (Option.some.inj e).symm
  | int i => have h : x = .int i := h; subst h; exact (Option.some.inj e).symm
  | str y =>
    have h : x = .str y := h; subst h
    unfold truD at e
    dsimp only at e
    by_cases hl : y.length ≤ sizeLine
    · rw [if_pos hl] at e; exact ⟨hl, (Option.some.inj e).symm⟩
    · rw [if_neg hl] at e; cases e
  | tup xs =>
    obtain ⟨p, vs, rfl, hs, hv⟩ := h
    refine .inr (.inl ⟨vs, sqT_of hs, ?_⟩)
    rw [← hv.isEmpty]; exact (Option.some.inj e).symm
  | ref n =>
    obtain ⟨p, hp, rfl⟩ := h
    unfold truD at e
    dsimp only at e
    cases q : S[n]? with
    | none => rw [q] at e; cases e
    | some o =>
      rw [q] at e
      have ho := ro.ob n o p q hp
      cases o with
      | lst xs => obtain ⟨vs, h1, h2⟩ := ho; exact .inl ⟨vs, .of h1, by rw [← h2.isEmpty]; exact (Option.some.inj e).symm⟩
      | dct kvs => obtain ⟨vs, h1, h2⟩ := ho; exact .inr (.inr ⟨vs, h1, by rw [← h2.isEmpty]; exact (Option.some.inj e).symm⟩)
      | ins C fs => cases e
      | xd fs => cases e
      | tab P q => cases e
      | dcT kvs => cases e
      | lkT kvs => cases e
  | ty n => cases e
  | adr a => cases e
  | exc a d n => cases e
  | kl xs =>
    obtain ⟨p, vs, rfl, hs, hv⟩ := h
    refine .inl ⟨vs, hs.l, ?_⟩
    rw [← hv.isEmpty]; exact (Option.some.inj e).symm
/-- an expression whose test is its value's truth -/
theorem t_tru (ha : SndE X a ma) (he : ∀ whole, isTrue a X.env whole = (do let v ← whole; standAt a.pos; holding [v] (truthy v)) := by intro _; rfl) : SndT X a (mTr ma) := by
  refine ⟨?_⟩
  intro W tk en σ r H S Q er ro dn
  refine wT_of (pt_truth (pe_wE X a) he) ?_
  refine ha.run W tk en σ r H S _ er ro (Dn.imp (Dn.bind dn) fun x H1 ⟨d, S1, r1, e1, s1, o1, k1, d1⟩ => ?_)
  cases q : truD d S1 with
  | none => rw [q] at d1; exact d1.elim
  | some k => rw [q] at d1; exact ⟨k, truD_ok o1 k1 q, d1.ok_here o1 rfl⟩
theorem bool_of {K : PySem.W.Frag} {r : List Addr} {H : Hp} {x : V} {d : D} {S : Store} {Q : Bool → Hp → Prop} {W : XK} (k : VR K r H d x) (o : ROk K r H S)
    (dn : Dn K r H RT (asB (boolD d) S) Q W) : ∃ b, x = .bl b ∧ Q b H := by
  cases d with
  | bl b => exact ⟨b, k, dn.ok_here o rfl⟩
  | _ => exact dn.elim
/-- a comparison as a test: its answer a bool -/
theorem t_cmp {op : CmpOp} {g : G2} (ho : OpD X (compareOp op) g) (ha : SndE X a ma) (hb : SndE X b mb) (hm : behindInMarks op b = false) : SndT X (.Compare a [op] [b] pos) (mB (m2 g ma mb)) := by
  refine ⟨?_⟩
  intro W tk en σ r H S Q er ro dn
  refine wT_of (pt_cmpR (opr_wO X _) (pe_wE X a) (pe_wE X b) hm) ?_
  have dn2 : Dn X.K r H (VR X.K) (m2 g ma mb en S) (fun x H' => ∃ b, x = .bl b ∧ Q b H') (WE W σ) := Dn.imp (Dn.bind dn) fun x H1 ⟨d, S1, r1, e1, s1, o1, k1, d1⟩ => bool_of k1 o1 d1
  exact two (Q := fun x H' => ∃ b, x = .bl b ∧ Q b H') (rd := wO X (compareOp op)) ha hb (fun d e z x y r H S S' g1 k1 k2 o ed => ho.run d e z x y r H S S' _ g1 k1 k2 o ed) tk er ro dn2
/-- a op1 b op2 c -/
def mChain (g g' : G2) (ma mb mc : ME) : ME := fun en S => (ma en S).bind fun d S1 => (mb en S1).bind fun e S2 => (ofOpt (g d e S2)).bind fun z S3 => match z with
  | .bl true => (mc en S3).bind fun f S4 => ofOpt (g' e f S4)
  | .bl false => .ok (.bl false) S3
  | _ => .bad
theorem chain_rd {op op' : CmpOp} {g g' : G2} (ho : OpD X (compareOp op) g) (ho' : OpD X (compareOp op') g') (ha : SndE X a ma) (hb : SndE X b mb) (hc : SndE X c mc)
    {W : WX} {en : En} {σ : L2.St} {r : List Addr} {H : Hp} {S : Store} {Q : VK} (tk : Takes X W) (er : ER X.K r H en σ) (ro : ROk X.K r H S) (dn : Dn X.K r H (VR X.K) (mChain g g' ma mb mc en S) Q (WE W σ)) :
    tChain (wO X (compareOp op)) (wO X (compareOp op')) (wE X a) (wE X b) (wE X c) σ H Q := by
  refine ha.run W tk en σ r H S _ er ro (Dn.imp (Dn.bind dn) fun x H1 ⟨d, S1, r1, e1, s1, o1, k1, d1⟩ => ?_)
  refine hb.run W tk en σ r1 H1 S1 _ (er.mono s1) o1 (Dn.imp (Dn.bind d1) fun y H2 ⟨e, S2, r2, e2, s2, o2, k2, d2⟩ => ?_)
  cases q : g d e S2 with
  | none => rw [q] at d2; exact d2.elim
  | some p =>
    obtain ⟨z, S3⟩ := p
    rw [q] at d2
    refine ho.run d e z x y r2 H2 S2 S3 _ q (k1.mono s2) k2 o2 fun r3 H3 v3 s3 o3 k3 => ?_
    have d2 : Dn X.K r2 H2 (VR X.K) _ Q (WE W σ) := d2
    have d3 := Dn.mono s3 d2
    cases z with
    | bl k =>
      refine ⟨k, k3, ?_⟩
      cases k with
      | true =>
        show wE X c σ H3 _
        refine hc.run W tk en σ r3 H3 S3 _ ((er.mono s1).mono (s2.trans s3)) o3 (Dn.imp (Dn.bind d3) fun w H4 ⟨f, S4, r4, e4, s4, o4, k4, d4⟩ => ?_)
        cases q' : g' e f S4 with
        | none => rw [q'] at d4; exact d4.elim
        | some p' =>
          obtain ⟨y', S5⟩ := p'
          rw [q'] at d4
          exact ho'.run e f y' y w r4 H4 S4 S5 _ q' (k2.mono (s3.trans s4)) k4 o4 d4
      | false =>
        exact Dn.ok_here (R := VR X.K) (a := .bl false) (v := .bl false) d3 o3 rfl
    | _ => exact d3.elim
theorem e_chain {op op' : CmpOp} {g g' : G2} (ho : OpD X (compareOp op) g) (ho' : OpD X (compareOp op') g') (ha : SndE X a ma) (hb : SndE X b mb) (hc : SndE X c mc)
    (hm : lastMarks [op, op'] [b, c] = false := by with_unfolding_all rfl) : SndE X (.Compare a [op, op'] [b, c] pos) (mChain g g' ma mb mc) := by
  refine ⟨?_⟩
  intro W tk en σ r H S Q er ro dn
  exact wE_of (pe_chain (opr_wO X _) (opr_wO X _) (pe_wE X a) (pe_wE X b) (pe_wE X c) hm) (chain_rd ho ho' ha hb hc tk er ro dn)
theorem t_chain {op op' : CmpOp} {g g' : G2} (ho : OpD X (compareOp op) g) (ho' : OpD X (compareOp op') g') (ha : SndE X a ma) (hb : SndE X b mb) (hc : SndE X c mc)
    (hm : lastMarks [op, op'] [b, c] = false := by with_unfolding_all rfl) : SndT X (.Compare a [op, op'] [b, c] pos) (mB (mChain g g' ma mb mc)) := by
  refine ⟨?_⟩
  intro W tk en σ r H S Q er ro dn
  refine wT_of (pt_chain (opr_wO X _) (opr_wO X _) (pe_wE X a) (pe_wE X b) (pe_wE X c) hm) ?_
  exact chain_rd (Q := fun x H' => ∃ b, x = .bl b ∧ Q b H') ho ho' ha hb hc tk er ro (Dn.imp (Dn.bind dn) fun x H1 ⟨d, S1, r1, e1, s1, o1, k1, d1⟩ => bool_of k1 o1 d1)
/-- not -/
def mNot (m : MT) : MT := fun en S => (m en S).bind fun b S1 => .ok (!b) S1
theorem t_not (ha : SndT X a mt) : SndT X (.UnaryOp .Not a pos) (mNot mt) := by
  refine ⟨?_⟩
  intro W tk en σ r H S Q er ro dn
  refine wT_of (pt_not (pt_wT X a)) ?_
  exact ha.run W tk en σ r H S _ er ro (Dn.imp (Dn.bind dn) fun x H1 ⟨d, S1, r1, e1, s1, o1, k1, d1⟩ => Dn.ok_here (R := RT) d1 o1 (by show (!x) = !d; rw [show x = d from k1]))
/-- and, or as tests -/
def mAnd (m n : MT) : MT := fun en S => (m en S).bind fun b S1 => match b with
  | true => n en S1
  | false => .ok false S1
def mOr (m n : MT) : MT := fun en S => (m en S).bind fun b S1 => match b with
  | true => .ok true S1
  | false => n en S1
structure SndW (X : Cx) (e : Expr) (m : MT) : Prop where
  run : ∀ (W : WX), Takes X W → ∀ (en : En) (σ : L2.St) (r : List Addr) (H : Hp) (S : Store) (Q : Bool → Hp → Prop), ER X.K r H en σ → ROk X.K r H S → Dn X.K r H RT (m en S) Q (WE W σ) →
  ∀ (whole : Sem Value) (pins : List (Addr × Obj)) (s : Shared), Inv X pins σ H s → wpAny (model X.prog X.w) X.A (isTrue e X.env whole) (TP X pins σ Q) X.xe s
def wW (X : Cx) (e : Expr) : TT := fun σ H Q => ∀ (whole : Sem Value) (pins : List (Addr × Obj)) (s : Shared), Inv X pins σ H s → wpAny (model X.prog X.w) X.A (isTrue e X.env whole) (TP X pins σ Q) X.xe s
theorem pw_wW (X : Cx) (e : Expr) : PW X e (wW X e) := ⟨fun wh pins s _ _ _ I h => h wh pins s I⟩
theorem t_w {e : Expr} (h : SndW X e mt) : SndT X e mt := .mk fun W tk en σ r H S Q er ro dn pins s I => h.run W tk en σ r H S Q er ro dn _ pins s I
theorem w_and1 (ha : SndT X a mt) : SndW X (.BoolOp .And [a] pos) mt := .mk fun W tk en σ r H S Q er ro dn wh pins s I => (pw_and1 (pt_wT X a)).run wh pins s σ H Q I (ha.run W tk en σ r H S Q er ro dn)
theorem w_or1 (ha : SndT X a mt) : SndW X (.BoolOp .Or [a] pos) mt := .mk fun W tk en σ r H S Q er ro dn wh pins s I => (pw_or1 (pt_wT X a)).run wh pins s σ H Q I (ha.run W tk en σ r H S Q er ro dn)
theorem w_and (ha : SndT X a mt) (hb : SndW X (.BoolOp .And (b :: rest) pos) mu) : SndW X (.BoolOp .And (a :: b :: rest) pos) (mAnd mt mu) := .mk fun W tk en σ r H S Q er ro dn wh pins s I => by
  refine (pw_and (pt_wT X a) (pw_wW X _)).run wh pins s σ H Q I ?_
  refine ha.run W tk en σ r H S _ er ro (Dn.imp (Dn.bind dn) fun x H1 ⟨d, S1, r1, e1, s1, o1, k1, d1⟩ => ?_)
  have k1 : x = d := k1
  subst k1
  cases x with
  | true => exact hb.run W tk en σ r1 H1 S1 Q (er.mono s1) o1 d1
  | false => exact Dn.ok_here (R := RT) (a := false) (v := false) d1 o1 rfl
theorem w_or (ha : SndT X a mt) (hb : SndW X (.BoolOp .Or (b :: rest) pos) mu) : SndW X (.BoolOp .Or (a :: b :: rest) pos) (mOr mt mu) := .mk fun W tk en σ r H S Q er ro dn wh pins s I => by
  refine (pw_or (pt_wT X a) (pw_wW X _)).run wh pins s σ H Q I ?_
  refine ha.run W tk en σ r H S _ er ro (Dn.imp (Dn.bind dn) fun x H1 ⟨d, S1, r1, e1, s1, o1, k1, d1⟩ => ?_)
  have k1 : x = d := k1
  subst k1
  cases x with
  | false => exact hb.run W tk en σ r1 H1 S1 Q (er.mono s1) o1 d1
  | true => exact Dn.ok_here (R := RT) (a := true) (v := true) d1 o1 rfl
/-! ### and, or, not as values, by truth -/
def mAndV (m n : ME) : ME := fun en S => (m en S).bind fun d S1 => match truD d S1 with
  | some true => n en S1
  | some false => .ok d S1
  | none => .bad
def mOrV (m n : ME) : ME := fun en S => (m en S).bind fun d S1 => match truD d S1 with
  | some false => n en S1
  | some true => .ok d S1
  | none => .bad
def mNotV (m : ME) : ME := fun en S => (m en S).bind fun d S1 => match truD d S1 with
  | some b => .ok (.bl (!b)) S1
  | none => .bad
theorem e_one {op} (h : SndE X a ma) : SndE X (.BoolOp op [a] pos) ma := .mk fun W tk en σ r H S Q er ro dn => wE_of (pe_one (pe_wE X a)) (h.run W tk en σ r H S Q er ro dn)
theorem e_and (ha : SndE X a ma) (hb : SndE X (.BoolOp .And (b :: rest) pos) mb) : SndE X (.BoolOp .And (a :: b :: rest) pos) (mAndV ma mb) := by
  refine ⟨?_⟩
  intro W tk en σ r H S Q er ro dn
  refine wE_of (pe_andT (pe_wE X a) (pe_wE X _)) ?_
  refine ha.run W tk en σ r H S _ er ro (Dn.imp (Dn.bind dn) fun x H1 ⟨d, S1, r1, e1, s1, o1, k1, d1⟩ => ?_)
  cases q : truD d S1 with
  | none => rw [q] at d1; exact d1.elim
  | some k =>
    rw [q] at d1
    refine ⟨k, truD_ok o1 k1 q, ?_⟩
    cases k with
    | true => exact hb.run W tk en σ r1 H1 S1 Q (er.mono s1) o1 d1
    | false => exact Dn.ok_here (R := VR X.K) d1 o1 k1
theorem e_or (ha : SndE X a ma) (hb : SndE X (.BoolOp .Or (b :: rest) pos) mb) : SndE X (.BoolOp .Or (a :: b :: rest) pos) (mOrV ma mb) := by
  refine ⟨?_⟩
  intro W tk en σ r H S Q er ro dn
  refine wE_of (pe_orT (pe_wE X a) (pe_wE X _)) ?_
  refine ha.run W tk en σ r H S _ er ro (Dn.imp (Dn.bind dn) fun x H1 ⟨d, S1, r1, e1, s1, o1, k1, d1⟩ => ?_)
  cases q : truD d S1 with
  | none => rw [q] at d1; exact d1.elim
  | some k =>
    rw [q] at d1
    refine ⟨k, truD_ok o1 k1 q, ?_⟩
    cases k with
    | false => exact hb.run W tk en σ r1 H1 S1 Q (er.mono s1) o1 d1
    | true => exact Dn.ok_here (R := VR X.K) d1 o1 k1
theorem e_not (ha : SndE X a ma) : SndE X (.UnaryOp .Not a pos) (mNotV ma) := by
  refine ⟨?_⟩
  intro W tk en σ r H S Q er ro dn
  refine wE_of (pe_notT (pe_wE X a)) ?_
  refine ha.run W tk en σ r H S _ er ro (Dn.imp (Dn.bind dn) fun x H1 ⟨d, S1, r1, e1, s1, o1, k1, d1⟩ => ?_)
  cases q : truD d S1 with
  | none => rw [q] at d1; exact d1.elim
  | some k =>
    rw [q] at d1
    exact ⟨k, truD_ok o1 k1 q, Dn.ok_here (R := VR X.K) d1 o1 rfl⟩
/-- a if t else b -/
def mIf (mt : MT) (ma mb : ME) : ME := fun en S => (mt en S).bind fun k S1 => match k with
  | true => ma en S1
  | false => mb en S1
theorem e_if (hc : SndT X c mt) (ha : SndE X a ma) (hb : SndE X b mb) : SndE X (.IfExp c a b pos) (mIf mt ma mb) := by
  refine ⟨?_⟩
  intro W tk en σ r H S Q er ro dn
  refine wE_of (pe_ifExp (pt_wT X c) (pe_wE X a) (pe_wE X b)) ?_
  refine hc.run W tk en σ r H S _ er ro (Dn.imp (Dn.bind dn) fun x H1 ⟨d, S1, r1, e1, s1, o1, k1, d1⟩ => ?_)
  have k1 : x = d := k1
  subst k1
  cases x with
  | true => exact ha.run W tk en σ r1 H1 S1 Q (er.mono s1) o1 d1
  | false => exact hb.run W tk en σ r1 H1 S1 Q (er.mono s1) o1 d1

/-! ### argument lists, displays -/
def mNil : MA := fun _ S => .ok [] S
def mCons (ma : ME) (mr : MA) : MA := fun en S => (ma en S).bind fun d S1 => (mr en S1).bind fun ds S2 => .ok (d :: ds) S2
def mTup (m : MA) : ME := fun en S => (m en S).bind fun ds S1 => if ds.length ≤ sizeLine then .ok (.tup ds) S1 else .bad
def mLst (m : MA) : ME := fun en S => (m en S).bind fun ds S1 => if ds.length ≤ sizeLine then .ok (.ref S1.length) (S1 ++ [.lst ds]) else .bad
/-- the items of a list or tuple -/
def itemsD (d : D) (S : Store) : Option (List D) := match d with
  | .tup xs => some xs
  | .kl xs => some xs
  | .ref n => match S[n]? with
    | some (.lst xs) => some xs
    | _ => none
  | _ => none
def mStar (ma : ME) (mr : MA) : MA := fun en S => (ma en S).bind fun d S1 => match itemsD d S1 with
  | some xs => (mr en S1).bind fun ds S2 => .ok (xs ++ ds) S2
  | none => .bad
theorem itemsD_ok2 {K : PySem.W.Frag} {r : List Addr} {H : Hp} {S : Store} {d : D} {x : V} {ds : List D} (ro : ROk K r H S) (h : VR K r H d x) (e : itemsD d S = some ds) : ∃ p vs, x = .ref p ∧ (SqL K H p vs ∨ H p = some (.tup vs)) ∧ VRs K r H ds vs := by
  cases d with
  | tup xs =>
    obtain ⟨p, vs, rfl, hs, hv⟩ := h
    cases Option.some.inj e
    exact ⟨p, vs, rfl, .inr hs, hv⟩
  | kl xs =>
    obtain ⟨p, vs, rfl, hs, hv⟩ := h
    cases Option.some.inj e
    exact ⟨p, vs, rfl, .inl hs.l, hv⟩
  | ref n =>
    obtain ⟨p, hp, rfl⟩ := h
    unfold itemsD at e
    dsimp only at e
    cases q : S[n]? with
    | none => rw [q] at e; cases e
    | some o =>
      rw [q] at e
      have ho := ro.ob n o p q hp
      cases o with
      | lst xs => obtain ⟨vs, h1, h2⟩ := ho; cases Option.some.inj e; exact ⟨p, vs, rfl, .inl (.of h1), h2⟩
      | _ => cases e
  | _ => cases e
theorem itemsD_ok {K : PySem.W.Frag} {r : List Addr} {H : Hp} {S : Store} {d : D} {x : V} {ds : List D} (ro : ROk K r H S) (h : VR K r H d x) (e : itemsD d S = some ds) : ∃ p vs, x = .ref p ∧ (SqL K H p vs ∨ SqT K H p vs) ∧ VRs K r H ds vs :=
  let ⟨p, vs, a, b, c⟩ := itemsD_ok2 ro h e
  ⟨p, vs, a, b.imp (fun z => z) sqT_of, c⟩
variable {e : Expr} {es : List Expr} {mr : MA} {me : ME} {p : Pos}
theorem a_nil : SndA X [] mNil := .mk fun W tk en σ r H S Q er ro dn => wA_of pa_nil (Dn.ok_here (R := VRs X.K) (a := []) (v := []) dn ro rfl)
theorem a_cons (ha : SndE X e me) (hr : SndA X es mr) (hs : starEach (e :: es) X.env = (false, eval e X.env) :: starEach es X.env := by rfl) : SndA X (e :: es) (mCons me mr) := by
  refine ⟨?_⟩
  intro W tk en σ r H S Q er ro dn
  refine wA_of (pa_cons (pe_wE X e) (pa_wA X es) hs) ?_
  refine ha.run W tk en σ r H S _ er ro (Dn.imp (Dn.bind dn) fun x H1 ⟨d, S1, r1, e1, s1, o1, k1, d1⟩ => ?_)
  refine hr.run W tk en σ r1 H1 S1 _ (er.mono s1) o1 (Dn.imp (Dn.bind d1) fun xs H2 ⟨ds, S2, r2, e2, s2, o2, k2, d2⟩ => ?_)
  exact Dn.ok_here (R := VRs X.K) d2 o2 ⟨x, xs, rfl, k1.mono s2, k2⟩
theorem a_star (ha : SndE X e me) (hr : SndA X es mr) (hs : starEach (.Starred e p :: es) X.env = (true, eval e X.env) :: starEach es X.env := by rfl) : SndA X (.Starred e p :: es) (mStar me mr) := by
  refine ⟨?_⟩
  intro W tk en σ r H S Q er ro dn
  refine wA_of (StX.pa_star (pe_wE X e) (pa_wA X es) hs) ?_
  refine ha.run W tk en σ r H S _ er ro (Dn.imp (Dn.bind dn) fun x H1 ⟨d, S1, r1, e1, s1, o1, k1, d1⟩ => ?_)
  cases q : itemsD d S1 with
  | none => rw [q] at d1; exact d1.elim
  | some xs =>
    rw [q] at d1
    obtain ⟨pa, vs, rfl, hq, hv⟩ := itemsD_ok o1 k1 q
    refine ⟨pa, vs, rfl, ?_, ?_⟩
    · rcases hq with h | h
      · exact .inr h
      · exact .inl h
    · refine hr.run W tk en σ r1 H1 S1 _ (er.mono s1) o1 (Dn.imp (Dn.bind d1) fun ws H2 ⟨ds, S2, r2, e2, s2, o2, k2, d2⟩ => ?_)
      exact Dn.ok_here (R := VRs X.K) d2 o2 ((hv.mono s2).append k2)
theorem dn_if {α β : Type} {K : PySem.W.Frag} {r : List Addr} {H : Hp} {R : List Addr → Hp → α → β → Prop} {c : Prop} [Decidable c] {m : Res α} {Q : β → Hp → Prop} {W : XK} (h : Dn K r H R (if c then m else .bad) Q W) : c ∧ Dn K r H R m Q W := by
  by_cases hc : c
  · rw [if_pos hc] at h; exact ⟨hc, h⟩
  · rw [if_neg hc] at h; exact h.elim
theorem e_tup {x1} (h : SndA X es mr) : SndE X (.Tuple es x1 pos) (mTup mr) := by
  refine ⟨?_⟩
  intro W tk en σ r H S Q er ro dn
  refine wE_of (pe_tup (pa_wA X es)) ?_
  refine h.run W tk en σ r H S _ er ro (Dn.imp (Dn.bind dn) fun xs H1 ⟨ds, S1, r1, e1, s1, o1, k1, d1⟩ => ?_)
  obtain ⟨hz, d1⟩ := dn_if d1
  refine ⟨by rw [← k1.length]; exact hz, fun q hq => ?_⟩
  exact d1 r1 _ _ (Stp.loose hq) (o1.loose hq) ⟨q, xs, rfl, upd_same, k1.mono (Stp.loose hq)⟩
theorem new_lst {r : List Addr} {H : Hp} {S : Store} {ds : List D} {vs : List V} {q : Addr} (o : ROk X.K r H S) (k : VRs X.K r H ds vs) (hq : H q = none) :
    Stp r H (r ++ [q]) (upd H q (.lst vs)) ∧ ROk X.K (r ++ [q]) (upd H q (.lst vs)) (S ++ [.lst ds]) ∧ VR X.K (r ++ [q]) (upd H q (.lst vs)) (.ref S.length) (.ref q) :=
  ⟨Stp.new hq, o.new hq ⟨vs, upd_same, k.mono (Stp.new hq)⟩, ⟨q, by rw [← o.len, List.getElem?_append_right (Nat.le_refl _), Nat.sub_self]; rfl, rfl⟩⟩
theorem e_lst (h : SndA X es mr) : SndE X (.List es pos) (mLst mr) := by
  refine ⟨?_⟩
  intro W tk en σ r H S Q er ro dn
  refine wE_of (pe_lst (pa_wA X es)) ?_
  refine h.run W tk en σ r H S _ er ro (Dn.imp (Dn.bind dn) fun xs H1 ⟨ds, S1, r1, e1, s1, o1, k1, d1⟩ => ?_)
  obtain ⟨hz, d1⟩ := dn_if d1
  refine ⟨by rw [← k1.length]; exact hz, fun q hq => ?_⟩
  obtain ⟨n1, n2, n3⟩ := new_lst o1 k1 hq
  exact d1 _ _ _ n1 n2 n3
end
end Q

namespace Q
open PySem PySem.Spec PyProof.Rows L2
variable [Gh : Ghost]
section
variable {X : Cx}
/-- a value that needs no heap, the store as it was -/
theorem Ed.flat {K : PySem.W.Frag} {r : List Addr} {H : Hp} {z : D} {v : V} {S : Store} {Q : VK} (ed : Ed K r H z S Q) (ro : ROk K r H S) (k : VR K r H z v) : Q v H := ed r H v (Stp.refl _ _) ro k
theorem Ed.tupN {K : PySem.W.Frag} {r : List Addr} {H : Hp} {xs : List D} {vs : List V} {S : Store} {Q : VK} {p : Addr} (ed : Ed K r H (.tup xs) S Q) (ro : ROk K r H S) (k : VRs K r H xs vs) (hp : H p = none) : Q (.ref p) (upd H p (.tup vs)) :=
  ed r _ _ (Stp.loose hp) (ro.loose hp) ⟨p, vs, rfl, upd_same, k.mono (Stp.loose hp)⟩
theorem Ed.lstN {r : List Addr} {H : Hp} {xs : List D} {vs : List V} {S : Store} {Q : VK} {p : Addr} (ed : Ed X.K r H (.ref S.length) (S ++ [.lst xs]) Q) (ro : ROk X.K r H S) (k : VRs X.K r H xs vs) (hp : H p = none) : Q (.ref p) (upd H p (.lst vs)) := by
  obtain ⟨a, b, c⟩ := new_lst ro k hp
  exact ed _ _ _ a b c
theorem wO_of {f : Value → Value → Sem Value} {rd : R2} (h : OpR X f rd) {x y : V} {H : Hp} {Q : VK} (q : rd x y H Q) : wO X f x y H Q := fun pins s σ v u I rx ry => h pins s σ H x y v u Q I rx ry q
theorem wU_of {f : Value → Sem Value} {rd : V → Hp → VK → Prop} (h : UnR X f rd) {x : V} {H : Hp} {Q : VK} (q : rd x H Q) : wU X f x H Q := fun pins s σ v I rx => h pins s σ H x v Q I rx q
theorem wC_of {f : Value} {rd : List V → Hp → VK → Prop} (h : CallR X f rd) {xs : List V} {H : Hp} {Q : VK} (q : rd xs H Q) : wC X f xs H Q := fun pins s σ us I r => h pins s σ H xs us Q I r q

/-! ### ints -/
def intD : D → Option Int
  | .int i => some i
  | _ => none
theorem intD_ok {K : PySem.W.Frag} {r : List Addr} {H : Hp} {d : D} {x : V} {i : Int} (e : intD d = some i) (k : VR K r H d x) : x = .int i := by
  cases d <;> first | (cases e; exact k) | cases e
/-- two ints under a condition -/
def gI (c : Int → Int → Bool) (f : Int → Int → D) : G2 := fun d e S => (intD d).bind fun i => (intD e).bind fun j => if c i j then some (f i j, S) else none
theorem gI_ok {c : Int → Int → Bool} {f : Int → Int → D} {d e z : D} {S S' : Store} (h : gI c f d e S = some (z, S')) : ∃ i j, d = .int i ∧ e = .int j ∧ c i j = true ∧ z = f i j ∧ S' = S := by
  unfold gI at h
  cases d with
  | int i =>
    cases e with
    | int j =>
      simp only [intD, Option.bind_some] at h
      by_cases hc : c i j = true
      · rw [if_pos hc] at h
        cases h
        exact ⟨i, j, rfl, rfl, hc, rfl, rfl⟩
      · rw [if_neg hc] at h; cases h
    | _ => simp [intD] at h
  | _ => simp [intD] at h
theorem opI_of {f : Value → Value → Sem Value} {C : Int → Int → Prop} {g : Int → Int → V} {c : Int → Int → Bool} {gd : Int → Int → D} (h : OpR X f (rI C g)) (hc : ∀ i j, c i j = true → C i j) (hg : ∀ i j r H, VR X.K r H (gd i j) (g i j)) : OpD X f (gI c gd) := by
  refine ⟨?_⟩
  intro d e z x y r H S S' Q q k1 k2 ro ed
  obtain ⟨i, j, rfl, rfl, hcc, rfl, rfl⟩ := gI_ok q
  exact wO_of h ⟨i, j, k1, k2, hc i j hcc, ed.flat ro (hg i j r H)⟩
theorem opI0_of {f : Value → Value → Sem Value} {g : Int → Int → V} {gd : Int → Int → D} (h : OpR X f (rI0 g)) (hg : ∀ i j r H, VR X.K r H (gd i j) (g i j)) : OpD X f (gI (fun _ _ => true) gd) := by
  refine ⟨?_⟩
  intro d e z x y r H S S' Q q k1 k2 ro ed
  obtain ⟨i, j, rfl, rfl, hcc, rfl, rfl⟩ := gI_ok q
  exact wO_of h ⟨i, j, k1, k2, ed.flat ro (hg i j r H)⟩
def yes2 (_ _ : Int) : Bool := true
def gLt : G2 := gI yes2 fun i j => .bl (decide (i < j))
def gLe : G2 := gI yes2 fun i j => .bl (decide (i ≤ j))
def gGt : G2 := gI yes2 fun i j => .bl (decide (j < i))
def gGe : G2 := gI yes2 fun i j => .bl (decide (j ≤ i))
def gSub : G2 := gI yes2 fun i j => .int (i - j)
theorem o_lt : OpD X (compareOp .Lt) gLt := opI0_of op_lt fun _ _ _ _ => rfl
theorem o_le : OpD X (compareOp .LtE) gLe := opI0_of op_le fun _ _ _ _ => rfl
theorem o_gt : OpD X (compareOp .Gt) gGt := opI0_of op_gt fun _ _ _ _ => rfl
theorem o_ge : OpD X (compareOp .GtE) gGe := opI0_of op_ge fun _ _ _ _ => rfl
theorem o_sub : OpD X (binaryOp .Sub) gSub := opI0_of op_sub fun _ _ _ _ => rfl
def gMod : G2 := gI (fun _ j => decide (0 < j)) fun i j => .int (i % j)
theorem o_mod : OpD X (binaryOp .Mod) gMod := opI_of op_mod (fun i j h => of_decide_eq_true h) fun _ _ _ _ => rfl
def gDiv : G2 := gI (fun _ j => decide (0 < j) && decide (j.natAbs.log2 < 9000)) fun i j => .int (i / j)
theorem o_div : OpD X (binaryOp .FloorDiv) gDiv := opI_of op_fdivW (fun i j h => by
  rw [Bool.and_eq_true] at h
  exact ⟨of_decide_eq_true h.1, of_decide_eq_true h.2⟩) fun _ _ _ _ => rfl
def gPow : G2 := gI (fun i j => decide (0 ≤ j) && decide (j ≤ 1000000) && decide (i.natAbs < 2 ^ 64)) fun i j => .int (i ^ j.toNat)
theorem o_pow : OpD X (binaryOp .Pow) gPow := opI_of op_pow (fun i j h => by
  rw [Bool.and_eq_true, Bool.and_eq_true] at h
  exact ⟨of_decide_eq_true h.1.1, of_decide_eq_true h.1.2, of_decide_eq_true h.2⟩) fun _ _ _ _ => rfl
def gNeg : G1 := fun d S => (intD d).bind fun i => some (.int (-i), S)
theorem o_neg : UnD X (unaryOp .USub) gNeg := by
  refine ⟨?_⟩
  intro d z x r H S S' Q q k ro ed
  unfold gNeg at q
  cases d with
  | int i => cases q; exact wU_of un_neg ⟨i, k, ed.flat ro rfl⟩
  | _ => cases q

/-! ### + and * of several kinds -/
def lstD (d : D) (S : Store) : Option (List D) := match d with
  | .ref n => match S[n]? with
    | some (.lst xs) => some xs
    | _ => none
  | _ => none
theorem lstD_ok {K : PySem.W.Frag} {r : List Addr} {H : Hp} {S : Store} {d : D} {x : V} {ds : List D} (ro : ROk K r H S) (h : VR K r H d x) (e : lstD d S = some ds) : ∃ n p vs, d = .ref n ∧ r[n]? = some p ∧ x = .ref p ∧ H p = some (.lst vs) ∧ S[n]? = some (.lst ds) ∧ VRs K r H ds vs := by
  cases d with
  | ref n =>
    obtain ⟨p, hp, rfl⟩ := h
    unfold lstD at e
    dsimp only at e
    cases q : S[n]? with
    | none => rw [q] at e; cases e
    | some o =>
      rw [q] at e
      have ho := ro.ob n o p q hp
      cases o with
      | lst xs => obtain ⟨vs, h1, h2⟩ := ho; cases Option.some.inj e; exact ⟨n, p, vs, rfl, hp, rfl, h1, q, h2⟩
      | _ => cases e
  | _ => cases e
def gAdd : G2 := fun d e S => match d, e with
  | .int i, .int j => some (.int (i + j), S)
  | .str x, .str y => if x.length + y.length ≤ sizeLine then some (.str (x ++ y), S) else none
  | .tup xs, .tup ys => if xs.length + ys.length ≤ sizeLine then some (.tup (xs ++ ys), S) else none
  | .ref m, .ref n => (lstD (.ref m) S).bind fun xs => (lstD (.ref n) S).bind fun ys => if xs.length + ys.length ≤ sizeLine then some (.ref S.length, S ++ [.lst (xs ++ ys)]) else none
  | _, _ => none
theorem o_add : OpD X (binaryOp .Add) gAdd := by
  refine ⟨?_⟩
  intro d e z x y r H S S' Q q k1 k2 ro ed
  unfold gAdd at q
  split at q
  · cases q; exact wO_of op_add ⟨_, _, k1, k2, ed.flat ro rfl⟩
  · split at q
    · rename_i hz; cases q; exact wO_of op_add_str ⟨_, _, k1, k2, hz, ed.flat ro rfl⟩
    · cases q
  · rename_i xs ys
    split at q
    · rename_i hz; cases q
      obtain ⟨a, vs, rfl, ha, hv⟩ := k1
      obtain ⟨b, ws, rfl, hb, hw⟩ := k2
      have l1 := hv.length
      have l2 := hw.length
      refine wO_of op_catA ⟨a, b, vs, ws, rfl, rfl, (sqT_of ha), (sqT_of hb), by omega, fun e1 => ?_, fun _ e2 => ?_, fun _ _ p hp => ed.tupN ro (hv.append hw) hp⟩
      · subst e1
        have : xs = [] := by cases xs with | nil => rfl | cons _ _ => simp at l1
        subst this
        exact ed.flat ro ⟨b, ws, rfl, hb, hw⟩
      · subst e2
        have : ys = [] := by cases ys with | nil => rfl | cons _ _ => simp at l2
        subst this
        exact ed.flat ro ⟨a, vs, rfl, ha, by rw [List.append_nil]; exact hv⟩
    · cases q
  · cases e1 : lstD (.ref _) S with
    | none => rw [e1] at q; cases q
    | some xs =>
      rw [e1] at q
      simp only [Option.bind_some] at q
      cases e2 : lstD (.ref _) S with
      | none => rw [e2] at q; cases q
      | some ys =>
        rw [e2] at q
        simp only [Option.bind_some] at q
        split at q
        · rename_i hz; cases q
          obtain ⟨n1, p1, vs, _, _, rfl, h1, _, hv⟩ := lstD_ok ro k1 e1
          obtain ⟨n2, p2, ws, _, _, rfl, h2, _, hw⟩ := lstD_ok ro k2 e2
          have l1 := hv.length
          have l2 := hw.length
          exact wO_of op_cat ⟨p1, p2, vs, ws, rfl, rfl, h1, h2, by omega, fun p hp => ed.lstN ro (hv.append hw) hp⟩
        · cases q
  · cases q
theorem VRs.rep {K : PySem.W.Frag} {r : List Addr} {H : Hp} {ds : List D} {vs : List V} (h : VRs K r H ds vs) : ∀ k, VRs K r H (List.replicate k ds).flatten (List.replicate k vs).flatten
  | 0 => rfl
  | k + 1 => by
    rw [List.replicate_succ, List.replicate_succ, List.flatten_cons, List.flatten_cons]
    exact h.append (h.rep k)
def gMul : G2 := fun d e S => match d, e with
  | .int i, .int j => if i.natAbs.log2 + j.natAbs.log2 < 1000000 then some (.int (i * j), S) else none
  | .ref m, .int k => (lstD (.ref m) S).bind fun xs => if 0 ≤ k ∧ k < 100000 ∧ xs.length * k.toNat ≤ sizeLine then some (.ref S.length, S ++ [.lst (List.replicate k.toNat xs).flatten]) else none
  | .tup xs, .int k => if xs ≠ [] ∧ 2 ≤ k ∧ k ≤ 1000 ∧ xs.length ≤ 1000 then some (.tup (List.replicate k.toNat xs).flatten, S) else none
  | _, _ => none
theorem o_mul : OpD X (binaryOp .Mult) gMul := by
  refine ⟨?_⟩
  intro d e z x y r H S S' Q q k1 k2 ro ed
  unfold gMul at q
  split at q
  · split at q
    · rename_i hz; cases q; exact wO_of op_mulW ⟨_, _, k1, k2, hz, ed.flat ro rfl⟩
    · cases q
  · rename_i m k
    cases e1 : lstD (.ref m) S with
    | none => rw [e1] at q; cases q
    | some xs =>
      rw [e1] at q
      simp only [Option.bind_some] at q
      split at q
      · rename_i hz; cases q
        obtain ⟨n1, p1, vs, _, _, rfl, h1, _, hv⟩ := lstD_ok ro k1 e1
        have l1 := hv.length
        refine wO_of op_rep ⟨p1, k, vs, rfl, k2, h1, by omega, by omega, by rw [← l1]; exact hz.2.2, fun p hp => ?_⟩
        exact ed.lstN ro (hv.rep _) hp
      · cases q
  · rename_i xs k
    split at q
    · rename_i hz; cases q
      obtain ⟨a, vs, rfl, ha, hv⟩ := k1
      have l1 := hv.length
      refine wO_of op_repT ⟨a, k, vs, rfl, k2, (sqT_of ha), fun e => ?_, hz.2.1, hz.2.2.1, by rw [← l1]; exact hz.2.2.2, fun p hp => ed.tupN ro (hv.rep _) hp⟩
      subst e
      apply hz.1
      cases xs with | nil => rfl | cons _ _ => simp at l1
    · cases q
  · cases q

/-! ### is, is not -/
def gIs : G2 := fun d e S => match d, e with
  | .bl a, .bl b => some (.bl (decide (a = b)), S)
  | .non, .non => some (.bl true, S)
  | .bl _, .non | .int _, .non | .str _, .non | .tup _, .non | .ref _, .non | .ty _, .non | .adr _, .non | .kl _, .non | .exc _ _ _, .non => some (.bl false, S)
  | _, _ => none
def gIsNot : G2 := fun d e S => match d, e with
  | .bl a, .bl b => some (.bl (!decide (a = b)), S)
  | .non, .non => some (.bl false, S)
  | .bl _, .non | .int _, .non | .str _, .non | .tup _, .non | .ref _, .non | .ty _, .non | .adr _, .non | .kl _, .non | .exc _ _ _, .non => some (.bl true, S)
  | _, _ => none
theorem VR.notNone {K : PySem.W.Frag} {r : List Addr} {H : Hp} {d : D} {x : V} (k : VR K r H d x) (h : d ≠ .non) : x ≠ .non := by
  cases d with
  | non => exact absurd rfl h
  | bl b => have k : x = .bl b := k; subst k; exact fun z => nomatch z
  | int b => have k : x = .int b := k; subst k; exact fun z => nomatch z
  | str b => have k : x = .str b := k; subst k; exact fun z => nomatch z
  | ty b => have k : x = .ty b := k; subst k; exact fun z => nomatch z
  | adr b => have k : x = .ref b := k; subst k; exact fun z => nomatch z
  | tup b => obtain ⟨a, vs, rfl, _⟩ := k; exact fun z => nomatch z
  | kl b => obtain ⟨a, vs, rfl, _⟩ := k; exact fun z => nomatch z
  | ref b => obtain ⟨a, _, rfl⟩ := k; exact fun z => nomatch z
  | exc b d n => obtain ⟨rfl, _⟩ := k; exact fun z => nomatch z
theorem o_is : OpD X (compareOp .Is) gIs := by
  refine ⟨?_⟩
  intro d e z x y r H S S' Q q k1 k2 ro ed
  unfold gIs at q
  split at q
  · cases q; exact wO_of op_isBl ⟨_, _, k1, k2, ed.flat ro rfl⟩
  · cases q
    have k1 : x = .non := k1
    subst k1
    exact wO_of op_isN ⟨k2, ed.flat ro rfl⟩
  all_goals first
    | (cases q
       exact wO_of op_isN ⟨k2, by rw [decide_eq_false (k1.notNone (fun z => nomatch z))]; exact ed.flat ro rfl⟩)
    | cases q
theorem o_isnot : OpD X (compareOp .IsNot) gIsNot := by
  refine ⟨?_⟩
  intro d e z x y r H S S' Q q k1 k2 ro ed
  unfold gIsNot at q
  split at q
  · cases q; exact wO_of op_notBl ⟨_, _, k1, k2, ed.flat ro rfl⟩
  · cases q
    have k1 : x = .non := k1
    subst k1
    exact wO_of op_notN ⟨k2, ed.flat ro rfl⟩
  all_goals first
    | (cases q
       exact wO_of op_notN ⟨k2, by rw [decide_eq_false (k1.notNone (fun z => nomatch z))]; exact ed.flat ro rfl⟩)
    | cases q

/-! ### data as a whole: ==, != -/
def keyPy : Key → PyData
  | .inl i => .int i
  | .inr x => .str x
def toPy (S : Store) : Nat → D → Option PyData
  | _, .non => some .none
  | _, .bl b => some (.bool b)
  | _, .int i => some (.int i)
  | _, .str x => some (.str x)
  | n + 1, .tup xs => (xs.mapM (toPy S n)).map .tuple
  | n + 1, .kl xs => if 63 ≤ n then (xs.mapM (toPy S n)).map .list else none
  | n + 1, .ref m => match S[m]? with
    | some (.lst xs) => (xs.mapM (toPy S n)).map .list
    | some (.dct kvs) => ((kvs.map (·.2)).mapM (toPy S n)).map fun ps => .dict ((kvs.map fun kv => keyPy kv.1).zip ps)
    | _ => none
  | _, _ => none
end
section
variable {X : Cx} {pins : List (Addr × Obj)} {σ : L2.St} {r : List Addr} {H : Hp} {s : Shared} {S : Store}
theorem SysOk.at (sy : SysOk X.K H) (I : Inv X pins σ H s) : ∃ o es ep, s.heap.get? sysModules = some o ∧ o.data = .dict es ep := by
  rcases sy with ⟨o, es, ep, h, d⟩ | ⟨o, u, es, ep, h, d⟩
  · exact ⟨o, es, ep, I.kIn _ _ h, d⟩
  · exact ⟨o, es, ep, (I.hok _ _ h).1, d⟩
theorem seq_no_sys (sy : SysOk X.K H) (I : Inv X pins σ H s) {a : Addr} {o : Obj} {its : Array Value} {n : Nat} (h : s.heap.get? a = some o) (d : o.data = .seq its n) : a ≠ sysModules := fun e => by
  obtain ⟨o', es, ep, h1, d1⟩ := sy.at I
  rw [← e, h] at h1
  cases h1
  rw [d] at d1
  cases d1
abbrev RdS (h : Heap) (u : Value) (p : PyData) : Prop := ∃ as, Reads h u p as ∧ sysModules ∉ as
theorem readsAll_of {f : D → Option PyData} (hf : ∀ (d : D) (p : PyData) (v : V) (u : Value), f d = some p → VR X.K r H d v → RelV v u → RdS s.heap u p) :
    ∀ (xs : List D) (ps : List PyData) (vs : List V) (us : List Value), xs.mapM f = some ps → VRs X.K r H xs vs → Vals vs us → ∃ as, ReadsAll s.heap us ps as ∧ sysModules ∉ as
  | [], ps, vs, us, e, h, rv => by
    have h : vs = [] := h
    subst h
    cases rv
    simp at e
    subst e
    exact ⟨_, ReadsAll.nil, fun z => by cases z⟩
  | d :: xs, ps, vs, us, e, h, rv => by
    obtain ⟨v, ws, rfl, h1, h2⟩ := h
    cases rv with
    | cons r1 r2 =>
      rw [List.mapM_cons] at e
      cases e1 : f d with
      | none => rw [e1] at e; cases e
      | some p =>
        rw [e1] at e
        cases e2 : xs.mapM f with
        | none => rw [e2] at e; cases e
        | some qs =>
          rw [e2] at e
          cases e
          obtain ⟨as, q1, n1⟩ := hf d p v _ e1 h1 r1
          obtain ⟨bs, q2, n2⟩ := readsAll_of hf xs qs ws _ e2 h2 r2
          exact ⟨_, ReadsAll.cons q1 q2, fun z => (List.mem_append.mp z).elim n1 n2⟩
theorem VRs_of_KR : ∀ {kvs : List (Key × D)} {vs : List (Key × V)}, KR X.K r H kvs vs → VRs X.K r H (kvs.map (·.2)) (vs.map (·.2)) ∧ kvs.map (·.1) = vs.map (·.1)
  | [], _, h => by cases (show _ = _ from h); exact ⟨rfl, rfl⟩
  | p :: kvs, _, ⟨v, ws, e, h1, h2⟩ => by
    subst e
    obtain ⟨a, b⟩ := VRs_of_KR h2
    exact ⟨⟨v, _, rfl, h1, a⟩, by rw [List.map_cons, List.map_cons, b]⟩
theorem keyPy_reads {h : Heap} : ∀ {k : Key} {v : Value}, keyIs k v = true → Reads h v (keyPy k) [] := fun {k v} e => by
  rcases keyIs_shape e with ⟨i, t, rfl, rfl⟩ | ⟨x, t, rfl, rfl⟩
  · exact Reads.int i t
  · exact Reads.str x t
theorem dict_reads {P : Program} {w : World} {h : Heap} : ∀ {es : List DictEntry} {ws : List (Key × Value)} {kvs : List (Key × V)} {ps : List PyData} {as : List Addr}, Pairs (mixKind P w) es ws → KV kvs ws → ReadsAll h (ws.map (·.2)) ps as →
    ReadsAll h (es.map (·.key)) (((kvs.map fun kv => keyPy kv.1).zip ps).map (·.1)) [] ∧ ReadsAll h (es.map (·.val)) (((kvs.map fun kv => keyPy kv.1).zip ps).map (·.2)) as
  | _, _, _, _, _, .nil, .nil, rd => by
    cases rd
    exact ⟨ReadsAll.nil, ReadsAll.nil⟩
  | _, _, _, _, _, .cons h1 h2 h3, .cons e t, rd => by
    cases rd with
    | cons r1 r2 =>
      obtain ⟨a, b⟩ := dict_reads h3 t r2
      simp only [List.map_cons, List.zip_cons_cons]
      refine ⟨?_, ?_⟩
      · have h1 : keyIs _ _ = true := h1
        rw [← e.1] at h1
        have := ReadsAll.cons (keyPy_reads (h := h) h1) a
        simpa using this
      · rw [h2]
        exact ReadsAll.cons r1 b
theorem vals_of_KV : ∀ {kvs : List (Key × V)} {ws : List (Key × Value)}, KV kvs ws → Vals (kvs.map (·.2)) (ws.map (·.2))
  | _, _, .nil => .nil
  | _, _, .cons e t => .cons e.2 (vals_of_KV t)
theorem toPy_reads (I : Inv X pins σ H s) (ro : ROk X.K r H S) : ∀ (n : Nat) (d : D) (p : PyData) (v : V) (u : Value), toPy S n d = some p → VR X.K r H d v → RelV v u → RdS s.heap u p := by
  intro n
  induction n with
  | zero =>
    intro d p v u e k rv
    cases d with
    | non => cases e; have k : v = .non := k; subst k; cases rv; exact ⟨_, Reads.none, fun z => by cases z⟩
    | bl b => cases e; have k : v = .bl b := k; subst k; cases rv; exact ⟨_, Reads.bool b, fun z => by cases z⟩
    | int i => cases e; have k : v = .int i := k; subst k; obtain ⟨t, rfl⟩ := rv; exact ⟨_, Reads.int i t, fun z => by cases z⟩
    | str i => cases e; have k : v = .str i := k; subst k; obtain ⟨t, rfl⟩ := rv; exact ⟨_, Reads.str i t, fun z => by cases z⟩
    | _ => cases e
  | succ n ih =>
    intro d p v u e k rv
    have lists : ∀ (xs : List D) (a : Addr) (vs : List V), (xs.mapM (toPy S n)).map PyData.list = some p → SqL X.K H a vs → VRs X.K r H xs vs → v = .ref a → RdS s.heap u p := fun xs a vs e hs hv ev => by
      subst ev
      cases rv
      obtain ⟨its, rvv, ⟨o, n', ho, hc, _, hd⟩, _⟩ := I.list hs
      cases e2 : xs.mapM (toPy S n) with
      | none => rw [e2] at e; cases e
      | some ps =>
        rw [e2] at e; cases e
        obtain ⟨as, hr, hn⟩ := readsAll_of (s := s) ih xs ps vs its e2 hv rvv
        exact ⟨_, Reads.list ho hc hd hr, fun z => (List.mem_cons.mp z).elim (fun e => seq_no_sys ro.sys I ho hd e.symm) hn⟩
    cases d with
    | non => cases e; have k : v = .non := k; subst k; cases rv; exact ⟨_, Reads.none, fun z => by cases z⟩
    | bl b => cases e; have k : v = .bl b := k; subst k; cases rv; exact ⟨_, Reads.bool b, fun z => by cases z⟩
    | int i => cases e; have k : v = .int i := k; subst k; obtain ⟨t, rfl⟩ := rv; exact ⟨_, Reads.int i t, fun z => by cases z⟩
    | str i => cases e; have k : v = .str i := k; subst k; obtain ⟨t, rfl⟩ := rv; exact ⟨_, Reads.str i t, fun z => by cases z⟩
    | tup xs =>
      obtain ⟨a, vs, rfl, hs, hv⟩ := k
      cases rv
      obtain ⟨its, rvv, ⟨o, ho, hc, n', hd⟩, _⟩ := I.tuple (sqT_of hs)
      have e : (xs.mapM (toPy S n)).map PyData.tuple = some p := e
      cases e2 : xs.mapM (toPy S n) with
      | none => rw [e2] at e; cases e
      | some ps =>
        rw [e2] at e; cases e
        obtain ⟨as, hr, hn⟩ := readsAll_of (s := s) ih xs ps vs its e2 hv rvv
        exact ⟨_, Reads.tuple ho hc hd hr, hn⟩
    | kl xs =>
      obtain ⟨a, vs, rfl, hs, hv⟩ := k
      have e : (if 63 ≤ n then (xs.mapM (toPy S n)).map PyData.list else none) = some p := e
      by_cases hn : 63 ≤ n
      · rw [if_pos hn] at e
        exact lists xs a vs e hs.l hv rfl
      · rw [if_neg hn] at e
        cases e
    | ref m =>
      obtain ⟨a, ha, rfl⟩ := k
      unfold toPy at e
      cases q : S[m]? with
      | none => rw [q] at e; cases e
      | some o =>
        rw [q] at e
        have oo := ro.ob m o a q ha
        cases o with
        | lst xs => obtain ⟨vs, h1, h2⟩ := oo; exact lists xs a vs e (.of h1) h2 rfl
        | dct kvs =>
          obtain ⟨vs, h1, h2⟩ := oo
          cases rv
          obtain ⟨_, hsys, ws, kv, o, es, ep, ho, hex, hd, _, hp, _⟩ := I.hok _ _ h1
          obtain ⟨k1, k2⟩ := VRs_of_KR h2
          have e : ((kvs.map (·.2)).mapM (toPy S n)).map (fun ps => PyData.dict ((kvs.map fun kv => keyPy kv.1).zip ps)) = some p := e
          cases e2 : (kvs.map (·.2)).mapM (toPy S n) with
          | none => rw [e2] at e; cases e
          | some ps =>
            rw [e2] at e; cases e
            obtain ⟨as, hr, hn⟩ := readsAll_of (s := s) ih _ ps _ _ e2 k1 (vals_of_KV kv)
            have ek : (kvs.map fun kv => keyPy kv.1) = vs.map fun kv => keyPy kv.1 := by
              have := congrArg (List.map keyPy) k2
              simpa [List.map_map, Function.comp_def] using this
            rw [ek]
            obtain ⟨q1, q2⟩ := dict_reads hp kv hr
            refine ⟨_, Reads.dict ho hex.1 hd q1 q2, fun z => ?_⟩
            rcases List.mem_append.mp z with z | z
            · rcases List.mem_cons.mp z with z | z
              · rw [← z] at hsys
                exact absurd hsys (by decide)
              · cases z
            · exact hn z
        | _ => cases e
    | _ => cases e
def pyD (S : Store) (d : D) : Option PyData := toPy S 64 d
def eqPD (d e : D) (S : Store) : Option Bool := (pyD S d).bind fun p => (pyD S e).bind fun q => if PyData.plain p = true ∧ PyData.plain q = true ∧ p.depth ≤ 64 then some (PyData.eqv p q) else none
theorem eqPD_ok {d e : D} {b : Bool} (h : eqPD d e S = some b) : ∃ p q, pyD S d = some p ∧ pyD S e = some q ∧ PyData.plain p = true ∧ PyData.plain q = true ∧ p.depth ≤ 64 ∧ b = PyData.eqv p q := by
  unfold eqPD at h
  cases h1 : pyD S d with
  | none => rw [h1] at h; cases h
  | some p =>
    rw [h1] at h
    cases h2 : pyD S e with
    | none => rw [h2] at h; cases h
    | some q =>
      rw [h2] at h
      simp only [Option.bind_some] at h
      split at h
      · rename_i hc; cases h; exact ⟨p, q, rfl, rfl, hc.1, hc.2.1, hc.2.2, rfl⟩
      · cases h
/-- two lists, or two tuples, of unlike length, one of them empty: whatever they hold -/
def seqOf (d : D) (S : Store) : Option (Bool × Nat) := match d with
  | .tup xs => some (true, xs.length)
  | .kl xs => some (false, xs.length)
  | .ref m => match S[m]? with
    | some (.lst xs) => some (false, xs.length)
    | _ => none
  | _ => none
def eqLen (d e : D) (S : Store) : Option Bool := (seqOf d S).bind fun p => (seqOf e S).bind fun q => if p.1 = q.1 ∧ p.2 ≠ q.2 ∧ (p.1 = false ∨ p.2 = 0 ∨ q.2 = 0) then some false else none
def eqP (d e : D) (S : Store) : Option Bool := match d, e with
  | .str x, .str y => some (decide (x = y))
  | _, _ => match eqLen d e S with
    | some b => some b
    | none => eqPD d e S
theorem eqP_ok {d e : D} {b : Bool} (h : eqP d e S = some b) : (∃ x y, d = .str x ∧ e = .str y ∧ b = decide (x = y)) ∨ (eqLen d e S = some b) ∨ ∃ p q, pyD S d = some p ∧ pyD S e = some q ∧ PyData.plain p = true ∧ PyData.plain q = true ∧ p.depth ≤ 64 ∧ b = PyData.eqv p q := by
  unfold eqP at h
  split at h
  · cases h; exact .inl ⟨_, _, rfl, rfl, rfl⟩
  · cases q : eqLen d e S with
    | some c => rw [q] at h; cases h; exact .inr (.inl rfl)
    | none => rw [q] at h; exact .inr (.inr (eqPD_ok h))
theorem seqOf_ok (I : Inv X pins σ H s) (ro : ROk X.K r H S) {d : D} {v : V} {u : Value} {t : Bool} {n : Nat} (h : seqOf d S = some (t, n)) (k : VR X.K r H d v) (rv : RelV v u) :
    ∃ (a : Addr) (its : Array Value), u = .ref a ∧ its.size = n ∧ (t = true → s.heap.IsTuple a its) ∧ (t = false → s.heap.IsList a its) := by
  have lists : ∀ (xs : List D) (a : Addr) (vs : List V), SqL X.K H a vs → VRs X.K r H xs vs → v = .ref a → ∃ (a : Addr) (its : Array Value), u = .ref a ∧ its.size = xs.length ∧ (false = true → s.heap.IsTuple a its) ∧ (false = false → s.heap.IsList a its) := fun xs a vs hs hv ev => by
    subst ev
    obtain rfl : u = .ref a := rv
    obtain ⟨its, rvv, pl, _⟩ := I.list hs
    exact ⟨a, its.toArray, rfl, by rw [List.size_toArray, ← rvv.length, ← hv.length], fun z => (by cases z), fun _ => pl.isList⟩
  cases d with
  | tup xs =>
    cases h
    obtain ⟨a, vs, rfl, hs, hv⟩ := k
    obtain rfl : u = .ref a := rv
    obtain ⟨its, rvv, ⟨o, ho, hc, n', hd⟩, _⟩ := I.tuple (sqT_of hs)
    exact ⟨a, its.toArray, rfl, by rw [List.size_toArray, ← rvv.length, ← hv.length], fun _ => ⟨o, ho, hc, n', hd⟩, fun z => (by cases z)⟩
  | kl xs =>
    cases h
    obtain ⟨a, vs, e, hs, hv⟩ := k
    exact lists xs a vs hs.l hv e
  | ref m =>
    obtain ⟨a, ha, e⟩ := k
    unfold seqOf at h
    dsimp only at h
    cases q : S[m]? with
    | none => rw [q] at h; cases h
    | some o =>
      rw [q] at h
      have oo := ro.ob m o a q ha
      cases o with
      | lst xs => cases h; obtain ⟨vs, h1, h2⟩ := oo; exact lists xs a vs (.of h1) h2 e
      | _ => cases h
  | _ => cases h
theorem eqLen_ok {b : Bool} {d e : D} (h : eqLen d e S = some b) : b = false ∧ ∃ t n m, seqOf d S = some (t, n) ∧ seqOf e S = some (t, m) ∧ n ≠ m ∧ (t = true → n = 0 ∨ m = 0) := by
  unfold eqLen at h
  cases h1 : seqOf d S with
  | none => rw [h1] at h; cases h
  | some p =>
    rw [h1] at h
    cases h2 : seqOf e S with
    | none => rw [h2] at h; cases h
    | some q =>
      rw [h2] at h
      simp only [Option.bind_some] at h
      split at h
      · rename_i hc
        cases h
        obtain ⟨t, n⟩ := p
        obtain ⟨t', m⟩ := q
        obtain ⟨c1, c2, c3⟩ := hc
        have c1 : t = t' := c1
        subst c1
        exact ⟨rfl, t, n, m, rfl, rfl, c2, fun ht => c3.elim (fun z => by rw [ht] at z; cases z) id⟩
      · cases h
def gEq : G2 := fun d e S => (eqP d e S).map fun b => (.bl b, S)
def gNe : G2 := fun d e S => (eqP d e S).map fun b => (.bl (!b), S)
theorem o_ne (hu : X.A.units + 64 < cLine) : OpD X (compareOp .NotEq) gNe := by
  refine ⟨?_⟩
  intro d e z x y r H S S' Q q k1 k2 ro ed
  unfold gNe at q
  cases h : eqP d e S with
  | none => rw [h] at q; cases q
  | some b =>
    rw [h] at q; cases q
    rcases eqP_ok h with ⟨x', y', rfl, rfl, rfl⟩ | hl | ⟨p, q, h1, h2, s1, s2, s3, rfl⟩
    · have k1 : x = .str x' := k1
      have k2 : y = .str y' := k2
      subst k1; subst k2
      refine wO_of op_ne ⟨rfl, ?_⟩
      refine ed.flat ro ?_
      show V.bl _ = V.bl _
      congr 1
      simp
    · obtain ⟨rfl, t, n, m, h1, h2, hne, hz⟩ := eqLen_ok hl
      intro pins s σ v u I rx ry
      obtain ⟨a, its, rfl, hs1, ht1, hl1⟩ := seqOf_ok I ro h1 k1 rx
      obtain ⟨b, its', rfl, hs2, ht2, hl2⟩ := seqOf_ok I ro h2 k2 ry
      have fin : EP X pins σ Q (.bool true) s := ⟨.bl _, H, I, rfl, ed.flat ro rfl⟩
      cases t with
      | true =>
        refine SeqAt.RcNeAt.tuples (e := fun _ => true) (ht1 rfl) (ht2 rfl) (by omega) (fun j j1 j2 => by rcases hz rfl with z | z <;> omega) _ _ _ _ ?_
        have e : (its.size == its'.size) = false := by rw [hs1, hs2]; simpa using hne
        rw [e, Bool.and_false]
        exact fin
      | false => exact SeqAt.RcNeAt.lists_lengths (hl1 rfl) (hl2 rfl) (by rw [hs1, hs2]; simpa using hne) (by omega) _ _ _ _ fin
    · intro pins s σ v u I rx ry
      obtain ⟨as, r1, _⟩ := toPy_reads I ro 64 d p x v h1 k1 rx
      obtain ⟨bs, r2, _⟩ := toPy_reads I ro 64 e q y u h2 k2 ry
      exact SeqAt.ne_plain r1 r2 s1 s2 (by omega) ⟨.bl _, H, I, rfl, ed.flat ro rfl⟩
end
end Q

namespace Q
open PySem PySem.Spec PyProof.Rows L2
variable [Gh : Ghost]
structure Gd (X : Cx) (k : Nat) : Prop where
  calm : X.calm = true
  room : Room k X.A
  gd : X.A.guards = some []
section
variable {X : Cx} {k : Nat}
/-! ### calls of built-ins by name -/
def mCall (g : GN) (m : MA) : ME := fun en S => (m en S).bind fun ds S1 => ofOpt (g ds S1)
section
variable {x : Str} {p pos : Pos} {e : Expr} {es : List Expr} {id T : String} {g : GN} {m : MA}
theorem e_callB (hc : CallD X (.builtin id) g) (hg : Gl X x) (hm : X.mg x = none) (hv : bootBuiltins x = some (.builtin id)) (ha : SndA X (e :: es) m) (hn : x ≠ "__name__" := by decide) (hdb : (x == ("__debug__" : Str)) = false := by decide)
    (he : starEach (e :: es) X.env = (false, eval e X.env) :: starEach es X.env := by rfl) (hpl : (backTo pos (starEach es X.env)).any (·.1) = false := by rfl) : SndE X (.Call (.Name x p) (e :: es) [] pos) (mCall g m) := by
  refine ⟨?_⟩
  intro W tk en σ r H S Q er ro dn
  refine wE_of (pe_callB (callr_wC X _) hg hm hv (pa_wA X _) hn hdb he hpl) ?_
  refine ha.run W tk en σ r H S _ er ro (Dn.imp (Dn.bind dn) fun xs H1 ⟨ds, S1, r1, e1, s1, o1, k1, d1⟩ => ?_)
  obtain ⟨z, S', g1, ed⟩ := dn_ofOpt d1
  exact hc.run ds z xs r1 H1 S1 S' Q g1 k1 o1 ed
theorem e_callT (hc : CallD X (.type T) g) (hg : Gl X x) (hm : X.mg x = none) (hv : bootBuiltins x = some (.type T)) (ha : SndA X (e :: es) m) (hn : x ≠ "__name__" := by decide) (hdb : (x == ("__debug__" : Str)) = false := by decide)
    (he : starEach (e :: es) X.env = (false, eval e X.env) :: starEach es X.env := by rfl) (hpl : (backTo pos (starEach es X.env)).any (·.1) = false := by rfl) : SndE X (.Call (.Name x p) (e :: es) [] pos) (mCall g m) := by
  refine ⟨?_⟩
  intro W tk en σ r H S Q er ro dn
  refine wE_of (pe_callTy (callr_wC X _) hg hm hv (pa_wA X _) hn hdb he hpl) ?_
  refine ha.run W tk en σ r H S _ er ro (Dn.imp (Dn.bind dn) fun xs H1 ⟨ds, S1, r1, e1, s1, o1, k1, d1⟩ => ?_)
  obtain ⟨z, S', g1, ed⟩ := dn_ofOpt d1
  exact hc.run ds z xs r1 H1 S1 S' Q g1 k1 o1 ed
end
/-- one argument -/
def g1N (g : G1) : GN := fun ds S => match ds with
  | [d] => g d S
  | _ => none
def g2N (g : G2) : GN := fun ds S => match ds with
  | [d, e] => g d e S
  | _ => none
theorem g1N_ok {g : G1} {ds : List D} {S : Store} {z : D} {S' : Store} (h : g1N g ds S = some (z, S')) : ∃ d, ds = [d] ∧ g d S = some (z, S') := by
  match ds, h with
  | [d], h => exact ⟨d, rfl, h⟩
  | [], h => cases h
  | _ :: _ :: _, h => cases h
theorem g2N_ok {g : G2} {ds : List D} {S : Store} {z : D} {S' : Store} (h : g2N g ds S = some (z, S')) : ∃ d e, ds = [d, e] ∧ g d e S = some (z, S') := by
  match ds, h with
  | [d, e], h => exact ⟨d, e, rfl, h⟩
  | [], h => cases h
  | [_], h => cases h
  | _ :: _ :: _ :: _, h => cases h
theorem VRs.one_inv {K : PySem.W.Frag} {r : List Addr} {H : Hp} {d : D} {vs : List V} (h : VRs K r H [d] vs) : ∃ v, vs = [v] ∧ VR K r H d v := by
  obtain ⟨v, ws, rfl, h1, h2⟩ := h
  have h2 : ws = [] := h2
  subst h2
  exact ⟨v, rfl, h1⟩
theorem VRs.two_inv {K : PySem.W.Frag} {r : List Addr} {H : Hp} {d e : D} {vs : List V} (h : VRs K r H [d, e] vs) : ∃ v w, vs = [v, w] ∧ VR K r H d v ∧ VR K r H e w := by
  obtain ⟨v, ws, rfl, h1, h2⟩ := h
  obtain ⟨w, rfl, h3⟩ := h2.one_inv
  exact ⟨v, w, rfl, h1, h3⟩
/-- a call of one argument -/
structure Call1D (X : Cx) (f : Value) (g : G1) : Prop where
  run : ∀ (d z : D) (x : V) (r : List Addr) (H : Hp) (S S' : Store) (Q : VK), g d S = some (z, S') → VR X.K r H d x → ROk X.K r H S → Ed X.K r H z S' Q → wC X f [x] H Q
structure Call2D (X : Cx) (f : Value) (g : G2) : Prop where
  run : ∀ (d e z : D) (x y : V) (r : List Addr) (H : Hp) (S S' : Store) (Q : VK), g d e S = some (z, S') → VR X.K r H d x → VR X.K r H e y → ROk X.K r H S → Ed X.K r H z S' Q → wC X f [x, y] H Q
theorem Call1D.call {f : Value} {g : G1} (h : Call1D X f g) : CallD X f (g1N g) := by
  refine ⟨?_⟩
  intro ds z xs r H S S' Q q k ro ed
  obtain ⟨d, rfl, q⟩ := g1N_ok q
  obtain ⟨v, rfl, kx⟩ := k.one_inv
  exact h.run d z v r H S S' Q q kx ro ed
theorem Call2D.call {f : Value} {g : G2} (h : Call2D X f g) : CallD X f (g2N g) := by
  refine ⟨?_⟩
  intro ds z xs r H S S' Q q k ro ed
  obtain ⟨d, e, rfl, q⟩ := g2N_ok q
  obtain ⟨v, w, rfl, k1, k2⟩ := k.two_inv
  exact h.run d e z v w r H S S' Q q k1 k2 ro ed

/-! ### len, abs, int, bool, max and min of two -/
def lenD (d : D) (S : Store) : Option Nat := match d with
  | .str y => if y.length ≤ sizeLine then some y.length else none
  | .tup xs => some xs.length
  | .kl xs => some xs.length
  | .ref n => match S[n]? with
    | some (.lst xs) => some xs.length
    | _ => none
  | _ => none
def gLen : G1 := fun d S => (lenD d S).map fun n => (.int n, S)
theorem c_len : Call1D X (.builtin "len") gLen := by
  refine ⟨?_⟩
  intro d z x r H S S' Q q k ro ed
  unfold gLen at q
  cases h : lenD d S with
  | none => rw [h] at q; cases q
  | some n =>
    rw [h] at q; cases q
    refine wC_of call_len ⟨x, n, rfl, ?_, ed.flat ro rfl⟩
    unfold lenD at h
    split at h
    · split at h
      · rename_i y hy; cases h; have k : x = .str y := k; subst k; exact ⟨hy, rfl⟩
      · cases h
    · cases h
      obtain ⟨a, vs, rfl, ha, hv⟩ := k
      exact .inr ⟨vs, (sqT_of ha), hv.length⟩
    · cases h
      obtain ⟨a, vs, rfl, ha, hv⟩ := k
      exact .inl ⟨vs, ha.l, hv.length⟩
    · rename_i m
      obtain ⟨a, ha, rfl⟩ := k
      cases hq : S[m]? with
      | none => rw [hq] at h; cases h
      | some o =>
        rw [hq] at h
        have ho := ro.ob m o a hq ha
        cases o with
        | lst xs => cases h; obtain ⟨vs, h1, h2⟩ := ho; exact .inl ⟨vs, .of h1, h2.length⟩
        | _ => cases h
    · cases h
def gAbs : G1 := fun d S => (intD d).map fun i => (.int (if i < 0 then -i else i), S)
theorem c_abs : Call1D X (.builtin "abs") gAbs := by
  refine ⟨?_⟩
  intro d z x r H S S' Q q k ro ed
  cases d with
  | int i => cases q; exact wC_of call_abs ⟨i, by rw [show x = .int i from k], ed.flat ro rfl⟩
  | _ => cases q
def gInt : G1 := fun d S => match d with
  | .int i => some (.int i, S)
  | .bl b => some (.int (if b then 1 else 0), S)
  | _ => none
theorem c_int : Call1D X (.type "int") gInt := by
  refine ⟨?_⟩
  intro d z x r H S S' Q q k ro ed
  unfold gInt at q
  split at q
  · cases q; exact wC_of call_int1 (.inl ⟨_, by rw [show x = .int _ from k], ed.flat ro rfl⟩)
  · cases q; exact wC_of call_int1 (.inr ⟨_, by rw [show x = .bl _ from k], ed.flat ro rfl⟩)
  · cases q
/-! ### sum, max, min, all, any of a list -/
def blsD : List D → Option (List Bool)
  | [] => some []
  | .bl i :: r => (blsD r).map (i :: ·)
  | _ => none
theorem blsD_ok {K : PySem.W.Frag} {r : List Addr} {H : Hp} : ∀ {ds : List D} {ns : List Bool} {vs : List V}, blsD ds = some ns → VRs K r H ds vs → vs = ns.map V.bl
  | [], _, _, e, h => by cases e; exact h
  | d :: ds, _, _, e, h => by
    obtain ⟨v, ws, rfl, h1, h2⟩ := h
    cases d with
    | bl i =>
      unfold blsD at e
      obtain ⟨ns, e1, rfl⟩ := Option.map_eq_some_iff.mp e
      rw [blsD_ok e1 h2, show v = .bl i from h1]
      rfl
    | _ => cases e
theorem lst_of {r : List Addr} {H : Hp} {S : Store} {d : D} {x : V} {ds : List D} (ro : ROk X.K r H S) (k : VR X.K r H d x) (e : lstD d S = some ds) : ∃ p vs, x = .ref p ∧ SqL X.K H p vs ∧ VRs X.K r H ds vs := by
  obtain ⟨n, p, vs, _, _, rfl, h1, _, h2⟩ := lstD_ok ro k e
  exact ⟨p, vs, rfl, .of h1, h2⟩
def gAll : G1 := fun d S => (lstD d S).bind fun ds => (blsD ds).map fun ns => (.bl (ns.all fun b => b), S)
def gAny : G1 := fun d S => (lstD d S).bind fun ds => (blsD ds).map fun ns => (.bl (ns.any fun b => b), S)
theorem c_all (g : Gd X k) : Call1D X (.builtin "all") gAll := by
  refine ⟨?_⟩
  intro d z x r H S S' Q q k ro ed
  obtain ⟨ds, h1, q⟩ := Option.bind_eq_some_iff.mp q
  obtain ⟨ns, h2, q⟩ := Option.map_eq_some_iff.mp q
  cases q
  obtain ⟨p, vs, rfl, hs, hv⟩ := lst_of ro k h1
  rw [blsD_ok h2 hv] at hs
  exact wC_of (cr_all g.calm) ⟨p, ns, rfl, hs, ed.flat ro rfl⟩
theorem c_any (g : Gd X k) : Call1D X (.builtin "any") gAny := by
  refine ⟨?_⟩
  intro d z x r H S S' Q q k ro ed
  obtain ⟨ds, h1, q⟩ := Option.bind_eq_some_iff.mp q
  obtain ⟨ns, h2, q⟩ := Option.map_eq_some_iff.mp q
  cases q
  obtain ⟨p, vs, rfl, hs, hv⟩ := lst_of ro k h1
  rw [blsD_ok h2 hv] at hs
  exact wC_of (cr_any g.calm) ⟨p, ns, rfl, hs, ed.flat ro rfl⟩
/-- tuple(xs), list(xs) -/
def gTuple : G1 := fun d S => (itemsD d S).map fun ds => (.tup ds, S)
def gList : G1 := fun d S => (itemsD d S).map fun ds => (.ref S.length, S ++ [.lst ds])
theorem c_tuple : Call1D X (.type "tuple") gTuple := by
  refine ⟨?_⟩
  intro d z x r H S S' Q q k ro ed
  obtain ⟨ds, h1, q⟩ := Option.map_eq_some_iff.mp q
  cases q
  obtain ⟨p, vs, rfl, hs, hv⟩ := itemsD_ok2 ro k h1
  refine wC_of call_tuple_of ⟨p, vs, rfl, ?_⟩
  rcases hs with hs | hs
  · exact .inl ⟨hs, fun l hl => ed.tupN ro hv hl⟩
  · exact .inr ⟨sqT_of hs, ed.flat ro ⟨p, vs, rfl, hs, hv⟩⟩
theorem c_list : Call1D X (.type "list") gList := by
  refine ⟨?_⟩
  intro d z x r H S S' Q q k ro ed
  obtain ⟨ds, h1, q⟩ := Option.map_eq_some_iff.mp q
  cases q
  obtain ⟨p, vs, rfl, hs, hv⟩ := itemsD_ok ro k h1
  exact wC_of call_list_of ⟨p, vs, rfl, hs, fun l hl => ed.lstN ro hv hl⟩

/-! ### repr -/
def reprP (d : D) (S : Store) : Option Str := (pyD S d).bind fun p => if p.showable = true ∧ p.depth ≤ 64 ∧ p.shown.length ≤ sizeLine then some p.shown else none
def gRepr : G1 := fun d S => (reprP d S).map fun x => (.str x, S)
theorem c_repr (g : Gd X k) : Call1D X (.builtin "repr") gRepr := by
  refine ⟨?_⟩
  intro d z x r H S S' Q q k ro ed
  obtain ⟨t, h1, q⟩ := Option.map_eq_some_iff.mp q
  cases q
  obtain ⟨p, h2, h3⟩ := Option.bind_eq_some_iff.mp h1
  by_cases hc : p.showable = true ∧ p.depth ≤ 64 ∧ p.shown.length ≤ sizeLine
  · rw [if_pos hc] at h3
    cases h3
    obtain ⟨c1, c2, c4⟩ := hc
    intro pins s σ us I rv
    obtain ⟨u, rfl, ru⟩ := vals1 rv
    obtain ⟨as, rd, hns⟩ := toPy_reads I ro 64 d p x u h2 k ru
    have hu := g.room.un
    have rd0 := rd
    have fin : ∀ tk, EP X pins σ Q (.str p.shown tk) { s with toks := s.toks + 1 } := fun tk => ⟨.str p.shown, H, I.tok _, ⟨tk, rfl⟩, ed.flat ro rfl⟩
    cases rd with
    | none =>
      rw [PyData.shown_none] at fin
      exact PySem.P.repr_of_none (fin _)
    | bool b =>
      rw [PyData.shown_bool] at fin
      exact PySem.P.repr_of_bool (by cases b <;> exact fin _)
    | int i t =>
      rw [PyData.shown_int] at fin
      refine PySem.P.repr_of_int (by simpa [PyData.showable] using c1) (fin _)
    | str y t =>
      rw [PyData.shown_str] at fin c4
      exact PySem.P.repr_of_str (fin _) c4
    | list _ _ _ _ =>
      exact repr_of_reads' rd0 c1 (fun _ => hns) g.gd (by omega) (fun _ _ e => e) (fun h' u tk hk => ⟨.str _, H, I.kept hk, ⟨u, rfl⟩, ed.flat ro rfl⟩) c4
    | tuple _ _ _ _ =>
      exact repr_of_reads' rd0 c1 (fun _ => hns) g.gd (by omega) (fun _ _ e => e) (fun h' u tk hk => ⟨.str _, H, I.kept hk, ⟨u, rfl⟩, ed.flat ro rfl⟩) c4
    | dict _ _ _ _ _ =>
      exact repr_of_reads' rd0 c1 (fun _ => hns) g.gd (by omega) (fun _ _ e => e) (fun h' u tk hk => ⟨.str _, H, I.kept hk, ⟨u, rfl⟩, ed.flat ro rfl⟩) c4
  · rw [if_neg hc] at h3; cases h3

/-! ### isinstance -/
inductive Kd where
  | none | bool | int | str | tup | lst | dct | ins (C : Addr)
def kindD (d : D) (S : Store) : Option Kd := match d with
  | .non => some .none
  | .bl _ => some .bool
  | .int _ => some .int
  | .str _ => some .str
  | .tup _ => some .tup
  | .kl _ => some .lst
  | .ref n => match S[n]? with
    | some (.lst _) => some .lst
    | some (.dct _) => some .dct
    | some (.dcT _) => some .dct
    | some (.ins C _) => some (.ins C)
    | _ => Option.none
  | _ => Option.none
def Kd.ty : Kd → Value
  | .none => .type "NoneType"
  | .bool => .type "bool"
  | .int => .type "int"
  | .str => .type "str"
  | .tup => .type "tuple"
  | .lst => .type "list"
  | .dct => .type "dict"
  | .ins C => .ref C
theorem kindD_ok {r : List Addr} {H : Hp} {S : Store} {d : D} {x : V} {q : Kd} (ro : ROk X.K r H S) (h : VR X.K r H d x) (e : kindD d S = some q) : TyX X.K H x q.ty ∧ ∀ C, q = .ins C → OwnOk X.K C := by
  cases d with
  | non => cases e; have h : x = .non := h; subst h; exact ⟨.base .non, fun _ z => nomatch z⟩
  | bl b => cases e; have h : x = .bl b := h; subst h; exact ⟨.base (.bl b), fun _ z => nomatch z⟩
  | int i => cases e; have h : x = .int i := h; subst h; exact ⟨.base (.int i), fun _ z => nomatch z⟩
  | str i => cases e; have h : x = .str i := h; subst h; exact ⟨.base (.str i), fun _ z => nomatch z⟩
  | tup xs =>
    cases e
    obtain ⟨p, vs, rfl, hs, hv⟩ := h
    exact ⟨.base (.tup hs), fun _ z => nomatch z⟩
  | kl xs =>
    cases e
    obtain ⟨p, vs, rfl, hs, hv⟩ := h
    refine ⟨?_, fun _ z => nomatch z⟩
    rcases hs with ⟨o, hs⟩ | ⟨o, its, n, h1, h2, _⟩
    · exact .base (.frz hs)
    · exact .kList h1 h2
  | ref n =>
    obtain ⟨p, hp, rfl⟩ := h
    unfold kindD at e
    dsimp only at e
    cases q' : S[n]? with
    | none => rw [q'] at e; cases e
    | some o =>
      rw [q'] at e
      have ho := ro.ob n o p q' hp
      cases o with
      | lst xs => cases e; obtain ⟨vs, h1, h2⟩ := ho; exact ⟨.base (.lst h1), fun _ z => nomatch z⟩
      | dct xs => cases e; obtain ⟨vs, h1, h2⟩ := ho; exact ⟨.base (.dK h1), fun _ z => nomatch z⟩
      | ins C fs => cases e; obtain ⟨dx, vs, h1, h2, h3⟩ := ho; exact ⟨.base (.ins h1 h3.cl h3.ha h3.hn h3.htk h3.hm), fun _ z => by cases z; exact h3⟩
      | xd fs => cases e
      | tab P q => cases e
      | dcT xs => cases e; obtain ⟨vs, h1, h2⟩ := ho; exact ⟨.base (.dT h1), fun _ z => nomatch z⟩
      | lkT kvs => cases e
  | _ => cases e
inductive Bt where
  | int | bool | str | tup | lst | dct
def Bt.nm : Bt → String
  | .int => "int" | .bool => "bool" | .str => "str" | .tup => "tuple" | .lst => "list" | .dct => "dict"
def isKd : Kd → Bt → Bool
  | .bool, .int => true
  | .int, .int => true
  | .bool, .bool => true
  | .str, .str => true
  | .tup, .tup => true
  | .lst, .lst => true
  | .dct, .dct => true
  | _, _ => false
theorem kit_bt {K : PySem.W.Frag} (q : Kd) (t : Bt) (h : ∀ C, q = .ins C → OwnOk K C) : PySem.W.kitOne K q.ty (.type t.nm) = some (isKd q t) := by
  cases q with
  | ins C =>
    have o := h C rfl
    cases t <;> exact o.nT _ (by simp [Bt.nm])
  | _ => cases t <;> with_unfolding_all rfl
def gIsi (t : Bt) : G1 := fun d S => (kindD d S).map fun q => (.bl (isKd q t), S)
def gIsiA (ts : List Bt) : G1 := fun d S => (kindD d S).map fun q => (.bl (ts.any (isKd q)), S)
theorem kit_bts {K : PySem.W.Frag} (q : Kd) (h : ∀ C, q = .ins C → OwnOk K C) : ∀ ts : List Bt, PySem.W.kitAny K q.ty (ts.map fun t => .type t.nm) = some (ts.any (isKd q))
  | [] => rfl
  | t :: ts => by
    rw [List.map_cons, List.any_cons]
    unfold PySem.W.kitAny
    rw [kit_bt q t h]
    cases isKd q t with
    | true => rfl
    | false => exact kit_bts q h ts
section
variable {p p1 pos : Pos} {e : Expr} {m : ME}
theorem e_isi (t : Bt) {x y : Str} (hg : Gl X x) (hm : X.mg x = none) (hv : bootBuiltins x = some (.builtin "isinstance")) (hg2 : Gl X y) (hm2 : X.mg y = none) (hv2 : bootBuiltins y = some (.type t.nm)) (ha : SndE X e m)
    (hn : x ≠ "__name__" := by decide) (hdb : (x == ("__debug__" : Str)) = false := by decide) (hn2 : y ≠ "__name__" := by decide) (hdb2 : (y == ("__debug__" : Str)) = false := by decide)
    (he : starEach [e, .Name y p1] X.env = (false, eval e X.env) :: starEach [.Name y p1] X.env := by rfl) (hpl : (backTo pos (starEach [.Name y p1] X.env)).any (·.1) = false := by rfl) :
    SndE X (.Call (.Name x p) [e, .Name y p1] [] pos) (m1 (gIsi t) m) := by
  refine ⟨?_⟩
  intro W tk en σ r H S Q er ro dn
  refine wE_of (pe_callB call_isi hg hm hv (pa_cons (pe_wE X e) (pa_cons (pe_bltn (v := .ty t.nm) hg2 hm2 hv2 rfl hn2 hdb2) pa_nil) he) hn hdb he hpl) ?_
  refine ha.run W tk en σ r H S _ er ro (Dn.imp (Dn.bind dn) fun x H1 ⟨d, S1, r1, e1, s1, o1, k1, d1⟩ => ?_)
  obtain ⟨z, S', g1, ed⟩ := dn_ofOpt d1
  obtain ⟨q, h1, q2⟩ := Option.map_eq_some_iff.mp g1
  cases q2
  obtain ⟨ty, ow⟩ := kindD_ok o1 k1 h1
  exact ⟨x, .ty t.nm, q.ty, .type t.nm, isKd q t, rfl, .ty _, ty, kit_bt q t ow, ed.flat o1 rfl⟩
theorem e_isi2 (t u : Bt) {x y1 y2 : Str} {px : Nat} {p2 p3 : Pos} (hg : Gl X x) (hm : X.mg x = none) (hv : bootBuiltins x = some (.builtin "isinstance")) (hg1 : Gl X y1) (hm1 : X.mg y1 = none) (hv1 : bootBuiltins y1 = some (.type t.nm))
    (hg2 : Gl X y2) (hm2 : X.mg y2 = none) (hv2 : bootBuiltins y2 = some (.type u.nm)) (ha : SndE X e m)
    (hn : x ≠ "__name__" := by decide) (hdb : (x == ("__debug__" : Str)) = false := by decide) (hn1 : y1 ≠ "__name__" := by decide) (hdb1 : (y1 == ("__debug__" : Str)) = false := by decide) (hn2 : y2 ≠ "__name__" := by decide) (hdb2 : (y2 == ("__debug__" : Str)) = false := by decide)
    (he : starEach [e, .Tuple [.Name y1 p1, .Name y2 p2] px p3] X.env = (false, eval e X.env) :: starEach [.Tuple [.Name y1 p1, .Name y2 p2] px p3] X.env := by rfl) (hpl : (backTo pos (starEach [.Tuple [.Name y1 p1, .Name y2 p2] px p3] X.env)).any (·.1) = false := by rfl) :
    SndE X (.Call (.Name x p) [e, .Tuple [.Name y1 p1, .Name y2 p2] px p3] [] pos) (m1 (gIsiA [t, u]) m) := by
  refine ⟨?_⟩
  intro W tk en σ r H S Q er ro dn
  refine wE_of (pe_callB call_isiT hg hm hv (pa_cons (pe_wE X e) (pa_cons (pe_tup (pa_cons (pe_bltn (v := .ty t.nm) hg1 hm1 hv1 rfl hn1 hdb1) (pa_cons (pe_bltn (v := .ty u.nm) hg2 hm2 hv2 rfl hn2 hdb2) pa_nil))) pa_nil) he) hn hdb he hpl) ?_
  refine ha.run W tk en σ r H S _ er ro (Dn.imp (Dn.bind dn) fun x H1 ⟨d, S1, r1, e1, s1, o1, k1, d1⟩ => ?_)
  obtain ⟨z, S', g1, ed⟩ := dn_ofOpt d1
  obtain ⟨q, h1, q2⟩ := Option.map_eq_some_iff.mp g1
  cases q2
  refine ⟨by show 2 ≤ sizeLine; decide, fun p hp => ?_⟩
  obtain ⟨ty, ow⟩ := kindD_ok (o1.loose (p := p) (u := .tup [.ty t.nm, .ty u.nm]) hp) (k1.mono (Stp.loose hp)) h1
  exact ⟨x, p, [.ty t.nm, .ty u.nm], q.ty, [.type t.nm, .type u.nm], ([t, u]).any (isKd q), rfl, upd_same, .cons (.ty _) (.cons (.ty _) .nil), ty, kit_bts q ow [t, u], ed r1 _ _ (Stp.loose hp) (o1.loose hp) rfl⟩
end
end
end Q

namespace Q
open PySem PySem.Spec PyProof.Rows L2
variable [Gh : Ghost]
section
variable {X : Cx} {k : Nat} {a b : Expr} {ma mb : ME} {pos : Pos}
/-! ### an item: a[b] of a list, a tuple, a text -/
theorem VRs.atI {K : PySem.W.Frag} {r : List Addr} {H : Hp} {ds : List D} {vs : List V} {i : Int} {d : D} (h : VRs K r H ds vs) (e : L2.atI ds i = some d) : ∃ v, L2.atI vs i = some v ∧ VR K r H d v := by
  unfold L2.atI at e ⊢
  rw [← h.length]
  cases q : ixN ds.length i with
  | none => rw [q] at e; cases e
  | some j => rw [q] at e; exact h.get e
theorem keyD_ok {K : PySem.W.Frag} {r : List Addr} {H : Hp} {d : D} {x : V} {i : Key} (e : keyD d = some i) (k : VR K r H d x) : x = kV i := by
  cases d <;> first | (cases e; exact k) | cases e
def lookK (kvs : List (Key × D)) (k : Key) : Option D := (kvs.find? fun kv => decide (kv.1 = k)).map (·.2)
def putKD (kvs : List (Key × D)) (k : Key) (v : D) : List (Key × D) :=
  if (kvs.any fun kv => decide (kv.1 = k)) = true then kvs.map (fun kv => if kv.1 = k then (kv.1, v) else kv) else kvs ++ [(k, v)]
theorem KR.look {K : PySem.W.Frag} {r : List Addr} {H : Hp} (k : Key) : ∀ {ds : List (Key × D)} {vs : List (Key × V)}, KR K r H ds vs → match lookK ds k with | none => valV vs k = none | some d => ∃ v, valV vs k = some v ∧ VR K r H d v
  | [], vs, h => by have h : vs = [] := h; subst h; rfl
  | p :: ds, vs, h => by
    obtain ⟨v, ws, rfl, h1, h2⟩ := h
    have ih := KR.look k h2
    by_cases e : p.1 = k
    · rw [show lookK (p :: ds) k = some p.2 by simp [lookK, List.find?_cons, e]]
      exact ⟨v, valV_pos e, h1⟩
    · rw [show lookK (p :: ds) k = lookK ds k by simp [lookK, List.find?_cons, e], valV_neg (p := (p.1, v)) e]
      exact ih
theorem KR.any {K : PySem.W.Frag} {r : List Addr} {H : Hp} (k : Key) : ∀ {ds : List (Key × D)} {vs : List (Key × V)}, KR K r H ds vs → (ds.any fun kv => decide (kv.1 = k)) = vs.any fun kv => decide (kv.1 = k)
  | [], vs, h => by have h : vs = [] := h; subst h; rfl
  | p :: ds, vs, h => by
    obtain ⟨v, ws, rfl, h1, h2⟩ := h
    rw [List.any_cons, List.any_cons, KR.any k h2]
theorem KR.map {K : PySem.W.Frag} {r : List Addr} {H : Hp} {k : Key} {d : D} {v : V} (hd : VR K r H d v) : ∀ {ds : List (Key × D)} {vs : List (Key × V)}, KR K r H ds vs → KR K r H (ds.map fun kv => if kv.1 = k then (kv.1, d) else kv) (vs.map fun kv => if kv.1 = k then (kv.1, v) else kv)
  | [], vs, h => by have h : vs = [] := h; subst h; rfl
  | p :: ds, vs, h => by
    obtain ⟨w, ws, rfl, h1, h2⟩ := h
    rw [List.map_cons, List.map_cons]
    by_cases e : p.1 = k
    · rw [if_pos e, if_pos (show (p.1, w).1 = k from e)]
      exact ⟨v, _, rfl, hd, KR.map hd h2⟩
    · rw [if_neg e, if_neg (show ¬ (p.1, w).1 = k from e)]
      exact ⟨w, _, rfl, h1, KR.map hd h2⟩
theorem KR.append {K : PySem.W.Frag} {r : List Addr} {H : Hp} : ∀ {ds es : List (Key × D)} {vs ws : List (Key × V)}, KR K r H ds vs → KR K r H es ws → KR K r H (ds ++ es) (vs ++ ws)
  | [], _, vs, _, h, h' => by have h : vs = [] := h; subst h; exact h'
  | p :: ds, _, vs, _, h, h' => by
    obtain ⟨w, ws, rfl, h1, h2⟩ := h
    exact ⟨w, _, rfl, h1, KR.append h2 h'⟩
theorem KR.put {K : PySem.W.Frag} {r : List Addr} {H : Hp} {k : Key} {d : D} {v : V} {ds : List (Key × D)} {vs : List (Key × V)} (h : KR K r H ds vs) (hd : VR K r H d v) : KR K r H (putKD ds k d) (putK vs k v) := by
  unfold putKD putK
  rw [h.any k]
  split
  · exact KR.map hd h
  · exact KR.append h ⟨v, [], rfl, hd, rfl⟩
theorem KR.length {K : PySem.W.Frag} {r : List Addr} {H : Hp} : ∀ {ds : List (Key × D)} {vs : List (Key × V)}, KR K r H ds vs → ds.length = vs.length
  | [], vs, h => by have h : vs = [] := h; subst h; rfl
  | p :: ds, vs, h => by
    obtain ⟨w, ws, rfl, h1, h2⟩ := h
    rw [List.length_cons, List.length_cons, KR.length h2]
def itemD (d e : D) (S : Store) : Option D := match d, e with
  | .tup xs, .int i => L2.atI xs i
  | .kl xs, .int i => L2.atI xs i
  | .str z, .int i => if z.length ≤ sizeLine then (L2.atI z.cps.toList i).map fun c => .str ⟨#[c]⟩ else none
  | .ref n, .int i => match S[n]? with
    | some (.lst xs) => L2.atI xs i
    | _ => none
  | _, _ => none
theorem itemD_ok {r : List Addr} {H : Hp} {S : Store} {d e z : D} {x y : V} (ro : ROk X.K r H S) (k1 : VR X.K r H d x) (k2 : VR X.K r H e y) (q : itemD d e S = some z) {Q : VK} (hq : ∀ v, VR X.K r H z v → Q v H) : rIx X.K x y H Q := by
  unfold itemD at q
  split at q
  · obtain ⟨p, vs, rfl, hs, hv⟩ := k1
    obtain ⟨v, h1, h2⟩ := hv.atI q
    exact .inr (.inl ⟨p, vs, _, v, rfl, k2, (sqT_of hs), h1, hq v h2⟩)
  · obtain ⟨p, vs, rfl, hs, hv⟩ := k1
    obtain ⟨v, h1, h2⟩ := hv.atI q
    exact .inl ⟨p, vs, _, v, rfl, k2, hs.l, h1, hq v h2⟩
  · split at q
    · rename_i hz
      obtain ⟨c, h1, rfl⟩ := Option.map_eq_some_iff.mp q
      exact .inr (.inr ⟨_, _, c, k1, k2, hz, h1, hq _ rfl⟩)
    · cases q
  · rename_i n i
    obtain ⟨p, hp, rfl⟩ := k1
    cases q' : S[n]? with
    | none => rw [q'] at q; cases q
    | some o =>
      rw [q'] at q
      have ho := ro.ob n o p q' hp
      cases o with
      | lst xs =>
        obtain ⟨vs, h1, hv⟩ := ho
        obtain ⟨v, h2, h3⟩ := hv.atI q
        exact .inl ⟨p, vs, i, v, rfl, k2, .of h1, h2, hq v h3⟩
      | _ => cases q
  · cases q
/-- d[k] of a dict with int and text keys -/
def dctD (d : D) (S : Store) : Option (List (Key × D)) := match d with
  | .ref n => match S[n]? with
    | some (.dct kvs) => some kvs
    | _ => none
  | _ => none
theorem dctD_ok {r : List Addr} {H : Hp} {S : Store} {d : D} {x : V} {kvs : List (Key × D)} (ro : ROk X.K r H S) (h : VR X.K r H d x) (e : dctD d S = some kvs) : ∃ n p vs, d = .ref n ∧ r[n]? = some p ∧ x = .ref p ∧ H p = some (.dK vs) ∧ S[n]? = some (.dct kvs) ∧ KR X.K r H kvs vs := by
  cases d with
  | ref n =>
    obtain ⟨p, hp, rfl⟩ := h
    unfold dctD at e
    dsimp only at e
    cases q : S[n]? with
    | none => rw [q] at e; cases e
    | some o =>
      rw [q] at e
      have ho := ro.ob n o p q hp
      cases o with
      | dct xs => obtain ⟨vs, h1, h2⟩ := ho; cases Option.some.inj e; exact ⟨n, p, vs, rfl, hp, rfl, h1, q, h2⟩
      | _ => cases e
  | _ => cases e
/-! ### a[lo:hi] -/
abbrev MO := En → Store → Res (Option Int)
def RO : List Addr → Hp → Option Int → Option Int → Prop := fun _ _ a b => b = a
def wP (X : Cx) (e : Option Expr) : TO := fun σ H Q => ∀ (pins : List (Addr × Obj)) (s : Shared), Inv X pins σ H s → wpAny (model X.prog X.w) X.A (evalPart e X.env) (fun u s' => ∃ o H', Inv X pins σ H' s' ∧ IsPart u o ∧ Q o H') X.xe s
theorem po_wP (X : Cx) (e : Option Expr) : PO X e (wP X e) := ⟨fun pins s _ _ _ I h => h pins s I⟩
structure SndP (X : Cx) (e : Option Expr) (m : MO) : Prop where
  run : ∀ (W : WX), Takes X W → ∀ (en : En) (σ : L2.St) (r : List Addr) (H : Hp) (S : Store) (Q : Option Int → Hp → Prop), ER X.K r H en σ → ROk X.K r H S → Dn X.K r H RO (m en S) Q (WE W σ) → wP X e σ H Q
def mNone : MO := fun _ S => .ok none S
def mSome (m : ME) : MO := fun en S => (m en S).bind fun d S1 => match intD d with
  | some i => .ok (some i) S1
  | none => .bad
theorem p_none : SndP X none mNone := by
  refine ⟨?_⟩
  intro W tk en σ r H S Q er ro dn pins s I
  exact po_none.run pins s σ H Q I (Dn.ok_here (R := RO) (a := none) (v := none) dn ro rfl)
theorem p_some (h : SndE X a ma) : SndP X (some a) (mSome ma) := by
  refine ⟨?_⟩
  intro W tk en σ r H S Q er ro dn pins s I
  refine (po_some (pe_wE X a)).run pins s σ H Q I ?_
  refine h.run W tk en σ r H S _ er ro (Dn.imp (Dn.bind dn) fun x H1 ⟨d, S1, r1, e1, s1, o1, k1, d1⟩ => ?_)
  cases q : intD d with
  | none => rw [q] at d1; exact d1.elim
  | some i => rw [q] at d1; exact ⟨i, intD_ok q k1, Dn.ok_here (R := RO) (a := some i) (v := some i) d1 o1 rfl⟩
def cutD (xs : List D) (lo hi : Option Int) : List D := (xs.drop (HT.sIx xs.length 0 lo)).take (HT.sIx xs.length xs.length hi - HT.sIx xs.length 0 lo)
theorem VRs.cut {K : PySem.W.Frag} {r : List Addr} {H : Hp} {ds : List D} {vs : List V} (h : VRs K r H ds vs) (lo hi : Option Int) : VRs K r H (cutD ds lo hi) (cutV vs lo hi) := by
  unfold cutD cutV
  rw [← h.length]
  exact (h.drop _).take _
def cutP (d : D) (lo hi : Option Int) (S : Store) : Option (D × Store) := match d with
  | .tup xs => some (.tup (cutD xs lo hi), S)
  | .kl xs => some (.ref S.length, S ++ [.lst (cutD xs lo hi)])
  | .str z => if z.length ≤ sizeLine then some (.str (cutS z lo hi), S) else none
  | .ref n => match S[n]? with
    | some (.lst xs) => some (.ref S.length, S ++ [.lst (cutD xs lo hi)])
    | _ => none
  | _ => none
def mSl (ma : ME) (ml mh : MO) : ME := fun en S => (ma en S).bind fun d S1 => (ml en S1).bind fun lo S2 => (mh en S2).bind fun hi S3 => ofOpt (cutP d lo hi S3)
theorem e_slice {lo hi : Option Expr} {ml mh : MO} {p2 : Pos} (ha : SndE X a ma) (hl : SndP X lo ml) (hh : SndP X hi mh) : SndE X (.Subscript a (.Slice lo hi none p2) pos) (mSl ma ml mh) := by
  refine ⟨?_⟩
  intro W tk en σ r H S Q er ro dn
  refine wE_of (pe_slice ((sl_tupA.or sl_list).or sl_str) (pe_wE X a) (po_wP X lo) (po_wP X hi)) ?_
  refine ha.run W tk en σ r H S _ er ro (Dn.imp (Dn.bind dn) fun x H1 ⟨d, S1, r1, e1, s1, o1, k1, d1⟩ => ?_)
  refine hl.run W tk en σ r1 H1 S1 _ (er.mono s1) o1 (Dn.imp (Dn.bind d1) fun l H2 ⟨l', S2, r2, e2, s2, o2, k2, d2⟩ => ?_)
  refine hh.run W tk en σ r2 H2 S2 _ ((er.mono s1).mono s2) o2 (Dn.imp (Dn.bind d2) fun u H3 ⟨u', S3, r3, e3, s3, o3, k3, d3⟩ => ?_)
  have k2 : l = l' := k2
  have k3 : u = u' := k3
  subst k2; subst k3
  obtain ⟨z, S', g1, ed⟩ := dn_ofOpt d3
  have k1 := (k1.mono s2).mono s3
  cases d with
  | tup xs =>
    cases g1
    obtain ⟨p, vs, rfl, hs, hv⟩ := k1
    refine .inl (.inl ⟨p, vs, rfl, (sqT_of hs), fun e => ed.flat o3 ⟨p, vs, rfl, hs, ?_⟩, fun _ q hq => ed.tupN o3 (hv.cut l u) hq⟩)
    have hl := hv.length
    unfold cutD
    rw [hl, e.1, e.2, Nat.sub_zero, List.drop_zero, List.take_of_length_le (by omega)]
    exact hv
  | str z =>
    unfold cutP at g1
    dsimp only at g1
    split at g1
    · rename_i hz
      cases g1
      exact .inr ⟨_, k1, hz, ed.flat o3 rfl⟩
    · cases g1
  | kl xs =>
    cases g1
    obtain ⟨p, vs, rfl, hs, hv⟩ := k1
    exact .inl (.inr ⟨p, vs, rfl, hs.l, fun q hq => ed.lstN o3 (hv.cut l u) hq⟩)
  | ref n =>
    obtain ⟨p, hp, rfl⟩ := k1
    unfold cutP at g1
    dsimp only at g1
    cases q' : S3[n]? with
    | none => rw [q'] at g1; cases g1
    | some o =>
      rw [q'] at g1
      have ho := o3.ob n o p q' hp
      cases o with
      | lst xs =>
        cases g1
        obtain ⟨vs, h1, hv⟩ := ho
        exact .inl (.inr ⟨p, vs, rfl, .of h1, fun q hq => ed.lstN o3 (hv.cut l u) hq⟩)
      | _ => cases g1
  | _ => cases g1
end
end Q

namespace Q
open PySem PySem.Spec PyProof.Rows L2
variable [Gh : Ghost]
/-! ### statements -/
abbrev MS := En → Store → SRes
def DnS (K : PySem.W.Frag) (r : List Addr) (H : Hp) (m : SRes) (D : Ends) (W : WX) : Prop := match m with
  | .nx e S' => ∀ (r' : List Addr) (H' : Hp) (σ' : L2.St), Stp r H r' H' → ROk K r' H' S' → ER K r' H' e σ' → D.nx σ' H'
  | .rt d S' => ∀ (r' : List Addr) (H' : Hp) (v : V), Stp r H r' H' → ROk K r' H' S' → VR K r' H' d v → D.rt v H'
  | .bk e S' => ∀ (r' : List Addr) (H' : Hp) (σ' : L2.St), Stp r H r' H' → ROk K r' H' S' → ER K r' H' e σ' → D.bk σ' H'
  | .ct e S' => ∀ (r' : List Addr) (H' : Hp) (σ' : L2.St), Stp r H r' H' → ROk K r' H' S' → ER K r' H' e σ' → D.ct σ' H'
  | .err C n e S' => ∀ (r' : List Addr) (H' : Hp) (σ' : L2.St) (x : Option Addr), Stp r H r' H' → ROk K r' H' S' → ER K r' H' e σ' → NR r' n x → W (.ref C) x σ' H'
  | .bad => False
structure SndS (X : Cx) (st : Stmt) (m : MS) : Prop where
  run : ∀ (W : WX), Takes X W → ∀ (en : En) (σ : L2.St) (r : List Addr) (H : Hp) (S : Store) (D : Ends), ER X.K r H en σ → ROk X.K r H S → DnS X.K r H (m en S) D W → wS X st D σ H
structure SndSs (X : Cx) (st : List Stmt) (m : MS) : Prop where
  run : ∀ (W : WX), Takes X W → ∀ (en : En) (σ : L2.St) (r : List Addr) (H : Hp) (S : Store) (D : Ends), ER X.K r H en σ → ROk X.K r H S → DnS X.K r H (m en S) D W → wSs X st D σ H
section
variable {K : PySem.W.Frag} {r r1 : List Addr} {H H1 : Hp} {α β : Type} {R : List Addr → Hp → α → β → Prop} {m : Res α} {f : α → Store → SRes} {D : Ends} {W : WX} {en : En} {σ : L2.St}
theorem DnS.mono {m : SRes} (s : Stp r H r1 H1) (h : DnS K r H m D W) : DnS K r1 H1 m D W := by
  cases m with
  | nx e S => exact fun r' H' v s' o k => h r' H' v (s.trans s') o k
  | rt e S => exact fun r' H' v s' o k => h r' H' v (s.trans s') o k
  | bk e S => exact fun r' H' v s' o k => h r' H' v (s.trans s') o k
  | ct e S => exact fun r' H' v s' o k => h r' H' v (s.trans s') o k
  | err C n e S => exact fun r' H' σ' x s' o k q => h r' H' σ' x (s.trans s') o k q
  | bad => exact h
/-- an expression ahead of the rest of a statement -/
theorem DnS.stm (er : ER K r H en σ) (h : DnS K r H (m.stm en f) D W) : Dn K r H R m (fun v H1 => ∃ a S1 r1, m = .ok a S1 ∧ Stp r H r1 H1 ∧ ROk K r1 H1 S1 ∧ R r1 H1 a v ∧ ER K r1 H1 en σ ∧ DnS K r1 H1 (f a S1) D W) (WE W σ) := by
  cases m with
  | ok a S => exact fun r' H' v s o k => ⟨a, S, r', rfl, s, o, k, er.mono s, DnS.mono s h⟩
  | err C n S => exact fun r' H' x s' o k => h r' H' σ x s' o (er.mono s') k
  | bad => exact h
theorem DnS.nx_here {e : En} {S : Store} (h : DnS K r H (.nx e S) D W) (o : ROk K r H S) (er : ER K r H e σ) : D.nx σ H := h r H σ (Stp.refl _ _) o er
theorem DnS.rt_here {d : Q.D} {v : V} {S : Store} (h : DnS K r H (.rt d S) D W) (o : ROk K r H S) (k : VR K r H d v) : D.rt v H := h r H v (Stp.refl _ _) o k
end
theorem wS_of {X : Cx} {e : Stmt} {t : TS} (h : PS X e t) {σ : L2.St} {H : Hp} {D : Ends} (q : t D σ H) : wS X e D σ H := fun pins s I => h.run pins s σ H D I q
theorem wSs_of {X : Cx} {e : List Stmt} {t : TS} (h : PSs X e t) {σ : L2.St} {H : Hp} {D : Ends} (q : t D σ H) : wSs X e D σ H := fun pins s I => h.run pins s σ H D I q
def SRes.seq (m : SRes) (f : MS) : SRes := match m with
  | .nx e S => f e S
  | q => q
section
variable {X : Cx} {k : Nat} {st : Stmt} {rest : List Stmt} {ms mr mu : MS} {a b c : Expr} {ma mb : ME} {mt : MT} {pos : Pos}
def mSkip : MS := fun en S => .nx en S
def mSeq (ms mr : MS) : MS := fun en S => (ms en S).seq mr
theorem s_nil : SndSs X [] mSkip := .mk fun W tk en σ r H S D er ro dn => wSs_of pss_nil (dn.nx_here ro er)
theorem s_one (h : SndS X st ms) : SndSs X [st] ms := .mk fun W tk en σ r H S D er ro dn => wSs_of (pss_one (ps_wS X st)) (h.run W tk en σ r H S D er ro dn)
theorem s_cons (h : SndS X st ms) (hr : SndSs X rest mr) : SndSs X (st :: rest) (mSeq ms mr) := by
  refine ⟨?_⟩
  intro W tk en σ r H S D er ro dn
  refine wSs_of (pss_cons (ps_wS X st) (pss_wSs X rest)) ?_
  refine h.run W tk en σ r H S { D with nx := wSs X rest D } er ro ?_
  have dn : DnS X.K r H ((ms en S).seq mr) D W := dn
  cases q : ms en S with
  | nx e S1 =>
    rw [q] at dn
    exact fun r' H' σ' s o e' => hr.run W tk e σ' r' H' S1 D e' o (DnS.mono s dn)
  | rt _ _ => rw [q] at dn; exact dn
  | bk _ _ => rw [q] at dn; exact dn
  | ct _ _ => rw [q] at dn; exact dn
  | err _ _ _ _ => rw [q] at dn; exact dn
  | bad => rw [q] at dn; exact dn
def mExpr (m : ME) : MS := fun en S => (m en S).stm en fun _ S1 => .nx en S1
theorem s_expr (ha : SndE X a ma) (hs : swapsWith a none pos.line X.env = pure false := by rfl) : SndS X (.Expr a pos) (mExpr ma) := by
  refine ⟨?_⟩
  intro W tk en σ r H S D er ro dn
  refine wS_of (ps_expr (pe_wE X a) hs) ?_
  exact ha.run W tk en σ r H S _ er ro (Dn.imp (DnS.stm (R := VR X.K) er dn) fun x H1 ⟨d, S1, r1, e1, s1, o1, k1, er1, d1⟩ => d1.nx_here o1 er1)
def mRet (m : ME) : MS := fun en S => (m en S).stm en fun d S1 => .rt d S1
theorem s_ret (ha : SndE X a ma) : SndS X (.Return (some a) pos) (mRet ma) := by
  refine ⟨?_⟩
  intro W tk en σ r H S D er ro dn
  refine wS_of (ps_ret (pe_wE X a)) ?_
  exact ha.run W tk en σ r H S _ er ro (Dn.imp (DnS.stm (R := VR X.K) er dn) fun x H1 ⟨d, S1, r1, e1, s1, o1, k1, er1, d1⟩ => d1.rt_here o1 k1)
def mIfS (mt : MT) (ms mu : MS) : MS := fun en S => (mt en S).stm en fun b S1 => match b with
  | true => ms en S1
  | false => mu en S1
theorem s_if {as bs : List Stmt} (hc : SndT X c mt) (ha : SndSs X as ms) (hb : SndSs X bs mu) : SndS X (.If c as bs pos) (mIfS mt ms mu) := by
  refine ⟨?_⟩
  intro W tk en σ r H S D er ro dn
  refine wS_of (ps_if (pt_wT X c) (pss_wSs X as) (pss_wSs X bs)) ?_
  refine hc.run W tk en σ r H S _ er ro (Dn.imp (DnS.stm (R := RT) er dn) fun x H1 ⟨d, S1, r1, e1, s1, o1, k1, er1, d1⟩ => ?_)
  have k1 : x = d := k1
  subst k1
  cases x with
  | true => exact ha.run W tk en σ r1 H1 S1 D er1 o1 d1
  | false => exact hb.run W tk en σ r1 H1 S1 D er1 o1 d1
/-! ### targets -/
abbrev Pat := D → Store → Option (List (Nat × D))
def setsE (e : En) : List (Nat × D) → En
  | [] => e
  | (i, d) :: l => setsE (e.set i (some d)) l
def setsV (σ : L2.St) : List (Nat × V) → L2.St
  | [] => σ
  | (i, d) :: l => setsV (σ.set i (some d)) l
def PR (K : PySem.W.Frag) (r : List Addr) (H : Hp) : List (Nat × D) → List (Nat × V) → Prop
  | [], vs => vs = []
  | p :: ds, vs => ∃ v ws, vs = (p.1, v) :: ws ∧ VR K r H p.2 v ∧ PR K r H ds ws
theorem PR.sets {K : PySem.W.Frag} {r : List Addr} {H : Hp} : ∀ {ps : List (Nat × D)} {vs : List (Nat × V)} {e : En} {σ : L2.St}, PR K r H ps vs → ER K r H e σ → ER K r H (setsE e ps) (setsV σ vs)
  | [], vs, e, σ, h, er => by have h : vs = [] := h; subst h; exact er
  | p :: ps, vs, e, σ, h, er => by
    obtain ⟨v, ws, rfl, h1, h2⟩ := h
    have q := PR.sets h2 (er.set (i := p.1) h1)
    exact q
theorem PR.append {K : PySem.W.Frag} {r : List Addr} {H : Hp} : ∀ {ps qs : List (Nat × D)} {vs ws : List (Nat × V)}, PR K r H ps vs → PR K r H qs ws → PR K r H (ps ++ qs) (vs ++ ws)
  | [], _, vs, _, h, h' => by have h : vs = [] := h; subst h; exact h'
  | p :: ps, _, vs, _, h, h' => by
    obtain ⟨v, ws, rfl, h1, h2⟩ := h
    exact ⟨v, _, rfl, h1, PR.append h2 h'⟩
theorem setsV_append (σ : L2.St) : ∀ (ps qs : List (Nat × V)), setsV σ (ps ++ qs) = setsV (setsV σ ps) qs
  | [], _ => rfl
  | (i, d) :: l, qs => setsV_append (σ.set i (some d)) l qs
def wG (X : Cx) (tg : Expr) : TG := fun v σ H Q => ∀ (pins : List (Addr × Obj)) (s : Shared) (u : Value), Inv X pins σ H s → RelV v u → wpAny (model X.prog X.w) X.A (assign tg X.env u) (fun _ s' => ∃ σ' H', Inv X pins σ' H' s' ∧ Q σ' H') X.xe s
theorem pg_wG (X : Cx) (tg : Expr) : PG X tg (wG X tg) := ⟨fun pins s _ _ _ u _ I rv h => h pins s u I rv⟩
def wGs (X : Cx) (ts : List Expr) : TGs := fun vs σ H Q => ∀ (pins : List (Addr × Obj)) (s : Shared) (us : List Value), Inv X pins σ H s → Vals vs us → wpAny (model X.prog X.w) X.A (assignInOrder ((assignEach ts X.env).map (·.2)) us) (fun _ s' => ∃ σ' H', Inv X pins σ' H' s' ∧ Q σ' H') X.xe s
theorem pgs_wGs (X : Cx) (ts : List Expr) : PGs X ts (wGs X ts) := ⟨fun pins s _ _ _ us _ I rv h => h pins s us I rv⟩
/-- a target of names and tuples of names; own: the slots that it may store -/
structure SndG (X : Cx) (tg : Expr) (own : List Nat) (g : Pat) : Prop where
  run : ∀ (d : D) (v : V) (ps : List (Nat × D)) (σ : L2.St) (r : List Addr) (H : Hp) (S : Store) (Q : L2.St → Hp → Prop), g d S = some ps → VR X.K r H d v → ROk X.K r H S →
  (∀ vs, PR X.K r H ps vs → (∀ p ∈ vs, p.1 ∈ own) → Q (setsV σ vs) H) → wG X tg v σ H Q
abbrev Pats := List D → Store → Option (List (Nat × D))
structure SndGs (X : Cx) (ts : List Expr) (own : List Nat) (g : Pats) : Prop where
  run : ∀ (ds : List D) (vs : List V) (ps : List (Nat × D)) (σ : L2.St) (r : List Addr) (H : Hp) (S : Store) (Q : L2.St → Hp → Prop), g ds S = some ps → VRs X.K r H ds vs → ROk X.K r H S →
  (∀ vs, PR X.K r H ps vs → (∀ p ∈ vs, p.1 ∈ own) → Q (setsV σ vs) H) → wGs X ts vs σ H Q
def pName (i : Nat) : Pat := fun d _ => some [(i, d)]
theorem g_name {i : Nat} {x : Str} {own : List Nat} (hN : X.N.Nodup) (hi : X.N[i]? = some x) (hx : Loc X.env.scope x) (ho : i ∈ own := by simp) (hf : X.fn x = true ∨ X.env.scope.names.lookup x = some .local := by first | exact .inl rfl | exact .inr rfl | assumption) : SndG X (.Name x pos) own (pName i) := by
  refine ⟨?_⟩
  intro d v ps σ r H S Q q k ro hQ pins s u I rv
  cases q
  exact (pg_name hN hi hx hf).run pins s σ H v u Q I rv (hQ [(i, v)] ⟨v, [], rfl, k, rfl⟩ (fun p hp => by rw [List.mem_singleton.mp hp]; exact ho))
def pNil : Pats := fun ds _ => match ds with
  | [] => some []
  | _ => none
def pCons (g : Pat) (gs : Pats) : Pats := fun ds S => match ds with
  | [] => none
  | d :: ds => (g d S).bind fun ps => (gs ds S).map fun qs => ps ++ qs
theorem gs_nil {own : List Nat} : SndGs X [] own pNil := by
  refine ⟨?_⟩
  intro ds vs ps σ r H S Q q k ro hQ pins s us I rv
  cases ds with
  | nil =>
    cases q
    have k : vs = [] := k
    subst k
    exact pgs_nil.run pins s σ H [] us Q I rv ⟨rfl, hQ [] rfl (fun _ h => nomatch h)⟩
  | cons _ _ => cases q
theorem gs_cons {e : Expr} {es : List Expr} {own : List Nat} {g : Pat} {gs : Pats} (h1 : SndG X e own g) (h2 : SndGs X es own gs)
    (hs : (assignEach (e :: es) X.env).map (·.2) = assign e X.env :: (assignEach es X.env).map (·.2) := by rfl) : SndGs X (e :: es) own (pCons g gs) := by
  refine ⟨?_⟩
  intro ds vs ps σ r H S Q q k ro hQ pins s us I rv
  cases ds with
  | nil => cases q
  | cons d ds =>
    obtain ⟨v, ws, rfl, k1, k2⟩ := k
    obtain ⟨p1, e1, q⟩ := Option.bind_eq_some_iff.mp q
    obtain ⟨p2, e2, q⟩ := Option.map_eq_some_iff.mp q
    subst q
    refine (pgs_cons (pg_wG X e) (pgs_wGs X es) hs).run pins s σ H (v :: ws) us Q I rv ⟨v, ws, rfl, ?_⟩
    refine h1.run d v p1 σ r H S _ e1 k1 ro fun w1 r1 o1 => ?_
    refine h2.run ds ws p2 _ r H S _ e2 k2 ro fun w2 r2 o2 => ?_
    rw [← setsV_append]
    exact hQ _ (r1.append r2) fun p hp => (List.mem_append.mp hp).elim (o1 p) (o2 p)
def pTup (n : Nat) (gs : Pats) : Pat := fun d S => match d with
  | .tup xs => if xs.length = n then gs xs S else none
  | _ => none
theorem g_tup {es : List Expr} {kk n : Nat} {own : List Nat} {gs : Pats} (hc : X.calm = true) (h : SndGs X es own gs) (hn : (assignEach es X.env).length = n := by rfl) (hst : (assignEach es X.env).findIdx? (·.1) = none := by rfl) :
    SndG X (.Tuple es kk pos) own (pTup n gs) := by
  refine ⟨?_⟩
  intro d v ps σ r H S Q q k ro hQ pins s u I rv
  cases d with
  | tup xs =>
    obtain ⟨a, vs, rfl, ha, hv⟩ := k
    unfold pTup at q
    dsimp only at q
    split at q
    · rename_i hl
      refine (pg_tup hc (pgs_wGs X es) hn hst).run pins s σ H _ u Q I rv ⟨a, vs, rfl, (sqT_of ha), by rw [← hv.length]; exact hl, ?_⟩
      exact h.run xs vs ps σ r H S Q q hv ro hQ
    · cases q
  | _ => cases q
def mAsgP (o : Option (List (Nat × D))) (en : En) (S : Store) : SRes := match o with
  | some ps => .nx (setsE en ps) S
  | none => .bad
/-- target = value -/
def mAsg (g : Pat) (m : ME) : MS := fun en S => (m en S).stm en fun d S1 => mAsgP (g d S1) en S1
theorem s_asg {tg : Expr} {own : List Nat} {g : Pat} (ha : SndE X a ma) (hg : SndG X tg own g) (hs : swapsWithSole [tg] a pos.line X.env = pure false := by rfl) (hw : swappedStores [tg] a X.env = pure none := by rfl)
    (h1 : (assignEach [tg] X.env).map (·.2) = [assign tg X.env] := by rfl) : SndS X (.Assign [tg] a pos) (mAsg g ma) := by
  refine ⟨?_⟩
  intro W tk en σ r H S D er ro dn
  refine wS_of (ps_asg (pe_wE X a) (pg_wG X tg) hs hw h1) ?_
  refine ha.run W tk en σ r H S _ er ro (Dn.imp (DnS.stm (R := VR X.K) er dn) fun x H1 ⟨d, S1, r1, e1, s1, o1, k1, er1, d1⟩ => ?_)
  cases q : g d S1 with
  | none => rw [q] at d1; exact d1.elim
  | some ps =>
    rw [q] at d1
    exact hg.run d x ps σ r1 H1 S1 D.nx q k1 o1 fun vs hp _ => DnS.nx_here (e := setsE en ps) d1 o1 (hp.sets er1)
def mSet (i : Nat) (m : ME) : MS := fun en S => (m en S).stm en fun d S1 => .nx (en.set i (some d)) S1
theorem s_set {i : Nat} {x : Str} {pos' : Pos} (hN : X.N.Nodup) (hi : X.N[i]? = some x) (hx : Loc X.env.scope x) (ha : SndE X a ma) (hs : swapsWith a (some (.Name x pos')) pos.line X.env = pure false := by rfl) (hf : X.fn x = true ∨ X.env.scope.names.lookup x = some .local := by first | exact .inl rfl | exact .inr rfl | assumption) :
    SndS X (.Assign [.Name x pos'] a pos) (mSet i ma) := by
  refine ⟨?_⟩
  intro W tk en σ r H S D er ro dn
  refine wS_of (ps_set hN hi hx (pe_wE X a) hs hf) ?_
  exact ha.run W tk en σ r H S _ er ro (Dn.imp (DnS.stm (R := VR X.K) er dn) fun x H1 ⟨d, S1, r1, e1, s1, o1, k1, er1, d1⟩ => DnS.nx_here (e := en.set i (some d)) d1 o1 (er1.set k1))
/-- a, b = x, y with two plain local names -/
def mPar (i j : Nat) (m : MA) : MS := fun en S => (m en S).stm en fun ds S1 => match ds with
  | [d, e] => .nx ((en.set i (some d)).set j (some e)) S1
  | _ => .bad
/-! ### while -/
/-! ### what is walked -/
inductive MI where
  | lst (n : Nat) | vals (xs : List D) | rng (lo : Int) (n : Nat) | zip2 (a b : MI) | zip3 (a b c : MI) | enu (c : Int) (a : MI)
/-- the item at the turn i: bad, the end, an item -/
def nextM (mi : MI) (i : Nat) (S : Store) : Option (Option D) := match mi with
  | .lst n => match S[n]? with
    | some (.lst xs) => some xs[i]?
    | _ => none
  | .vals xs => some xs[i]?
  | .rng lo n => some (if i < n then some (.int (lo + i)) else none)
  | .zip2 a b => (nextM a i S).bind fun od => match od with
    | none => some none
    | some d => (nextM b i S).map fun oe => oe.map fun e => .tup [d, e]
  | .zip3 a b c => (nextM a i S).bind fun od => match od with
    | none => some none
    | some d => (nextM b i S).bind fun oe => match oe with
      | none => some none
      | some e => (nextM c i S).map fun og => og.map fun g => .tup [d, e, g]
  | .enu c a => (nextM a i S).map fun od => od.map fun d => .tup [.int (c + (i : Nat)), d]
/-- the iterator J of HandS is told by mi -/
def WkR (K : PySem.W.Frag) (r : List Addr) (H : Hp) (mi : MI) (J : It) : Prop := ∀ (r' : List Addr) (H' : Hp) (S : Store) (i : Nat), Stp r H r' H' → ROk K r' H' S →
  (nextM mi i S = some none → J.stop i H') ∧ (∀ d, nextM mi i S = some (some d) → J.go i H' ∧ ∀ x H2, J.yld i H' x H2 → Stp r' H' r' H2 ∧ ROk K r' H2 S ∧ VR K r' H2 d x)
theorem WkR.mono {K : PySem.W.Frag} {r r1 : List Addr} {H H1 : Hp} {mi : MI} {J : It} (s : Stp r H r1 H1) (h : WkR K r H mi J) : WkR K r1 H1 mi J := fun r' H' S i s' o => h r' H' S i (s.trans s') o
def wI (X : Cx) (tg e : Expr) : TI := fun σ H R => ∀ (pins : List (Addr × Obj)) (s : Shared), Inv X pins σ H s → wpAny (model X.prog X.w) X.A (eval e X.env) (fun v s1 => wpAny (model X.prog X.w) X.A (pyIter v) (PIE X pins σ tg R) X.xe s1) X.xe s
theorem pi_wI (X : Cx) (tg e : Expr) : PI X tg e (wI X tg e) := ⟨fun pins s _ _ _ I h => h pins s I⟩
abbrev MIt := En → Store → Res MI
structure SndI (X : Cx) (tg e : Expr) (m : MIt) : Prop where
  run : ∀ (W : WX), Takes X W → ∀ (en : En) (σ : L2.St) (r : List Addr) (H : Hp) (S : Store) (R : It → Hp → Prop), ER X.K r H en σ → ROk X.K r H S → Dn X.K r H (WkR X.K) (m en S) R (WE W σ) → wI X tg e σ H R
theorem wI_of {X : Cx} {tg e : Expr} {t : TI} (h : PI X tg e t) {σ : L2.St} {H : Hp} {R : It → Hp → Prop} (q : t σ H R) : wI X tg e σ H R := fun pins s I => h.run pins s σ H R I q
end
end Q

namespace Q
open PySem PySem.Spec PyProof.Rows L2
variable [Gh : Ghost]
section
variable {X : Cx} {k : Nat} {st : Stmt} {rest : List Stmt} {ms mr mu : MS} {a b c e : Expr} {ma mb me : ME} {mt : MT} {pos : Pos} {tg iter : Expr} {mi : MIt} {g : Pat} {own : List Nat}
/-! ### simple iterables -/
def itD (d : D) (S : Store) : Option MI := match d with
  | .tup xs => some (.vals xs)
  | .kl xs => some (.vals xs)
  | .ref n => match S[n]? with
    | some (.lst _) => some (.lst n)
    | _ => none
  | _ => none
/-- for .. in a list or a tuple -/
def iSeq (m : ME) : MIt := fun en S => (m en S).bind fun d S1 => match itD d S1 with
  | some i => .ok i S1
  | none => .bad
theorem wk_tup {r : List Addr} {H : Hp} {p : Addr} {xs : List D} {vs : List V} (hs : SqT X.K H p vs) (hv : VRs X.K r H xs vs) : WkR X.K r H (.vals xs) (Itt X.K p) := by
  intro r' H' S i s o
  have hs := s.sqT hs
  have hv := hv.mono s
  refine ⟨fun e => ⟨vs, hs, ?_⟩, fun d e => ?_⟩
  · have e : xs[i]? = none := Option.some.inj e
    rw [← hv.length]
    exact List.getElem?_eq_none_iff.mp e
  · have e : xs[i]? = some d := Option.some.inj e
    obtain ⟨v, h1, h2⟩ := hv.get e
    refine ⟨⟨vs, v, hs, h1⟩, fun x H2 y => ?_⟩
    obtain ⟨rfl, h3⟩ := y
    have := h3 vs hs
    rw [h1] at this
    cases this
    exact ⟨Stp.refl _ _, o, h2⟩
theorem wk_kl {r : List Addr} {H : Hp} {p : Addr} {xs : List D} {vs : List V} (hs : SqF X.K H p vs) (hv : VRs X.K r H xs vs) : WkR X.K r H (.vals xs) (Itl X.K p) := by
  intro r' H' S i s o
  have hs := (s.sqF hs).l
  have hv := hv.mono s
  refine ⟨fun e => ⟨vs, hs, ?_⟩, fun d e => ?_⟩
  · have e : xs[i]? = none := Option.some.inj e
    rw [← hv.length]
    exact List.getElem?_eq_none_iff.mp e
  · have e : xs[i]? = some d := Option.some.inj e
    obtain ⟨v, h1, h2⟩ := hv.get e
    refine ⟨⟨vs, v, hs, h1⟩, fun x H2 y => ?_⟩
    obtain ⟨rfl, h3⟩ := y
    have := h3 vs hs
    rw [h1] at this
    cases this
    exact ⟨Stp.refl _ _, o, h2⟩
theorem wk_lst {r : List Addr} {H : Hp} {p : Addr} {n : Nat} (hp : r[n]? = some p) : WkR X.K r H (.lst n) (Itl X.K p) := by
  intro r' H' S i s o
  have hp := s.pre _ _ hp
  have key : ∀ (xs : List D) (vs : List V), SqL X.K H' p vs → VRs X.K r' H' xs vs → nextM (.lst n) i S = some xs[i]? → (nextM (.lst n) i S = some none → (Itl X.K p).stop i H') ∧ (∀ d, nextM (.lst n) i S = some (some d) → (Itl X.K p).go i H' ∧ ∀ x H2, (Itl X.K p).yld i H' x H2 → Stp r' H' r' H2 ∧ ROk X.K r' H2 S ∧ VR X.K r' H2 d x) := by
    intro xs vs hs hv en
    refine ⟨fun e => ⟨vs, hs, ?_⟩, fun d e => ?_⟩
    · have e : xs[i]? = none := Option.some.inj (en.symm.trans e)
      rw [← hv.length]
      exact List.getElem?_eq_none_iff.mp e
    · have e : xs[i]? = some d := Option.some.inj (en.symm.trans e)
      obtain ⟨v, h1, h2⟩ := hv.get e
      refine ⟨⟨vs, v, hs, h1⟩, fun x H2 y => ?_⟩
      obtain ⟨rfl, h3⟩ := y
      have := h3 vs hs
      rw [h1] at this
      cases this
      exact ⟨Stp.refl _ _, o, h2⟩
  cases q : S[n]? with
  | none =>
    have e : nextM (.lst n) i S = none := by unfold nextM; rw [q]
    rw [e]
    exact ⟨fun z => (nomatch z), fun _ z => (nomatch z)⟩
  | some ob =>
    have ho := o.ob n ob p q hp
    cases ob with
    | lst xs => obtain ⟨vs, h1, h2⟩ := ho; exact key xs vs (.of h1) h2 (by unfold nextM; rw [q])
    | _ =>
      have e : nextM (.lst n) i S = none := by unfold nextM; rw [q]
      rw [e]
      exact ⟨fun z => (nomatch z), fun _ z => (nomatch z)⟩
theorem PIE.of {pins : List (Addr × Obj)} {σ : L2.St} {H : Hp} {s : Shared} {R : It → Hp → Prop} {v : Value} {x : V} (I : Inv X pins σ H s) (rv : RelV x v) (h : (∃ a, x = .ref a ∧ (∃ xs, SqL X.K H a xs) ∧ R (Itl X.K a) H) ∨ (∃ a, x = .ref a ∧ (∃ xs, SqT X.K H a xs) ∧ R (Itt X.K a) H)) :
    wpAny (model X.prog X.w) X.A (pyIter v) (PIE X pins σ tg R) X.xe s := by
  rcases h with ⟨a, e, ⟨xs, hq⟩, q⟩ | ⟨a, e, ⟨xs, hq⟩, q⟩
  · subst e
    cases rv
    obtain ⟨its, rv, p, hz⟩ := I.list hq
    refine wpAny_pyIter_list p.isList ?_
    refine ⟨s.heap.objs.size, [s.heap.objs.size], _, _, H, rfl, I.kept (t' := s.toks) fun b o e => Heap.get?_push_of_some _ e, turn_list a _, ⟨_, Heap.get?_push_size _ rfl, rfl, rfl⟩, fun b hb => ?_, q⟩
    have e : b = s.heap.objs.size := by simpa using hb
    subst e
    exact I.fpOk (Nat.le_refl _) (I.hok.fresh (Nat.le_refl _))
  · subst e
    cases rv
    obtain ⟨its, rv, p, hz⟩ := I.tuple hq
    refine wpAny_pyIter_tuple (show s.heap.IsTuple a its.toArray from p) ?_
    refine ⟨s.heap.objs.size, [s.heap.objs.size], _, _, H, rfl, I.kept (t' := s.toks) fun b o e => Heap.get?_push_of_some _ e, turn_tuple a _, ⟨_, Heap.get?_push_size _ rfl, rfl, rfl⟩, fun b hb => ?_, q⟩
    have e : b = s.heap.objs.size := by simpa using hb
    subst e
    exact I.fpOk (Nat.le_refl _) (I.hok.fresh (Nat.le_refl _))
theorem i_seq (ha : SndE X a ma) : SndI X tg a (iSeq ma) := by
  refine ⟨?_⟩
  intro W tk en σ r H S R er ro dn pins s I
  refine thn (ha.run W tk en σ r H S _ er ro (Dn.imp (Dn.bind dn) fun x H1 ⟨d, S1, r1, e1, s1, o1, k1, d1⟩ => (?_ : (∃ a, x = .ref a ∧ (∃ xs, SqL X.K H1 a xs) ∧ R (Itl X.K a) H1) ∨ (∃ a, x = .ref a ∧ (∃ xs, SqT X.K H1 a xs) ∧ R (Itt X.K a) H1))) pins s I) fun v s1 ⟨x, H1, I1, rv, q⟩ => PIE.of I1 rv q
  cases d with
  | tup xs =>
    obtain ⟨p, vs, rfl, hs, hv⟩ := k1
    exact .inr ⟨p, rfl, ⟨vs, (sqT_of hs)⟩, Dn.ok_here (R := WkR X.K) (a := .vals xs) d1 o1 (wk_tup (sqT_of hs) hv)⟩
  | kl xs =>
    obtain ⟨p, vs, rfl, hs, hv⟩ := k1
    exact .inl ⟨p, rfl, ⟨vs, hs.l⟩, Dn.ok_here (R := WkR X.K) (a := .vals xs) d1 o1 (wk_kl hs hv)⟩
  | ref n =>
    obtain ⟨p, hp, rfl⟩ := k1
    unfold itD at d1
    dsimp only at d1
    cases q : S1[n]? with
    | none => rw [q] at d1; exact d1.elim
    | some ob =>
      rw [q] at d1
      have ho := o1.ob n ob p q hp
      cases ob with
      | lst xs => obtain ⟨vs, h1, h2⟩ := ho; exact .inl ⟨p, rfl, ⟨vs, .of h1⟩, Dn.ok_here (R := WkR X.K) (a := .lst n) d1 o1 (wk_lst hp)⟩
      | _ => exact d1.elim
  | _ => exact d1.elim
@[irreducible] def smallI (i : Int) : Bool := decide (-(2 ^ 62) ≤ i) && decide (i < 2 ^ 62)
theorem smallI_ok {i : Int} (h : smallI i = true) : -(2 ^ 62) ≤ i ∧ i < 2 ^ 62 := by
  unfold smallI at h
  rw [Bool.and_eq_true] at h
  exact ⟨of_decide_eq_true h.1, of_decide_eq_true h.2⟩
def rng1 (ds : List D) : Option MI := match ds with
  | [.int j] => if smallI j = true then some (.rng 0 j.toNat) else none
  | _ => none
def rng2 (ds : List D) : Option MI := match ds with
  | [.int i, .int j] => if smallI i = true ∧ smallI j = true then some (.rng i (j - i).toNat) else none
  | _ => none
def iRng1M (m : MA) : MIt := fun en S => (m en S).bind fun ds S1 => match rng1 ds with
  | some i => .ok i S1
  | none => .bad
def iRng2M (m : MA) : MIt := fun en S => (m en S).bind fun ds S1 => match rng2 ds with
  | some i => .ok i S1
  | none => .bad
theorem wk_rng {r : List Addr} {H : Hp} {lo : Int} {n : Nat} : WkR X.K r H (.rng lo n) (Itr lo n) := by
  intro r' H' S i s o
  unfold nextM
  refine ⟨fun e => ?_, fun d e => ?_⟩
  · by_cases hi : i < n
    · simp only [hi, if_true] at e; cases e
    · exact Nat.le_of_not_lt hi
  · by_cases hi : i < n
    · simp only [hi, if_true] at e
      cases e
      refine ⟨hi, fun x H2 y => ?_⟩
      obtain ⟨rfl, rfl⟩ := y
      exact ⟨Stp.refl _ _, o, rfl⟩
    · simp only [hi, if_false] at e; cases e
theorem i_rng1 {p : Pos} {m : MA} (hg : Gl X "range") (hm : X.mg "range" = none) (ha : SndA X [a] m) (hs : starEach [a] X.env = [(false, eval a X.env)] := by rfl) : SndI X tg (.Call (.Name "range" p) [a] [] pos) (iRng1M m) := by
  refine ⟨?_⟩
  intro W tk en σ r H S R er ro dn
  refine wI_of (pi_range1 hg hm (pa_wA X _) hs) ?_
  refine ha.run W tk en σ r H S _ er ro (Dn.imp (Dn.bind dn) fun xs H1 ⟨ds, S1, r1, e1, s1, o1, k1, d1⟩ => ?_)
  cases q : rng1 ds with
  | none => rw [q] at d1; exact d1.elim
  | some i =>
    rw [q] at d1
    unfold rng1 at q
    split at q
    · rename_i j
      obtain ⟨v, rfl, kv⟩ := k1.one_inv
      split at q
      · rename_i hj
        cases q
        obtain ⟨h1, h2⟩ := smallI_ok hj
        exact ⟨j, by rw [show v = .int j from kv], h1, h2, Dn.ok_here (R := WkR X.K) (a := .rng 0 j.toNat) d1 o1 wk_rng⟩
      · cases q
    · cases q
/-! ### for -/
def forL (mi : MI) (g : Pat) (mb : MS) : Nat → Nat → En → Store → SRes
  | 0, _, _, _ => .bad
  | n + 1, i, en, S => match nextM mi i S with
    | none => .bad
    | some none => .nx en S
    | some (some d) => match g d S with
      | none => .bad
      | some ps => match mb (setsE en ps) S with
        | .nx e S2 => forL mi g mb n (i + 1) e S2
        | .ct e S2 => forL mi g mb n (i + 1) e S2
        | .bk e S2 => .nx e S2
        | .rt d S2 => .rt d S2
        | .err C x e S2 => .err C x e S2
        | .bad => .bad
def mFor (m : MIt) (g : Pat) (mb : MS) (n : Nat) : MS := fun en S => (m en S).stm en fun mi S1 => forL mi g mb n 0 en S1
theorem s_for {body : List Stmt} (n : Nat) (hp : PassesOwn (model X.prog X.w) X.A X.env X.xe) (hc : X.calm = true) (hi : SndI X tg iter mi) (hg : SndG X tg own g) (hb : SndSs X body ms) (hs : ∀ x, foldedSetIterable iter X.env x = pure x := by intro _; rfl) :
    SndS X (.For tg iter body [] pos) (mFor mi g ms n) := by
  refine ⟨?_⟩
  intro W tk en σ r H S D er ro dn
  refine wS_of (ps_for hp hc (pi_wI X tg iter) (pg_wG X tg) (pss_wSs X body) hs) ?_
  refine hi.run W tk en σ r H S _ er ro (Dn.imp (DnS.stm (R := WkR X.K) er dn) fun J H1 ⟨mi, S1, r1, e1, s1, o1, k1, er1, d1⟩ => ?_)
  refine ⟨fun i m σ H' => ∃ en r' S', ER X.K r' H' en σ ∧ ROk X.K r' H' S' ∧ WkR X.K r' H' mi J ∧ DnS X.K r' H' (forL mi g ms m i en S') D W, ⟨n, en, r1, S1, er1, o1, k1, d1⟩, ?_⟩
  rintro i m σ H2 ⟨en, r2, S2, er2, o2, k2, d2⟩
  cases m with
  | zero => exact d2.elim
  | succ m =>
    unfold forL at d2
    obtain ⟨w1, w2⟩ := k2 r2 H2 S2 i (Stp.refl _ _) o2
    cases q : nextM mi i S2 with
    | none => rw [q] at d2; exact d2.elim
    | some od =>
      cases od with
      | none => rw [q] at d2; exact .inl ⟨w1 q, DnS.nx_here (e := en) d2 o2 er2⟩
      | some d =>
        rw [q] at d2
        obtain ⟨hgo, hy⟩ := w2 d q
        dsimp only at d2
        cases qg : g d S2 with
        | none => rw [qg] at d2; exact d2.elim
        | some ps =>
          rw [qg] at d2
          dsimp only at d2
          refine .inr ⟨hgo, fun σ' H' => ∃ en r' S', ER X.K r' H' en σ' ∧ ROk X.K r' H' S' ∧ WkR X.K r' H' mi J ∧ DnS X.K r' H' (forL mi g ms m (i + 1) en S') D W, fun σ' H' h => ⟨m, Nat.lt_succ_self m, h⟩, fun x H3 y => ?_⟩
          obtain ⟨s3, o3, k3⟩ := hy x H3 y
          refine hg.run d x ps σ r2 H3 S2 _ qg k3 o3 fun vs hps _ => ?_
          refine hb.run W tk (setsE en ps) _ r2 H3 S2 _ (hps.sets (er2.mono s3)) o3 ?_
          have d2 := DnS.mono s3 d2
          have k2 := k2.mono s3
          cases qb : ms (setsE en ps) S2 with
          | nx e S4 => rw [qb] at d2; exact fun r' H' σ' s o e' => ⟨e, r', S4, e', o, k2.mono s, DnS.mono s d2⟩
          | ct e S4 => rw [qb] at d2; exact fun r' H' σ' s o e' => ⟨e, r', S4, e', o, k2.mono s, DnS.mono s d2⟩
          | bk e S4 => rw [qb] at d2; exact d2
          | rt d S4 => rw [qb] at d2; exact d2
          | err C x e S4 => rw [qb] at d2; exact d2
          | bad => rw [qb] at d2; exact d2.elim

/-! ### a list comprehension -/
def Res.calm {α : Type} (m : Res α) : Res α := match m with
  | .err _ _ _ => .bad
  | q => q
def compL (mi : MI) (g : Pat) (mt : MT) (me : ME) (n0 : Nat) : Nat → Nat → En → Store → Res D
  | 0, _, _, _ => .bad
  | n + 1, i, en, S => match nextM mi i S with
    | none => .bad
    | some none => .ok (.ref n0) S
    | some (some d) => match g d S with
      | none => .bad
      | some ps => (mt (setsE en ps) S).calm.bind fun b S1 => match b with
        | false => compL mi g mt me n0 n (i + 1) en S1
        | true => (me (setsE en ps) S1).calm.bind fun z S2 => match S2[n0]? with
          | some (.lst acc) => if acc.length < sizeLine then compL mi g mt me n0 n (i + 1) en (S2.set n0 (.lst (acc ++ [z]))) else .bad
          | _ => .bad
def wipeD (e : En) : List Nat → En
  | [] => e
  | v :: vs => (wipeD e vs).set v none
def mComp (m : MIt) (g : Pat) (mt : MT) (me : ME) (own : List Nat) (n : Nat) : ME := fun en S => (m en S).bind fun mi S1 => compL mi g mt me S1.length n 0 (wipeD en own) (S1 ++ [.lst []])
theorem ER.setNone {K : PySem.W.Frag} {r : List Addr} {H : Hp} {e : En} {σ : L2.St} (h : ER K r H e σ) (i : Nat) : ER K r H (e.set i none) (σ.set i none) :=
  ⟨by rw [List.length_set, List.length_set]; exact h.len, fun j d' q => by
    by_cases e' : j = i
    · subst e'
      by_cases hl : j < e.length
      · rw [List.getElem?_set_self hl] at q; cases q
      · rw [List.getElem?_eq_none (by rw [List.length_set]; omega)] at q; cases q
    · rw [List.getElem?_set_ne (Ne.symm e')] at q
      obtain ⟨v', h1, h2⟩ := h.at_ j d' q
      exact ⟨v', by rw [List.getElem?_set_ne (Ne.symm e')]; exact h1, h2⟩⟩
theorem ER.wipe {K : PySem.W.Frag} {r : List Addr} {H : Hp} {e : En} {σ : L2.St} (h : ER K r H e σ) : ∀ vs : List Nat, ER K r H (wipeD e vs) (wipe σ vs)
  | [] => h
  | v :: vs => (ER.wipe h vs).setNone v
theorem wipe_get (σ : L2.St) (i : Nat) : ∀ vs : List Nat, (wipe σ vs)[i]? = if i ∈ vs then (if i < σ.length then some none else none) else σ[i]?
  | [] => by simp [wipe]
  | v :: vs => by
    unfold wipe
    by_cases e : v = i
    · subst e
      rw [if_pos List.mem_cons_self]
      by_cases hl : v < σ.length
      · rw [if_pos hl, List.getElem?_set_self (by rw [wipe_length]; exact hl)]
      · rw [if_neg hl, List.getElem?_eq_none (by rw [List.length_set, wipe_length]; omega)]
    · rw [List.getElem?_set_ne e, wipe_get σ i vs]
      by_cases hm : i ∈ vs
      · rw [if_pos hm, if_pos (List.mem_cons_of_mem _ hm)]
      · rw [if_neg hm, if_neg (fun z => (List.mem_cons.mp z).elim (fun q => e q.symm) hm)]
theorem setsV_length : ∀ (ps : List (Nat × V)) (σ : L2.St), (setsV σ ps).length = σ.length
  | [], _ => rfl
  | (i, d) :: l, σ => by
    show (setsV (σ.set i (some d)) l).length = _
    rw [setsV_length l, List.length_set]
theorem setsV_get {vs : List Nat} {i : Nat} (hi : i ∉ vs) : ∀ (ps : List (Nat × V)) (σ : L2.St), (∀ p ∈ ps, p.1 ∈ vs) → (setsV σ ps)[i]? = σ[i]?
  | [], _, _ => rfl
  | (j, d) :: l, σ, h => by
    show (setsV (σ.set j (some d)) l)[i]? = _
    rw [setsV_get hi l _ fun p hp => h p (List.mem_cons_of_mem _ hp), List.getElem?_set_ne]
    intro e
    subst e
    exact hi (h (j, d) List.mem_cons_self)
theorem wipe_sets (σ : L2.St) (vs : List Nat) (ps : List (Nat × V)) (h : ∀ p ∈ ps, p.1 ∈ vs) : wipe (setsV (wipe σ vs) ps) vs = wipe σ vs := by
  apply List.ext_getElem?
  intro i
  rw [wipe_get]
  by_cases hm : i ∈ vs
  · rw [if_pos hm, setsV_length, wipe_length, wipe_get, if_pos hm]
  · rw [if_neg hm, setsV_get hm ps _ h]
theorem Dn.calm {K : PySem.W.Frag} {r : List Addr} {H : Hp} {α β : Type} {R : List Addr → Hp → α → β → Prop} {m : Res α} {Q : β → Hp → Prop} {W W' : XK} (h : Dn K r H R m.calm Q W) : Dn K r H R m Q W' := by
  cases m with
  | ok a S => exact h
  | err C n S => exact h.elim
  | bad => exact h
theorem takes_blk {s : Shared} {H : Hp} {scope : Scope} {cenv : Env} {fp : List Addr} : Takes (X.blk s H scope cenv fp) (fun _ _ _ _ => False) := fun u s' ⟨_, _, _, _, _, _, _, _, _, _, _, _, _, _, _, _, w⟩ => w.elim
abbrev InBlk (X : Cx) (scope : Scope) (Pr : Cx → Prop) : Prop := ∀ (s : Shared) (H : Hp) (C : Addr) (cl : List (Str × Addr)) (fp : List Addr), Pr (X.blk s H scope (compEnvC scope cl C X.env) fp)
/-- the tests of a clause -/
structure SndF (X : Cx) (ifs : List Expr) (m : MT) : Prop where
  run : ∀ (W : WX), Takes X W → ∀ (en : En) (σ : L2.St) (r : List Addr) (H : Hp) (S : Store) (Q : Bool → Hp → Prop), ER X.K r H en σ → ROk X.K r H S → Dn X.K r H RT (m en S) Q (WE W σ) →
  ∀ (pins : List (Addr × Obj)) (s : Shared), Inv X pins σ H s → wpAny (model X.prog X.w) X.A (forIn ifs true fun c r => if r = true then do let ok ← isTrue c X.env (eval c X.env); pure (ForInStep.yield ok) else pure (ForInStep.yield r)) (TP X pins σ Q) X.xe s
def wF (X : Cx) (ifs : List Expr) : TT := fun σ H Q => ∀ (pins : List (Addr × Obj)) (s : Shared), Inv X pins σ H s → wpAny (model X.prog X.w) X.A (forIn ifs true fun c r => if r = true then do let ok ← isTrue c X.env (eval c X.env); pure (ForInStep.yield ok) else pure (ForInStep.yield r)) (TP X pins σ Q) X.xe s
def mYes : MT := fun _ S => .ok true S
theorem f_nil : SndF X [] mYes := .mk fun W tk en σ r H S Q er ro dn pins s I => pts_nil.run pins s σ H Q I (Dn.ok_here (R := RT) (a := true) (v := true) dn ro rfl)
theorem tLc_of {wi : TI} {gg : TG} {tt : TT} {te : TE} {own : List Nat} {mi : MI} {J : It} {en : En} {σ : L2.St} {r : List Addr} {H : Hp} {S : Store} {Q : VK} {W : WX} {n : Nat} (er : ER X.K r H en σ) (o1 : ROk X.K r H S) (k1 : WkR X.K r H mi J)
    (hg : ∀ (d : D) (v : V) (ps : List (Nat × D)) (σ : L2.St) (r : List Addr) (H : Hp) (S : Store) (Q : L2.St → Hp → Prop), g d S = some ps → VR X.K r H d v → ROk X.K r H S → (∀ vs, PR X.K r H ps vs → (∀ p ∈ vs, p.1 ∈ own) → Q (setsV σ vs) H) → gg v σ H Q)
    (ht : ∀ (en : En) (σ : L2.St) (r : List Addr) (H : Hp) (S : Store) (Q : Bool → Hp → Prop), ER X.K r H en σ → ROk X.K r H S → Dn X.K r H RT (mt en S) Q (fun _ _ _ => False) → tt σ H Q)
    (he : ∀ (en : En) (σ : L2.St) (r : List Addr) (H : Hp) (S : Store) (Q : VK), ER X.K r H en σ → ROk X.K r H S → Dn X.K r H (VR X.K) (me en S) Q (fun _ _ _ => False) → te σ H Q)
    (dn : Dn X.K r H (VR X.K) (compL mi g mt me S.length n 0 (wipeD en own) (S ++ [.lst []])) Q (WE W σ)) :
    ∀ D, H D = none → ∃ Wp : Nat → Nat → Hp → Prop, (∃ m, Wp 0 m (upd H D (.lst []))) ∧ ∀ i m H, Wp i m H →
      (J.stop i H ∧ Q (.ref D) H) ∨ (J.go i H ∧ ∃ Nx : Hp → Prop, (∀ H', Nx H' → ∃ m', m' < m ∧ Wp (i + 1) m' H') ∧ ∀ x H', J.yld i H x H' → gg x (wipe σ own) H' fun σ2 H2 => wipe σ2 own = wipe σ own ∧ tt σ2 H2 fun b H3 =>
        if b = true then te σ2 H3 fun y H4 => ∃ acc, H4 D = some (.lst acc) ∧ acc.length < sizeLine ∧ Nx (upd H4 D (.lst (acc ++ [y]))) else Nx H3) := by
  intro Dd hD
  obtain ⟨n1, n2, n3⟩ := new_lst (X := X) (ds := []) (vs := []) o1 rfl hD
  have n3 : (r ++ [Dd])[S.length]? = some Dd := by obtain ⟨a, h1, h2⟩ := n3; cases h2; exact h1
  refine ⟨fun i m H' => ∃ r' S', ER X.K r' H' (wipeD en own) (wipe σ own) ∧ ROk X.K r' H' S' ∧ WkR X.K r' H' mi J ∧ r'[S.length]? = some Dd ∧ Dn X.K r' H' (VR X.K) (compL mi g mt me S.length m i (wipeD en own) S') Q (WE W σ), ⟨n, r ++ [Dd], S ++ [.lst []], (er.mono n1).wipe own, n2, k1.mono n1, n3, Dn.mono n1 dn⟩, ?_⟩
  rintro i m H2 ⟨r2, S2, er2, o2, k2, hd2, d2⟩
  cases m with
  | zero => exact d2.elim
  | succ m =>
    unfold compL at d2
    obtain ⟨w1, w2⟩ := k2 r2 H2 S2 i (Stp.refl _ _) o2
    cases q : nextM mi i S2 with
    | none => rw [q] at d2; exact d2.elim
    | some od =>
      cases od with
      | none => rw [q] at d2; exact .inl ⟨w1 q, Dn.ok_here (R := VR X.K) (a := .ref S.length) d2 o2 ⟨Dd, hd2, rfl⟩⟩
      | some d =>
        rw [q] at d2
        obtain ⟨hgo, hy⟩ := w2 d q
        dsimp only at d2
        cases qg : g d S2 with
        | none => rw [qg] at d2; exact d2.elim
        | some ps =>
          rw [qg] at d2
          dsimp only at d2
          refine .inr ⟨hgo, fun H' => ∃ r' S', ER X.K r' H' (wipeD en own) (wipe σ own) ∧ ROk X.K r' H' S' ∧ WkR X.K r' H' mi J ∧ r'[S.length]? = some Dd ∧ Dn X.K r' H' (VR X.K) (compL mi g mt me S.length m (i + 1) (wipeD en own) S') Q (WE W σ), fun H' h => ⟨m, Nat.lt_succ_self m, h⟩, fun x H3 y => ?_⟩
          obtain ⟨s3, o3, k3⟩ := hy x H3 y
          have d2 := Dn.mono s3 d2
          have er3 := er2.mono s3
          have wk3 := k2.mono s3
          have hd3 := s3.pre _ _ hd2
          refine hg d x ps _ r2 H3 S2 _ qg k3 o3 fun vs hps hown => ⟨wipe_sets σ own vs hown, ?_⟩
          have ers := hps.sets er3
          refine ht _ _ r2 H3 S2 _ ers o3 (Dn.calm (Dn.imp (Dn.bind d2) fun b H4 ⟨b', S4, r4, e4, s4, o4, k4, d4⟩ => ?_))
          have k4 : b = b' := k4
          subst k4
          cases b with
          | false => exact ⟨r4, S4, er3.mono s4, o4, wk3.mono s4, s4.pre _ _ hd3, d4⟩
          | true =>
            show te _ H4 _
            refine he _ _ r4 H4 S4 _ (ers.mono s4) o4 (Dn.calm (Dn.imp (Dn.bind d4) fun y H5 ⟨z, S5, r5, e5, s5, o5, k5, d5⟩ => ?_))
            have hd5 := s5.pre _ _ (s4.pre _ _ hd3)
            cases ql : S5[S.length]? with
            | none => rw [ql] at d5; exact d5.elim
            | some ob =>
              rw [ql] at d5
              have ho := o5.ob _ ob Dd ql hd5
              cases ob with
              | lst acc =>
                obtain ⟨ws, h1, h2⟩ := ho
                obtain ⟨hz, d5⟩ := dn_if d5
                have ss : Stp r5 H5 r5 (upd H5 Dd (.lst (ws ++ [y]))) := Stp.mut h1 trivial
                refine ⟨ws, h1, by rw [← h2.length]; exact hz, r5, _, ((er3.mono s4).mono s5).mono ss, o5.mut (o := .lst (acc ++ [z])) hd5 h1 trivial ⟨ws ++ [y], upd_same, (h2.mono ss).append (VRs.one (k5.mono ss))⟩, ((wk3.mono s4).mono s5).mono ss, hd5, Dn.mono ss d5⟩
              | _ => exact d5.elim
def bG (X : Cx) (scope : Scope) (tg : Expr) : TG := fun v σ H Q => InBlk X scope fun Y => wG Y tg v σ H Q
def bF (X : Cx) (scope : Scope) (ifs : List Expr) : TT := fun σ H Q => InBlk X scope fun Y => wF Y ifs σ H Q
def bE (X : Cx) (scope : Scope) (e : Expr) : TE := fun σ H Q => InBlk X scope fun Y => wE Y e σ H Q
theorem pg_bG (scope : Scope) (s : Shared) (H : Hp) (C : Addr) (cl : List (Str × Addr)) (fp : List Addr) : PG (X.blk s H scope (compEnvC scope cl C X.env) fp) tg (bG X scope tg) := ⟨fun pins s' σ H' v u Q I rv h => h s H C cl fp pins s' u I rv⟩
theorem pts_bF (scope : Scope) {ifs : List Expr} (s : Shared) (H : Hp) (C : Addr) (cl : List (Str × Addr)) (fp : List Addr) : PTs (X.blk s H scope (compEnvC scope cl C X.env) fp) ifs (bF X scope ifs) := ⟨fun pins s' σ H' Q I h => h s H C cl fp pins s' I⟩
theorem pe_bE (scope : Scope) (s : Shared) (H : Hp) (C : Addr) (cl : List (Str × Addr)) (fp : List Addr) : PE (X.blk s H scope (compEnvC scope cl C X.env) fp) e (bE X scope e) := ⟨fun pins s' σ H' Q I h => h s H C cl fp pins s' I⟩
theorem e_comp {scope : Scope} {ow : List (Str × Nat)} {ifs : List Expr} (n : Nat) (hc : X.calm = true) (hN : X.N.Nodup) (hi : SndI X tg iter mi) (ok : BlkOk X.N X.env.scope scope ow)
    (hg : InBlk X scope fun Y => SndG Y tg (ow.map (·.2)) g) (ht : InBlk X scope fun Y => SndF Y ifs mt) (he : InBlk X scope fun Y => SndE Y e me) (hs : ∀ x, foldedSetIterable iter X.env x = pure x := by intro _; rfl) :
    SndE X (.ListComp e [⟨tg, iter, ifs, 0⟩] scope pos) (mComp mi g mt me (ow.map (·.2)) n) := by
  refine ⟨?_⟩
  intro W tk en σ r H S Q er ro dn
  refine wE_of (pe_lc hc hN (pi_wI X tg iter) ok (pg_bG scope) (pts_bF scope) (pe_bE scope) hs) ?_
  refine hi.run W tk en σ r H S _ er ro (Dn.imp (Dn.bind dn) fun J H1 ⟨mi, S1, r1, e1, s1, o1, k1, d1⟩ => ?_)
  refine tLc_of (wi := wI X tg iter) (gg := bG X scope tg) (tt := bF X scope ifs) (te := bE X scope e) (er.mono s1) o1 k1 (fun d v ps σ r H S Q q kv ro hQ s H0 C cl fp => ?_) (fun en σ r H S Q er ro dn s H0 C cl fp => ?_) (fun en σ r H S Q er ro dn s H0 C cl fp => ?_) d1
  · exact (hg s H0 C cl fp).run d v ps σ r H S Q q kv ro hQ
  · exact (ht s H0 C cl fp).run _ takes_blk en σ r H S Q er ro dn
  · exact (he s H0 C cl fp).run _ takes_blk en σ r H S Q er ro dn
theorem s_setC {i : Nat} {y : Str} {py : Pos} {scope : Scope} {ow : List (Str × Nat)} {ifs : List Expr} {spos : Pos} (n : Nat) (hc : X.calm = true) (hN : X.N.Nodup) (hy : X.N[i]? = some y) (hyl : X.env.scope.names.lookup y = some .local)
    (hsw : swapsWith (.ListComp e [⟨tg, iter, ifs, 0⟩] scope pos) (some (.Name y py)) spos.line X.env = pure true) (hi : SndI X tg iter mi) (ok : BlkOk X.N X.env.scope scope ow)
    (hg : InBlk X scope fun Y => SndG Y tg (ow.map (·.2)) g) (ht : InBlk X scope fun Y => SndF Y ifs mt) (he : InBlk X scope fun Y => SndE Y e me) (hs : ∀ x, foldedSetIterable iter X.env x = pure x := by intro _; rfl) :
    SndS X (.Assign [.Name y py] (.ListComp e [⟨tg, iter, ifs, 0⟩] scope pos) spos) (mSet i (mComp mi g mt me (ow.map (·.2)) n)) := by
  refine ⟨?_⟩
  intro W tk en σ r H S D er ro dn
  refine wS_of (ps_setLc hc hN hy hyl hsw (pi_wI X tg iter) ok (pg_bG scope) (pts_bF scope) (pe_bE scope) hs) ?_
  have dn2 := Dn.imp (DnS.stm (R := VR X.K) er dn) fun x H1 ⟨d, S1, r1, e1, s1, o1, k1, er1, d1⟩ => DnS.nx_here (e := en.set i (some d)) (σ := σ.set i (some x)) d1 o1 (er1.set k1)
  refine hi.run W tk en σ r H S _ er ro (Dn.imp (Dn.bind dn2) fun J H1 ⟨mi, S1, r1, e1, s1, o1, k1, d1⟩ => ?_)
  refine tLc_of (wi := wI X tg iter) (gg := bG X scope tg) (tt := bF X scope ifs) (te := bE X scope e) (Q := fun x H1 => D.nx (σ.set i (some x)) H1) (er.mono s1) o1 k1 (fun d v ps σ r H S Q q kv ro hQ s H0 C cl fp => ?_) (fun en σ r H S Q er ro dn s H0 C cl fp => ?_) (fun en σ r H S Q er ro dn s H0 C cl fp => ?_) d1
  · exact (hg s H0 C cl fp).run d v ps σ r H S Q q kv ro hQ
  · exact (ht s H0 C cl fp).run _ takes_blk en σ r H S Q er ro dn
  · exact (he s H0 C cl fp).run _ takes_blk en σ r H S Q er ro dn
end
end Q

namespace Q
open PySem PySem.Spec PyProof.Rows L2
section Gs
variable [Gh : Ghost]
/-! ### functions -/
abbrev MF := List D → Store → Res D
structure FnM (P : Program) (w : World) (K : PySem.W.Frag) (mg : Str → Option Value) (base : Heap) (k : Nat) (f : Addr) (fd : FuncData) (ps : List Str) (M : MF) : Prop where
  run : ∀ (A : Around) (outer : List Env) (s : Shared) (H : Hp) (args : Args) (us : List Value) (vs : List V) (r : List Addr) (ds : List D) (S : Store) (Q : VK) (E : XK),
    Room k A → A.guards = some [] → Env0 P w K mg base A outer s H → BindsTo s fd args (ps.zip us) → Vals vs us → ds.length = ps.length → VRs K r H ds vs → ROk K r H S → Dn K r H (VR K) (M ds S) Q E →
    codeAny (model P w) A (.call (.ref f) args) (CR (CX P w) outer P w H s Q E) s
theorem FnM.mono {P : Program} {w : World} {K : PySem.W.Frag} {mg : Str → Option Value} {base : Heap} {j k : Nat} {f : Addr} {fd : FuncData} {ps : List Str} {M : MF} (F : FnM P w K mg base j f fd ps M) (h : j ≤ k) : FnM P w K mg base k f fd ps M :=
  ⟨fun A outer s H args us vs r ds S Q E hr => F.run A outer s H args us vs r ds S Q E (hr.mono h)⟩
def startE (n : Nat) (ds : List D) : En := ds.map some ++ List.replicate (n - ds.length) none
def endM (m : SRes) : Res D := match m with
  | .nx _ S => .ok .non S
  | .rt d S => .ok d S
  | .err C n _ S => .err C n S
  | _ => .bad
/-- a def: n names, its body -/
def mDef (n : Nat) (m : MS) : MF := fun ds S => endM (m (startE n ds) S)
theorem ER.start {K : PySem.W.Frag} {r : List Addr} {H : Hp} {ds : List D} {vs : List V} (N : List Str) (h : VRs K r H ds vs) : ER K r H (startE N.length ds) (L2.start N vs) := by
  have hl := h.length
  refine ⟨?_, fun i d e => ?_⟩
  · unfold startE L2.start
    simp only [List.length_append, List.length_map, List.length_replicate]
    omega
  · unfold startE at e
    unfold L2.start
    by_cases hi : i < ds.length
    · rw [List.getElem?_append_left (by rw [List.length_map]; exact hi), List.getElem?_map] at e
      rw [List.getElem?_append_left (by rw [List.length_map, ← hl]; exact hi), List.getElem?_map]
      obtain ⟨d', h1, h2⟩ := Option.map_eq_some_iff.mp e
      cases h2
      obtain ⟨v, h3, h4⟩ := h.get h1
      exact ⟨v, by rw [h3]; rfl, h4⟩
    · rw [List.getElem?_append_right (by rw [List.length_map]; omega), List.getElem?_replicate] at e
      split at e <;> cases e
/-- what the body's end is for the caller -/
theorem DnS.of_end {K : PySem.W.Frag} {r : List Addr} {H : Hp} {m : SRes} {Q : VK} {E : XK} (h : Dn K r H (VR K) (endM m) Q E) : DnS K r H m { nx := fun _ H' => Q .non H', rt := Q } (fun c x _ H' => E c x H') := by
  cases m with
  | nx e S => exact fun r' H' σ' s o _ => h r' H' .non s o rfl
  | rt d S => exact fun r' H' v s o k => h r' H' v s o k
  | bk e S => exact h.elim
  | ct e S => exact h.elim
  | err C n e S => exact fun r' H' σ' x s o _ q => h r' H' x s o q
  | bad => exact h.elim
section
variable {P : Program} {w : World} {K : PySem.W.Frag} {mg : Str → Option Value} {base : Heap}
abbrev cxM (P : Program) (w : World) (K : PySem.W.Frag) (mg : Str → Option Value) (base : Heap) (N : List Str) (qual : Str) (scope : Scope) (f : Addr) (cd : Value) (A : Around) (outer : List Env) (s : Shared) (H : Hp) (E : XK) : Cx :=
  cxOf (CX P w) P w K mg base N qual scope f cd A outer s H E
theorem takes_cxM {N : List Str} {qual : Str} {scope : Scope} {f : Addr} {cd : Value} {A : Around} {outer : List Env} {s : Shared} {H : Hp} {E : XK} : Takes (cxM P w K mg base N qual scope f cd A outer s H E) (fun c x _ H' => E c x H') := takes_of rfl rfl rfl rfl
theorem owns_cxM {N : List Str} {qual : Str} {scope : Scope} {f : Addr} {cd : Value} {A : Around} {outer : List Env} {s : Shared} {H : Hp} {E : XK} : PassesOwn (model P w) (cxM P w K mg base N qual scope f cd A outer s H E).A (cxM P w K mg base N qual scope f cd A outer s H E).env (cxM P w K mg base N qual scope f cd A outer s H E).xe := passes_of (X := cxM P w K mg base N qual scope f cd A outer s H E) rfl
/-- a def of the text keeps its mirror -/
theorem fnM_of {k : Nat} {f : Addr} {x qual : Str} {params : Arguments} {body : List Stmt} {scope : Scope} {dvs : List V} {kws : List (Str × V)} {fd : FuncData} {N ps : List Str} {m : MS} (F : FunD K x qual params body scope dvs kws f fd) (Sc : FnScope N ps scope)
    (hbody : ∀ (cd : Value) (A : Around) (outer : List Env) (s : Shared) (H : Hp) (E : XK), Gd (cxM P w K mg base N qual scope f cd A outer s H E) k → PassesOwn (model P w) (cxM P w K mg base N qual scope f cd A outer s H E).A (cxM P w K mg base N qual scope f cd A outer s H E).env (cxM P w K mg base N qual scope f cd A outer s H E).xe →
      SndSs (cxM P w K mg base N qual scope f cd A outer s H E) body m) : FnM P w K mg base (k + 1) f fd ps (mDef N.length m) := by
  obtain ⟨oc, od, dV, kV, doc, pm, an, cdv, ct, osl, rfl, lk, hcd, _, _⟩ := F.ex
  constructor
  intro A outer s H args us vs r ds S Q E room gds e0 bnd rel hlen hrel ro dn
  have hKs : K.In s.heap := e0.mod.kin.keeps fun b o q => (e0.bs b o q).1
  have kinds : ∀ y ∈ ps.zip us, scope.names.lookup y.1 = some .local ∨ (scope.names.lookup y.1 = some .cell ∧ ((cellsFrom (s.heap.objs.size + 1) scope.names []).lookup y.1).isSome = true) := by
    rintro ⟨n, v⟩ hy
    have hp : n ∈ ps := (List.of_mem_zip hy).1
    rcases Sc.par n hp with q | q
    · exact Or.inl q
    · exact Or.inr ⟨q, PySem.W.cellsFrom_some _ _ _ (Or.inl q)⟩
  refine codeAny_call_function room.depth (hKs _ _ lk) rfl Sc.co Sc.gen rfl (PySem.W.codeRec_of hKs hcd) (bnd _ _ _ _ ?_)
  refine wpAny_newFunctionEnv_cells Sc.kind kinds ?_
  intro env he s1 inc
  subst he
  refine ⟨(e0.mod.nolimit.keeps fun b o q => (e0.bs b o q).1).keeps inc.toInCall.keep, codeAny_func ?_⟩
  have gd : Gd (cxM P w K mg base N qual scope f cdv A outer s H E) k := ⟨rfl, room.deeper _, gds⟩
  have inv : Inv (cxM P w K mg base N qual scope f cdv A outer s H E) [] (L2.start N vs) H s1 := inv_start Sc room.hd e0 (hrel.length.symm.trans hlen) rel inc
  have run := (hbody cdv A outer s H E gd owns_cxM).run _ takes_cxM (startE N.length ds) (L2.start N vs) r H S _ (ER.start N hrel) ro (DnS.of_end dn) [] s1 inv
  refine wpAny_mono run (fun fl s' hs => ?_) fun e s' hs => hs
  have back : ∀ {σ' : L2.St} {H' : Hp} {v : V} {u : Value}, Inv (cxM P w K mg base N qual scope f cdv A outer s H E) [] σ' H' s' → RelV v u → Q v H' → CE outer P w H s Q u s' := by
    intro σ' H' v u J rv q
    exact ⟨v, H', J.os, J.bare, J.base, J.hok, rv, q⟩
  match fl, hs with
  | .ret u, ⟨v, σ', H', J, rv, q⟩ => exact back J rv q
  | .next, ⟨σ', H', J, q⟩ => exact back (v := V.non) (u := Value.none) J rfl q
  | .brk, ⟨_, _, _, q⟩ => exact q.elim
  | .cont, ⟨_, _, _, q⟩ => exact q.elim
end
/-! ### calls of defs -/
def mCallF (M : MF) (n : Nat) (dds : List D) (m : MA) : ME := fun en S => (m en S).bind fun ds S1 => if (ds ++ dds).length = n then M (ds ++ dds) S1 else .bad
section
variable {X : Cx} {k : Nat} {f : Addr} {fd : FuncData} {ps : List Str} {M : MF} {dvs : List V} {dds : List D} {dsv : List Value} {x : Str} {p pos : Pos} {e : Expr} {es : List Expr} {m : MA}
/-- the callee runs -/
theorem run_M {W : WX} {pins : List (Addr × Obj)} {σ : L2.St} {H : Hp} {s : Shared} {Q : VK} {us : List Value} {vs : List V} {ds : List D} {r : List Addr} {S : Store} (F : FnM X.prog X.w X.K X.mg X.base k f fd ps M) (g : Gd X k) (hb : Binds X.K fd ps dsv) (hd : Vals dvs dsv) (tk : Takes X W)
    (I : Inv X pins σ H s) (rv : Vals vs us) (hl : (ds ++ dds).length = ps.length) (kv : VRs X.K r H ds vs) (kd : VRs X.K r H dds dvs) (ro : ROk X.K r H S) (dn : Dn X.K r H (VR X.K) (M (ds ++ dds) S) Q (WE W σ)) :
    wpAny (model X.prog X.w) X.A (call (.ref f) us) (EP X pins σ Q) X.xe s := by
  have kk := kv.append kd
  have rr := rv.append hd
  have hlen : (us ++ dsv).length = ps.length := by rw [← rr.length, ← kk.length]; exact hl
  have go := F.run X.A X.stack s H ⟨us, []⟩ (us ++ dsv) (vs ++ dvs) r (ds ++ dds) S Q (WE W σ) g.room g.gd I.env0 (hb s us I.kIn hlen) rr hl kk ro dn
  refine wpAny_call (codeAny_mono go ?_)
  intro res s' hq
  match res, hq with
  | .error e, hq => exact tk e s' (XE.of_call I (fun _ _ _ h => h) hq)
  | .ok (.ret u), hq => exact I.after hq
  | .ok .next, hq => exact hq.elim
  | .ok .brk, hq => exact hq.elim
  | .ok .cont, hq => exact hq.elim
theorem e_call (F : FnM X.prog X.w X.K X.mg X.base k f fd ps M) (g : Gd X k) (hg : Gl X x) (hm : X.mg x = some (.ref f)) (hk : PySem.W.keepIn X.K (.ref f) = true) (hb : Binds X.K fd ps dsv) (hd : Vals dvs dsv) (kd : ∀ r H, VRs X.K r H dds dvs)
    (ha : SndA X (e :: es) m) (hdb : (x == ("__debug__" : Str)) = false := by decide) (he : starEach (e :: es) X.env = (false, eval e X.env) :: starEach es X.env := by rfl) (hpl : (backTo pos (starEach es X.env)).any (·.1) = false := by rfl) :
    SndE X (.Call (.Name x p) (e :: es) [] pos) (mCallF M ps.length dds m) := by
  refine ⟨?_⟩
  intro W tk en σ r H S Q er ro dn pins s I
  refine wpAny_Call_Name_kw (ld_glob I hg hm ?_ hdb)
  have args := ha.run W tk en σ r H S _ er ro (Dn.bind dn) pos pins s I
  refine PySem.W.callWith_K (h₀ := X.base) I.ok.mod.kin hk (thn args ?_) he hpl
  rintro us s1 ⟨vs, H1, I1, rv, ds, S1, r1, e1, s1', o1, k1, d1⟩
  obtain ⟨hl, d1⟩ := dn_if d1
  exact ⟨I1.kIn, run_M F g hb hd tk I1 rv hl k1 (kd r1 H1) o1 d1⟩
end
end Gs
/-! ### the law's end -/
theorem law_M {P : Program} {w : World} {K : PySem.W.Frag} {mg mb : Str → Option Value} {k : Nat} {fa a : Addr} {fd : FuncData} {x : Str} {M : MF} {s1 : Shared} {vs : List Value} {ns : List Int}
    (KX : K.In s1.heap) (hns : s1.heap.Ns mainGlobals mg) (hb : s1.heap.Ns builtinsNs mb) (hbb : ∀ x : Str, x ≠ "__name__" → mb x = bootBuiltins x) (hlim : s1.heap.NoLimit) (hg : s1.gens = #[])
    (ha : s1.heap.get? a = some { cls := .type "list", data := .seq vs.toArray }) (hi : IntsAre vs ns) (hl : ns.length ≤ sizeLine) (hr : Room k callerA)
    (F : ∀ base : Heap, K.In base → base.Ns mainGlobals mg → FnM P w K mg base k fa fd [x] M) (hbind : ∀ (s : Shared) (u : Value), BindsTo s fd ⟨[u], []⟩ [(x, u)])
    (hM : ∃ S', M [.kl (ns.map D.int)] [] = .ok (.bl true) S') (hsys : ∃ o es ep, s1.heap.get? sysModules = some o ∧ o.data = .dict es ep) :
    codeAny (model P w) callerA (.call (.ref fa) ⟨[.ref a], []⟩) (fun r s' => r = .ok (.ret (.bool true)) ∧ OldK s1.heap s'.heap ∧ s'.os = s1.os ∧ AllBare s'.gens) s1 := by
  have rv := vals_ints hi
  have lenV := hi.length
  obtain ⟨S', hM⟩ := hM
  have kvs : ∀ (r : List Addr) (H : Hp) (l : List Int), VRs K r H (l.map D.int) (l.map V.int) := by
    intro r H l
    induction l with
    | nil => rfl
    | cons i l ih => exact ⟨.int i, _, rfl, rfl, ih⟩
  obtain ⟨oY, eY, pY, hY, dY⟩ := hsys
  have main : ∀ H : Hp, (∀ b, H b = none ∨ ∃ o u, H b = some (.frz o u)) → SqF K H a (ns.map V.int) → HOk P w H s1.heap → (∀ b, H b ≠ none → (b = a ∨ b = sysModules) ∧ K.lookup b = none) → SysOk K H →
      codeAny (model P w) callerA (.call (.ref fa) ⟨[.ref a], []⟩) (fun r s' => r = .ok (.ret (.bool true)) ∧ OldK s1.heap s'.heap ∧ s'.os = s1.os ∧ AllBare s'.gens) s1 := by
    intro H hO hS hok hA hsy
    have dictNone : ∀ {b : Addr} {o : Obj} {es : Array DictEntry} {ep : Nat}, s1.heap.get? b = some o → o.data = .dict es ep → b ≠ sysModules → H b = none := by
      intro b o es ep e d hne
      rcases Classical.em (H b = none) with h | h
      · exact h
      · obtain ⟨rfl | h1, _⟩ := hA b h
        · rw [ha] at e
          cases e
          cases (show Data.seq vs.toArray _ = Data.dict es ep from d)
        · exact absurd h1 hne
    have nsB : ∀ {b : Addr} {m : Str → Option Value}, b ≠ sysModules → s1.heap.Ns b m → (hidT s1.heap H).Ns b m := by
      rintro b m hne ⟨o, es, ep, e, d, q⟩
      exact ⟨o, es, ep, hidT_get e (dictNone e d hne), d, q⟩
    have kinB : K.In (hidT s1.heap H) := by
      intro b o e
      refine hidT_get (KX b o e) ?_
      rcases Classical.em (H b = none) with h | h
      · exact h
      · obtain ⟨_, h2⟩ := hA b h
        rw [h2] at e
        cases e
    have limB : (hidT s1.heap H).NoLimit := by
      obtain ⟨mc, h1, h2⟩ := hlim
      exact ⟨mc, nsB (by decide) h1, h2⟩
    have e0 : Env0 P w K mg (hidT s1.heap H) callerA [] s1 H :=
      ⟨rfl, ⟨kinB, nsB (by decide) hns, ⟨mb, nsB (by decide) hb, hbb⟩, limB⟩, fun b o e => of_hidT e, Nat.le_of_eq (hidT_size _ _), trivial, fun b hm => (List.not_mem_nil (show b ∈ ([] : List Addr) from hm)).elim, hok, .of_eq hg⟩
    have ro : ROk K [] H [] := ⟨hsy, rfl, List.nodup_nil, fun n o p e => by simp at e, trivial⟩
    have arg : VRs K [] H [.kl (ns.map D.int)] [.ref a] := ⟨.ref a, [], rfl, ⟨a, ns.map V.int, rfl, hS, kvs [] H ns⟩, rfl⟩
    have dn : Dn K [] H (VR K) (M [.kl (ns.map D.int)] []) (fun v _ => v = .bl true) (fun _ _ _ => False) := by
      rw [hM]
      exact fun r' H' v _ _ kv => kv
    refine codeAny_mono ((F _ kinB (nsB (by decide) hns)).run callerA [] s1 H ⟨[.ref a], []⟩ [.ref a] [.ref a] [] _ [] _ _ hr rfl e0 (hbind s1 (.ref a)) (.cons rfl .nil) rfl arg ro dn) ?_
    intro res s' h
    match res, h with
    | .error e, ⟨_, _, _, _, _, _, _, _, _, _, _, _, hE⟩ => exact hE.elim
    | .ok .next, h => exact h.elim
    | .ok .brk, h => exact h.elim
    | .ok .cont, h => exact h.elim
    | .ok (.ret u), ⟨v, H', os, bare, un, hok', rv', q⟩ =>
      have q : v = .bl true := q
      subst q
      obtain rfl : u = Value.bool true := rv'
      refine ⟨rfl, OldK.of_keep fun b o e => ?_, os, bare⟩
      rcases hO b with z | ⟨ob, xs, z⟩
      · exact un.keep b o e z (List.not_mem_nil (a := b)) (List.not_mem_nil (a := b))
      · obtain ⟨e1, _⟩ := hok b _ z
        obtain ⟨e2, _⟩ := hok' b _ (un.frzs b ob _ z)
        rw [e] at e1
        cases e1
        exact e2
  -- the script, then the dict of modules, are told where the written part does not tell them
  have sysL : K.lookup sysModules = none ∨ ∃ o es ep, K.lookup sysModules = some o ∧ o.data = .dict es ep := by
    cases q : K.lookup sysModules with
    | none => exact .inl rfl
    | some o =>
      have e := KX _ o q
      rw [hY] at e
      cases e
      exact .inr ⟨_, eY, pY, rfl, dY⟩
  have aS : a ≠ sysModules := fun e => by
    rw [← e, ha] at hY
    cases hY
    cases dY
  have okY : ∀ H : Hp, ObjOk P w H s1.heap sysModules (.frz oY (.own 0)) := fun H => ⟨hY, oY, hY⟩
  have okA : ∀ H : Hp, ObjOk P w H s1.heap a (.frz { cls := .type "list", data := .seq vs.toArray } (.lst (ns.map V.int))) := fun H => ⟨ha, by rw [List.length_map]; exact hl, vs, _, rv, ha⟩
  have sqA : ∀ o, K.lookup a = some o → ∀ H : Hp, SqF K H a (ns.map V.int) := fun o hk H => by
    have e := KX a o hk
    rw [ha] at e
    cases e
    exact .inr ⟨_, vs.toArray, _, hk, rfl, rfl, rfl, by rw [List.size_toArray, lenV]; exact hl, by simpa using rv⟩
  cases hk : K.lookup a with
  | some o =>
    rcases sysL with h1 | h1
    · let H1 : Hp := fun b => if b = sysModules then some (.frz oY (.own 0)) else none
      have at1 : H1 sysModules = some (.frz oY (.own 0)) := if_pos rfl
      have of1 : ∀ b, b ≠ sysModules → H1 b = none := fun b h => if_neg h
      refine main H1 (fun b => ?_) (sqA o hk H1) (fun b u z => ?_) (fun b z => ?_) (.inr ⟨_, _, _, _, at1, dY⟩)
      · rcases Classical.em (b = sysModules) with h | h
        · exact .inr ⟨_, _, by rw [h]; exact at1⟩
        · exact .inl (of1 b h)
      · rcases Classical.em (b = sysModules) with h | h
        · rw [h] at z ⊢
          rw [at1] at z
          cases z
          exact okY H1
        · rw [of1 b h] at z
          cases z
      · rcases Classical.em (b = sysModules) with h | h
        · exact ⟨.inr h, by rw [h]; exact h1⟩
        · exact (z (of1 b h)).elim
    · exact main (fun _ => none) (fun _ => .inl rfl) (sqA o hk _) (fun b u z => (nomatch (show (none : Option HO) = some u from z))) (fun b z => (z rfl).elim) (.inl h1)
  | none =>
    rcases sysL with h1 | h1
    · let H1 : Hp := fun b => if b = sysModules then some (.frz oY (.own 0)) else if b = a then some (.frz { cls := .type "list", data := .seq vs.toArray } (.lst (ns.map V.int))) else none
      have at1 : H1 sysModules = some (.frz oY (.own 0)) := if_pos rfl
      have at2 : H1 a = some (.frz { cls := .type "list", data := .seq vs.toArray } (.lst (ns.map V.int))) := (if_neg aS).trans (if_pos rfl)
      have of1 : ∀ b, b ≠ sysModules → b ≠ a → H1 b = none := fun b h h' => (if_neg h).trans (if_neg h')
      refine main H1 (fun b => ?_) (.inl ⟨_, at2⟩) (fun b u z => ?_) (fun b z => ?_) (.inr ⟨_, _, _, _, at1, dY⟩)
      · rcases Classical.em (b = sysModules) with h | h
        · exact .inr ⟨_, _, by rw [h]; exact at1⟩
        · rcases Classical.em (b = a) with h' | h'
          · exact .inr ⟨_, _, by rw [h']; exact at2⟩
          · exact .inl (of1 b h h')
      · rcases Classical.em (b = sysModules) with h | h
        · rw [h] at z ⊢
          rw [at1] at z
          cases z
          exact okY H1
        · rcases Classical.em (b = a) with h' | h'
          · rw [h'] at z ⊢
            rw [at2] at z
            cases z
            exact okA H1
          · rw [of1 b h h'] at z
            cases z
      · rcases Classical.em (b = sysModules) with h | h
        · exact ⟨.inr h, by rw [h]; exact h1⟩
        · rcases Classical.em (b = a) with h' | h'
          · exact ⟨.inl h', by rw [h']; exact hk⟩
          · exact (z (of1 b h h')).elim
    · let H1 : Hp := fun b => if b = a then some (.frz { cls := .type "list", data := .seq vs.toArray } (.lst (ns.map V.int))) else none
      have at2 : H1 a = some (.frz { cls := .type "list", data := .seq vs.toArray } (.lst (ns.map V.int))) := if_pos rfl
      have of1 : ∀ b, b ≠ a → H1 b = none := fun b h => if_neg h
      refine main H1 (fun b => ?_) (.inl ⟨_, at2⟩) (fun b u z => ?_) (fun b z => ?_) (.inl h1)
      · rcases Classical.em (b = a) with h' | h'
        · exact .inr ⟨_, _, by rw [h']; exact at2⟩
        · exact .inl (of1 b h')
      · rcases Classical.em (b = a) with h' | h'
        · rw [h'] at z ⊢
          rw [at2] at z
          cases z
          exact okA H1
        · rw [of1 b h'] at z
          cases z
      · rcases Classical.em (b = a) with h' | h'
        · exact ⟨.inl h', by rw [h']; exact hk⟩
        · exact (z (of1 b h')).elim
end Q

namespace Q
open PySem PySem.Spec PyProof.Rows L2
variable [Gh : Ghost]
/-! ### a field is read, is set, a pair is changed: as first steps -/
section
variable {M : Model} {A : Around} {E : Value → Shared → Prop} {s : Shared} {β : Type} {R : β → Shared → Prop}
theorem rd {a : Addr} {o : Obj} {fl : Array Value} {i : Nat} {y : Value} {k : Value → Sem β} (e : s.heap.get? a = some o) (h : wpAny M A (k y) R E s) (dt : o.data = .fields fl := by rfl) (at' : fl[i]? = some y := by rfl) : wpAny M A (field (.ref a) i >>= k) R E s :=
  wpAny_bind (wpAny_field e dt at' h)
/-- an object of a class that keeps its state in fields -/
abbrev rec_ (c : Value) (fs : Array Value) : Obj := { cls := c, dict := none, data := .fields fs, slots := #[] }
variable {prog : Program} {w : World}
theorem wr {a : Addr} {c y : Value} {fs : Array Value} {i : Nat} {k : Unit → Sem β} (e : s.heap.get? a = some (rec_ c fs)) (lt : i < fs.size)
    (h : ∀ G, G.get? a = some (rec_ c (fs.setIfInBounds i y)) → Heap.SameBut a s.heap G → wpAny (model prog w) A (k ()) R E { s with heap := G }) : wpAny (model prog w) A (setField (.ref a) i y >>= k) R E s :=
  wpAny_bind (wpAny_setField_rec e lt h)
theorem up2 {T : Addr} {a b y : Value} {i : Nat} {k : Unit → Sem β} (e : IsPair s.heap T a b)
    (h : ∀ G, G.get? T = some { cls := .type "tuple", data := .seq ((#[a, b] : Array Value).setIfInBounds i y) } → Heap.SameBut T s.heap G → wpAny (model prog w) A (k ()) R E { s with heap := G }) :
    wpAny (model prog w) A (updateSeq T (·.setIfInBounds i y) >>= k) R E s :=
  wpAny_bind (wpAny_updateSeq_pair e h)
end
/-! ### iterators that other iterators draw from -/
structure Drw (P : Program) (w : World) (K : PySem.W.Frag) (J : It) (fp : List Addr) (it : Addr) (tn : Nat → Heap → Prop) : Prop where
  mem : it ∈ fp
  obj : ∀ n (G : Heap), tn n G → ∀ c ∈ fp, ∃ x, G.get? c = some x ∧ ∀ y, x.data ≠ .cell y
  keep : ∀ n (G G' : Heap), tn n G → (∀ c ∈ fp, ∀ x, G.get? c = some x → G'.get? c = some x) → tn n G'
  item : ∀ (X : Cx), X.prog = P → X.w = w → X.K = K → ∀ (A : Around) (i : Nat) (pins : List (Addr × Obj)) (s : Shared) (σ : L2.St) (H : Hp) (Q : Value → Shared → Prop) (E : Value → Shared → Prop), Inv X pins σ H s → (∀ b ∈ fp, FpOk X pins H b) → tn i s.heap → J.go i H →
    (∀ (u : Value) (v : V) (s' : Shared) (H' : Hp), Inv X pins σ H' s' → RelV v u → J.yld i H v H' → tn (i + 1) s'.heap → s.heap.objs.size ≤ s'.heap.objs.size → (∀ b, b < s.heap.objs.size → H b = none → H' b = none) → (∀ b o, b ∉ fp → s.heap.get? b = some o → s'.heap.get? b = some o) → Q u s') →
    wpAny (model P w) A (Builtin.SmallTypes.nextOf (.ref it)) Q E s
  done : ∀ (X : Cx), X.prog = P → X.w = w → X.K = K → ∀ (A : Around), A.handled = none → ∀ (i : Nat) (pins : List (Addr × Obj)) (s : Shared) (σ : L2.St) (H : Hp) (Q : Value → Shared → Prop) (E : Value → Shared → Prop), Inv X pins σ H s → (∀ b ∈ fp, FpOk X pins H b) → tn i s.heap → J.stop i H →
    (∀ (e : Addr) (s' : Shared), Inv X pins σ H s' → (∃ o, s'.heap.get? e = some o ∧ o.cls = .type "StopIteration") → (∀ b o, b ∉ fp → s.heap.get? b = some o → s'.heap.get? b = some o) → E (.ref e) s') →
    wpAny (model P w) A (Builtin.SmallTypes.nextOf (.ref it)) Q E s
theorem FpOk.to {X : Cx} {pins : List (Addr × Obj)} {H H' : Hp} {b : Addr} (h : FpOk X pins H b) (e : H' b = none) : FpOk X pins H' b := ⟨e, h.2⟩
section
variable {P : Program} {w : World} {K : PySem.W.Frag}
theorem drw_list (a it : Addr) : Drw P w K (Itl K a) [it] it (fun i h => h.IsListIter it a i) where
  mem := by simp
  obj := fun i h st b hb => by
    rw [List.mem_singleton.mp hb]
    obtain ⟨o, e, _, d⟩ := st
    exact ⟨o, e, fun v z => by rw [d] at z; cases z⟩
  keep := fun _ _ _ st k => st.at (k it (List.mem_singleton.mpr rfl))
  item := by
    intro X hP hw hK A i pins s σ H Q E I hf st hg hQ
    subst hP hw hK
    obtain ⟨xs, x, hq, hx⟩ := hg
    obtain ⟨its, rv, p, _⟩ := I.list hq
    obtain ⟨u, hu, ru⟩ := rv.get hx
    refine wpAny_nextOf_list_item st p.isList (x := u) (by simpa using hu) fun h' st' sb => ?_
    have I1 : Inv X pins σ H { s with heap := h' } := I.turnedL (t' := s.toks) (ch := [it]) (fun b o hb q => sb.extBut b o (by simpa using hb) q) hf
    exact hQ u x _ H I1 ru ⟨rfl, fun l hl => by rw [I.list_inj hl hq]; exact hx⟩ st' (Nat.le_of_eq sb.1.symm) (fun _ _ e => e) fun b o hb q => sb.extBut b o (by simpa using hb) q
  done := by
    intro X hP hw hK A hA i pins s σ H Q E I hf st hg hE
    subst hP hw hK
    obtain ⟨xs, hq, hl⟩ := hg
    obtain ⟨its, rv, p, _⟩ := I.list hq
    have l1 := rv.length
    refine wpAny_nextOf_list_end hA st p.isList (by simp; omega) fun h' e sb he => ?_
    exact hE e _ (I.turnedL (t' := s.toks) (ch := [it]) (fun b o hb q => sb b o (by simpa using hb) q) hf) he fun b o hb q => sb b o (by simpa using hb) q
theorem drw_tuple (a it : Addr) : Drw P w K (Itt K a) [it] it (fun i h => h.IsTupleIter it a i) where
  mem := by simp
  obj := fun i h st b hb => by
    rw [List.mem_singleton.mp hb]
    obtain ⟨o, e, _, d⟩ := st
    exact ⟨o, e, fun v z => by rw [d] at z; cases z⟩
  keep := fun _ _ _ st k => st.at (k it (List.mem_singleton.mpr rfl))
  item := by
    intro X hP hw hK A i pins s σ H Q E I hf st hg hQ
    subst hP hw hK
    obtain ⟨xs, x, hq, hx⟩ := hg
    obtain ⟨its, rv, p, _⟩ := I.tuple hq
    obtain ⟨u, hu, ru⟩ := rv.get hx
    refine RZ.nextOf_tuple_item st p (x := u) (by simpa using hu) fun h' st' sb => ?_
    have I1 : Inv X pins σ H { s with heap := h' } := I.turnedL (t' := s.toks) (ch := [it]) (fun b o hb q => sb.extBut b o (by simpa using hb) q) hf
    exact hQ u x _ H I1 ru ⟨rfl, fun l hl => by rw [I.tuple_inj hl hq]; exact hx⟩ st' (Nat.le_of_eq sb.1.symm) (fun _ _ e => e) fun b o hb q => sb.extBut b o (by simpa using hb) q
  done := by
    intro X hP hw hK A hA i pins s σ H Q E I hf st hg hE
    subst hP hw hK
    obtain ⟨xs, hq, hl⟩ := hg
    obtain ⟨its, rv, p, _⟩ := I.tuple hq
    have l1 := rv.length
    refine RZ.nextOf_tuple_end hA st p (by simp; omega) fun h' e sb he => ?_
    exact hE e _ (I.turnedL (t' := s.toks) (ch := [it]) (fun b o hb q => sb b o (by simpa using hb) q) hf) he fun b o hb q => sb b o (by simpa using hb) q
end
/-! ### what a zip or an enumerate remembers of the tuple it gave out -/
def outV : Option Addr → Value
  | none => .none
  | some T => rawInt T
abbrev IsZ (h : Heap) (z TI TO : Addr) (t : Option Addr) (f : Bool) : Prop :=
  h.get? z = some { cls := .type "zip", dict := none, data := .fields #[outV t, .bool f, .bool false, .ref TI, .ref TO], slots := #[] }
abbrev IsEn (h : Heap) (e it : Addr) (t : Option Addr) (f : Bool) (c : Int) (old : Value) : Prop :=
  h.get? e = some { cls := .type "enumerate", dict := none, data := .fields #[outV t, .bool f, .ref it, rawInt c, .none, old], slots := #[] }
section
variable {prog : Program} {w : World} {A : Around} {E : Value → Shared → Prop} {s : Shared}
/-- whether the tuple that was given out last is free again: the same question for both -/
theorem owned_free {a : Addr} {c : Value} {t : Option Addr} {f : Bool} {l : List Value} {Q : Bool → Shared → Prop} (hz : s.heap.get? a = some (rec_ c (outV t :: .bool f :: l).toArray))
    (h : ∀ (b f' : Bool) (G : Heap), G.get? a = some (rec_ c (outV t :: .bool f' :: l).toArray) → Heap.SameBut a s.heap G → Q b { s with heap := G }) : wpAny (model prog w) A (Builtin.SmallTypes.ownedTupleIsFree (.ref a)) Q E s := by
  have stay : ∀ b : Bool, wpAny (model prog w) A (pure b) Q E s := fun b => wpAny_pure (h b f s.heap hz (Heap.SameBut.refl _ _))
  unfold Builtin.SmallTypes.ownedTupleIsFree
  cases t with
  | none => exact rd hz (y := .none) (stay true)
  | some T =>
    refine rd hz (y := rawInt T) ?_
    show wpAny _ _ (loadIfAlive ((T : Int).toNat) >>= _) _ _ _
    rw [Int.toNat_natCast]
    refine wpAny_bind fun _ _ _ => ?_
    show wpAny (model prog w) A (if (s.heap.get? T).isNone = true then _ else _) Q E s
    by_cases gone : (s.heap.get? T).isNone = true
    · rw [if_pos gone]
      exact stay true
    · rw [if_neg gone]
      refine rd hz (y := .bool f) ?_
      cases f
      · exact wr hz (by simp) fun G g same => wpAny_pure (h false true G g same)
      · exact stay false
theorem zip_free {z TI TO : Addr} {t : Option Addr} {f : Bool} {Q : Bool → Shared → Prop} (hz : IsZ s.heap z TI TO t f)
    (h : ∀ (b f' : Bool) (h' : Heap), IsZ h' z TI TO t f' → Heap.SameBut z s.heap h' → Q b { s with heap := h' }) : wpAny (model prog w) A (Builtin.SmallTypes.ownedTupleIsFree (.ref z)) Q E s :=
  owned_free (l := [.bool false, .ref TI, .ref TO]) hz h
theorem enum_free {e it : Addr} {t : Option Addr} {f : Bool} {c : Int} {old : Value} {Q : Bool → Shared → Prop} (hz : IsEn s.heap e it t f c old)
    (h : ∀ (b f' : Bool) (h' : Heap), IsEn h' e it t f' c old → Heap.SameBut e s.heap h' → Q b { s with heap := h' }) : wpAny (model prog w) A (Builtin.SmallTypes.ownedTupleIsFree (.ref e)) Q E s :=
  owned_free (l := [.ref it, rawInt c, .none, old]) hz h
end

/-- a zip's step is told on the builtin itself; next and the drawing of a walk follow -/
theorem zip_nextOf {P : Program} {w : World} {A : Around} {E : Value → Shared → Prop} {s : Shared} {z TI TO : Addr} {t : Option Addr} {f : Bool} {Q : Value → Shared → Prop} (hz : IsZ s.heap z TI TO t f)
    (h : ∀ A' : Around, A'.handled = A.handled → wpAny (model P w) A' (Builtin.«zip.__next__» ⟨[.ref z], []⟩) (fun fin s' => ∃ v, fin = .done (.ret v) ∧ Q v s') E s) : wpAny (model P w) A (Builtin.SmallTypes.nextOf (.ref z)) Q E s := by
  have hT : s.TypeIs (.ref z) "zip" := ⟨_, hz, rfl⟩
  unfold Builtin.SmallTypes.nextOf
  refine wpAny_bind (wpAny_callSpecial?_slot (name := Str.ofString "__next__") hT F.slot_zip_next (wpAny_call_entry F.slot_zip_next hT F.entry_zip_next (wpAny_mono (h A.in1 rfl) (fun fin s' q => ?_) fun _ _ q => q) (F.args_zip_next_1 _)))
  obtain ⟨v, e, q⟩ := q
  exact ⟨v, e, wpAny_pure q⟩
theorem zip_pyNext {P : Program} {w : World} {A : Around} {E : Value → Shared → Prop} {s : Shared} {z TI TO : Addr} {t : Option Addr} {f : Bool} {Q : Option Value → Shared → Prop} (hz : IsZ s.heap z TI TO t f)
    (h : ∀ A' : Around, A'.handled = A.handled → wpAny (model P w) A' (Builtin.«zip.__next__» ⟨[.ref z], []⟩) (fun fin s' => ∃ v, fin = .done (.ret v) ∧ Q (some v) s') (fun e s' => ∃ a, e = .ref a ∧ (∃ o, s'.heap.get? a = some o ∧ o.cls = .type "StopIteration") ∧ Q none s') s) : wpAny (model P w) A (pyNext (.ref z)) Q E s := by
  have hT : s.TypeIs (.ref z) "zip" := ⟨_, hz, rfl⟩
  unfold pyNext
  refine wpAny_bind (wpAny_attempt (wpAny_callSpecial?_slot (name := Str.ofString "__next__") hT F.slot_zip_next (wpAny_call_entry F.slot_zip_next hT F.entry_zip_next (wpAny_mono (h A.in1 rfl) (fun fin s' q => ?_) fun e s' q => ?_) (F.args_zip_next_1 _))))
  · obtain ⟨v, e, q⟩ := q
    exact ⟨v, e, wpAny_pure q⟩
  · obtain ⟨a, rfl, ⟨o, ho, hc⟩, q⟩ := q
    exact wpAny_bind (wpAny_isInstance (T := "StopIteration") (b := true) ⟨o, ho, hc⟩ isSubtype_stop (wpAny_pure q))
theorem enum_pyNext {P : Program} {w : World} {A : Around} {E : Value → Shared → Prop} {s : Shared} {e it : Addr} {t : Option Addr} {f : Bool} {c : Int} {old : Value} {Q : Option Value → Shared → Prop} (hz : IsEn s.heap e it t f c old)
    (h : ∀ A' : Around, A'.handled = A.handled → wpAny (model P w) A' (Builtin.«enumerate.__next__» ⟨[.ref e], []⟩) (fun fin s' => ∃ v, fin = .done (.ret v) ∧ Q (some v) s') (fun e s' => ∃ a, e = .ref a ∧ (∃ o, s'.heap.get? a = some o ∧ o.cls = .type "StopIteration") ∧ Q none s') s) : wpAny (model P w) A (pyNext (.ref e)) Q E s := by
  have hT : s.TypeIs (.ref e) "enumerate" := ⟨_, hz, rfl⟩
  unfold pyNext
  refine wpAny_bind (wpAny_attempt (wpAny_callSpecial?_slot (name := Str.ofString "__next__") hT F.slot_enumerate_next (wpAny_call_entry F.slot_enumerate_next hT F.entry_enumerate_next (wpAny_mono (h A.in1 rfl) (fun fin s' q => ?_) fun e s' q => ?_) (F.args_enumerate_next_1 _))))
  · obtain ⟨v, e, q⟩ := q
    exact ⟨v, e, wpAny_pure q⟩
  · obtain ⟨a, rfl, ⟨o, ho, hc⟩, q⟩ := q
    exact wpAny_bind (wpAny_isInstance (T := "StopIteration") (b := true) ⟨o, ho, hc⟩ isSubtype_stop (wpAny_pure q))
/-- the two iterators drawn from, the zip's own records: all apart -/
structure Apart2 (z TI TO i1 i2 : Addr) (fp1 fp2 : List Addr) : Prop where
  tz : TI ≠ z
  oz : TO ≠ z
  to : TI ≠ TO
  z1 : z ∉ fp1
  z2 : z ∉ fp2
  t1 : TI ∉ fp1
  t2 : TI ∉ fp2
  o1 : TO ∉ fp1
  o2 : TO ∉ fp2
  d : ∀ b ∈ fp1, b ∉ fp2
abbrev Flat (J : It) : Prop := ∀ i H v H', J.yld i H v H' → H' = H
def ItZ2 (J1 J2 : It) : It :=
  ⟨fun i H => J1.go i H ∧ J2.go i H, fun i H v H' => ∃ T x y H2, J1.yld i H x H ∧ J2.yld i H y H2 ∧ H2 T = none ∧ v = .ref T ∧ H' = upd H2 T (.tup [x, y]), fun i H => J1.stop i H ∨ (J1.go i H ∧ J2.stop i H)⟩
abbrev Zst2 (z TI TO i1 i2 : Addr) (tn1 tn2 : Nat → Heap → Prop) (i : Nat) (h : Heap) : Prop :=
  (∃ t f, IsZ h z TI TO t f) ∧ IsPair h TI (.ref i1) (.ref i2) ∧ (∃ a b, IsPair h TO a b) ∧ tn1 i h ∧ tn2 i h
section
variable {P : Program} {w : World} {K : PySem.W.Frag} {J1 J2 : It} {fp1 fp2 : List Addr} {z TI TO i1 i2 : Addr} {tn1 tn2 : Nat → Heap → Prop}
theorem zip2_step (D1 : Drw P w K J1 fp1 i1 tn1) (D2 : Drw P w K J2 fp2 i2 tn2) (fl : Flat J1) (S : Apart2 z TI TO i1 i2 fp1 fp2) {X : Cx} (hP : X.prog = P) (hw : X.w = w) (hK : X.K = K) {A : Around} {i : Nat} {pins : List (Addr × Obj)} {s : Shared} {σ : L2.St} {H : Hp} {Q : Value → Shared → Prop} {E : Value → Shared → Prop}
    (I : Inv X pins σ H s) (hf : ∀ b ∈ z :: TI :: TO :: (fp1 ++ fp2), FpOk X pins H b) (st : Zst2 z TI TO i1 i2 tn1 tn2 i s.heap) (g1 : J1.go i H) (g2 : J2.go i H)
    (hQ : ∀ (T : Addr) (v : V) (s' : Shared) (H' : Hp), v = .ref T → Inv X pins σ H' s' → (ItZ2 J1 J2).yld i H v H' → Zst2 z TI TO i1 i2 tn1 tn2 (i + 1) s'.heap → s.heap.objs.size ≤ s'.heap.objs.size → (∀ b, b < s.heap.objs.size → H b = none → H' b = none) → (∀ b o, b ∉ z :: TI :: TO :: (fp1 ++ fp2) → s.heap.get? b = some o → s'.heap.get? b = some o) → Q (.ref T) s') :
    wpAny (model P w) A (Builtin.«zip.__next__» ⟨[.ref z], []⟩) (fun fin s' => ∃ v, fin = .done (.ret v) ∧ Q v s') E s := by
  obtain ⟨⟨t, f, hz⟩, hTI, ⟨a, b, hTO⟩, st1, st2⟩ := st
  have fz : FpOk X pins H z := hf z (by simp)
  have fO : FpOk X pins H TO := hf TO (by simp)
  have f1 : ∀ b ∈ fp1, FpOk X pins H b := fun b hb => hf b (by simp [hb])
  have f2 : ∀ b ∈ fp2, FpOk X pins H b := fun b hb => hf b (by simp [hb])
  have lz : z < s.heap.objs.size := Heap.lt_size hz
  have lO : TO < s.heap.objs.size := Heap.lt_size hTO
  show wpAny _ _ (field (.ref z) 2 >>= _) _ _ _
  refine rd hz (y := .bool false) ?_
  show wpAny _ _ (field (.ref z) 3 >>= _) _ _ _
  refine rd hz (y := .ref TI) ?_
  refine wpAny_bind (wpAny_seqItems hTI rfl ?_)
  refine wpAny_bind (zip_free hz fun fr f' h₁ hz₁ hs₁ => ?_)
  have I1 : Inv X pins σ H { s with heap := h₁ } := I.turnedL (t' := s.toks) (ch := [z]) (fun c o hc q => hs₁.extBut c o (by simpa using hc) q) (fun c hc => by rw [List.mem_singleton.mp hc]; exact fz)
  have hTO₁ : IsPair h₁ TO a b := hs₁.extBut _ _ S.oz hTO
  have hTI₁ : IsPair h₁ TI (.ref i1) (.ref i2) := hs₁.extBut _ _ S.tz hTI
  have st1₁ : tn1 i h₁ := D1.keep i _ _ st1 fun c hc o q => hs₁.extBut c o (fun e => S.z1 (e ▸ hc)) q
  have st2₁ : tn2 i h₁ := D2.keep i _ _ st2 fun c hc o q => hs₁.extBut c o (fun e => S.z2 (e ▸ hc)) q
  have sz₁ : h₁.objs.size = s.heap.objs.size := hs₁.1
  cases fr with
  | false =>
    simp only [Bool.false_eq_true, if_false]
    refine wpAny_bind ?_
    rw [← Array.forIn_toList]
    simp only [List.forIn_cons, List.forIn_nil]
    refine wpAny_bind (wpAny_bind (wpAny_holding ?_))
    refine wpAny_bind (D1.item X hP hw hK _ i pins _ σ H _ _ I1 f1 st1₁ g1 fun u1 v1 s2 H1 I2 r1 y1 n1 z1 fr1 k1 => wpAny_pure ?_)
    have e1 := fl i H v1 H1 y1
    subst e1
    refine wpAny_pure ?_
    refine wpAny_bind (wpAny_bind (wpAny_holding ?_))
    have st2₂ : tn2 i s2.heap := D2.keep i _ _ st2₁ fun c hc o q => k1 c o (fun e => S.d c e hc) q
    refine wpAny_bind (D2.item X hP hw hK _ i pins s2 σ H1 _ _ I2 f2 st2₂ g2 fun u2 v2 s3 H2 I3 r2 y2 n2 z2 fr2 k2 => wpAny_pure ?_)
    refine wpAny_pure (wpAny_pure ?_)
    have up : ∀ c o, c ∉ fp1 → c ∉ fp2 → h₁.get? c = some o → s3.heap.get? c = some o := fun c o c1 c2 q => k2 c o c2 (k1 c o c1 q)
    show wpAny _ _ (newTuple [u1, u2] >>= _) _ _ _
    refine wpAny_bind (wpAny_newTuple ?_)
    refine wpAny_pure ⟨_, rfl, ?_⟩
    have hT : (s3.heap.push { cls := .type "tuple", data := .seq #[u1, u2] }).get? s3.heap.objs.size = some { cls := .type "tuple", data := .seq #[u1, u2] } := Heap.get?_push_size _ rfl
    have new : ObjOk X.prog X.w (upd H2 s3.heap.objs.size (.tup [v1, v2])) (s3.heap.push { cls := .type "tuple", data := .seq #[u1, u2] }) s3.heap.objs.size (.tup [v1, v2]) :=
      ⟨by show 2 ≤ sizeLine; decide, [u1, u2], .cons r1 (.cons r2 .nil), ⟨_, hT, rfl, _, rfl⟩⟩
    have I4 := I3.turnedNew (t' := s3.toks) (ch := []) (fun c o _ q => Heap.get?_push_of_some _ q) (fun _ h => nomatch h) (Nat.le_refl _) new
    have q1 : s.heap.objs.size ≤ s2.heap.objs.size := by rw [← sz₁]; exact z1
    have q2 : s.heap.objs.size ≤ s3.heap.objs.size := Nat.le_trans q1 z2
    refine hQ s3.heap.objs.size _ _ _ rfl I4 ⟨_, v1, v2, H2, y1, y2, I3.hok.fresh (Nat.le_refl _), rfl, rfl⟩ ⟨⟨t, f', ?_⟩, ?_, ⟨a, b, ?_⟩, ?_, ?_⟩ (by show _ ≤ (Heap.push _ _).objs.size; rw [Heap.size_push]; exact Nat.le_succ_of_le q2) (fun c hc hn => ?_) fun c o hc q => ?_
    · exact Heap.get?_push_of_some _ (up _ _ S.z1 S.z2 hz₁)
    · exact Heap.get?_push_of_some _ (up _ _ S.t1 S.t2 hTI₁)
    · exact Heap.get?_push_of_some _ (up _ _ S.o1 S.o2 hTO₁)
    · exact D1.keep _ _ _ n1 fun c hc o q => Heap.get?_push_of_some _ (k2 c o (S.d c hc) q)
    · exact D2.keep _ _ _ n2 fun c hc o q => Heap.get?_push_of_some _ q
    · rw [upd_ne (Nat.ne_of_lt (Nat.lt_of_lt_of_le hc q2))]
      exact fr2 c (Nat.lt_of_lt_of_le hc q1) hn
    · have hc : c ≠ z ∧ c ≠ TI ∧ c ≠ TO ∧ c ∉ fp1 ∧ c ∉ fp2 := by simpa using hc
      exact Heap.get?_push_of_some _ (up c o hc.2.2.2.1 hc.2.2.2.2 (hs₁.extBut c o hc.1 q))
  | true =>
    simp only [if_true]
    refine wpAny_bind (wpAny_rule ?_)
    refine rd hz₁ (y := .ref TO) ?_
    refine wr hz₁ (by simp) fun h₂ hz₂ hs₂ => ?_
    have I2 : Inv X pins σ H { s with heap := h₂ } := Inv.turnedL (s := { s with heap := h₁ }) (t' := s.toks) (ch := [z]) I1 (fun c o hc q => hs₂.extBut c o (by simpa using hc) q) (fun c hc => by rw [List.mem_singleton.mp hc]; exact fz)
    have sz₂ : h₂.objs.size = s.heap.objs.size := hs₂.1.trans sz₁
    refine wpAny_bind ?_
    simp only [List.forIn_cons, List.zipIdx_cons, List.forIn_nil, List.zipIdx_nil]
    refine wpAny_bind (wpAny_bind (wpAny_onRaise ?_))
    refine wpAny_bind (D1.item X hP hw hK _ i pins _ σ H _ _ I2 f1 (D1.keep i _ _ st1₁ fun c hc o q => hs₂.extBut c o (fun e => S.z1 (e ▸ hc)) q) g1 fun u1 v1 s2 H1 I3 r1 y1 n1 z1 fr1 k1 => wpAny_pure ?_)
    have e1 := fl i H v1 H1 y1
    subst e1
    have hTO₂ : IsPair s2.heap TO a b := k1 _ _ S.o1 (hs₂.extBut _ _ S.oz hTO₁)
    refine wpAny_bind (wpAny_seqItems hTO₂ rfl ?_)
    refine up2 hTO₂ fun h₃ hTO₃ hs₃ => ?_
    replace hTO₃ : IsPair h₃ TO u1 b := hTO₃
    refine wpAny_bind (wpAny_letGo (wpAny_pure ?_))
    have I4 : Inv X pins σ H1 { s2 with heap := h₃ } := I3.turnedL (t' := s2.toks) (ch := [TO]) (fun c o hc q => hs₃.extBut c o (by simpa using hc) q) (fun c hc => by rw [List.mem_singleton.mp hc]; exact fO)
    have st2₃ : tn2 i h₃ := D2.keep i _ _ st2₁ fun c hc o q => hs₃.extBut c o (fun e => S.o2 (e ▸ hc)) (k1 c o (fun e => S.d c e hc) (hs₂.extBut c o (fun e => S.z2 (e ▸ hc)) q))
    refine wpAny_bind (wpAny_bind (wpAny_onRaise ?_))
    refine wpAny_bind (D2.item X hP hw hK _ i pins _ σ H1 _ _ I4 f2 st2₃ g2 fun u2 v2 s3 H2 I5 r2 y2 n2 z2 fr2 k2 => wpAny_pure ?_)
    have hTO₄ : IsPair s3.heap TO u1 b := k2 _ _ S.o2 hTO₃
    refine wpAny_bind (wpAny_seqItems hTO₄ rfl ?_)
    refine up2 hTO₄ fun h₅ hTO₅ hs₅ => ?_
    replace hTO₅ : IsPair h₅ TO u1 u2 := hTO₅
    refine wpAny_bind (wpAny_letGo ?_)
    refine wpAny_pure (wpAny_pure ?_)
    have I6 : Inv X pins σ H2 { s3 with heap := h₅ } := I5.turnedL (t' := s3.toks) (ch := [TO]) (fun c o hc q => hs₅.extBut c o (by simpa using hc) q) (fun c hc => by
      rw [List.mem_singleton.mp hc]
      exact FpOk.to fO (fr2 _ (by show TO < h₃.objs.size; rw [hs₃.1]; exact Nat.lt_of_lt_of_le (by rw [← sz₂] at lO; exact lO) z1) fO.1))
    refine wpAny_bind (wpAny_seqItems hTO₅ rfl ?_)
    show wpAny _ _ (newTuple [u1, u2] >>= _) _ _ _
    refine wpAny_bind (wpAny_newTuple ?_)
    have up : ∀ c o, c ≠ z → c ≠ TO → c ∉ fp1 → c ∉ fp2 → h₁.get? c = some o → h₅.get? c = some o := fun c o cz cO c1 c2 q => hs₅.extBut _ _ cO (k2 c o c2 (hs₃.extBut _ _ cO (k1 c o c1 (hs₂.extBut _ _ cz q))))
    have hz₅ : h₅.get? z = some { cls := .type "zip", dict := none, data := .fields #[.ellipsis, .bool f', .bool false, .ref TI, .ref TO], slots := #[] } :=
      hs₅.extBut _ _ S.oz.symm (k2 _ _ S.z2 (hs₃.extBut _ _ S.oz.symm (k1 _ _ S.z1 hz₂)))
    have q1 : s.heap.objs.size ≤ s2.heap.objs.size := by rw [← sz₂]; exact z1
    have q1' : s.heap.objs.size ≤ h₃.objs.size := by rw [hs₃.1]; exact q1
    have q2 : s.heap.objs.size ≤ h₅.objs.size := by rw [hs₅.1]; exact Nat.le_trans q1' z2
    have lz₅ : z < h₅.objs.size := Nat.lt_of_lt_of_le lz q2
    show wpAny _ _ (Builtin.SmallTypes.ownedTupleHandOut (.ref z) (.ref h₅.objs.size) >>= _) _ _ _
    refine wpAny_bind ?_
    unfold Builtin.SmallTypes.ownedTupleHandOut
    have hz₆ : (h₅.push { cls := .type "tuple", data := .seq #[u1, u2] }).get? z = some { cls := .type "zip", dict := none, data := .fields #[.ellipsis, .bool f', .bool false, .ref TI, .ref TO], slots := #[] } := Heap.get?_push_of_some _ hz₅
    refine wr hz₆ (by simp) fun h₇ hz₇ hs₇ => ?_
    refine wpAny_setField_rec hz₇ (by simp) fun h₈ (hz₈ : IsZ h₈ z TI TO (some h₅.objs.size) false) hs₈ => ?_
    have up8 : ∀ c o, c ≠ z → h₅.get? c = some o → h₈.get? c = some o := fun c o c1 e => hs₈.extBut _ _ c1 (hs₇.extBut _ _ c1 (Heap.get?_push_of_some _ e))
    have hT : h₈.get? h₅.objs.size = some { cls := .type "tuple", data := .seq #[u1, u2] } := hs₈.extBut _ _ (Nat.ne_of_gt lz₅) (hs₇.extBut _ _ (Nat.ne_of_gt lz₅) (Heap.get?_push_size _ rfl))
    refine wpAny_pure ⟨_, rfl, ?_⟩
    have new : ObjOk X.prog X.w (upd H2 h₅.objs.size (.tup [v1, v2])) h₈ h₅.objs.size (.tup [v1, v2]) :=
      ⟨by show 2 ≤ sizeLine; decide, [u1, u2], .cons r1 (.cons r2 .nil), ⟨_, hT, rfl, _, rfl⟩⟩
    have fz2 : FpOk X pins H2 z := FpOk.to fz (fr2 _ (Nat.lt_of_lt_of_le lz q1') fz.1)
    have I8 : Inv X pins σ _ { s3 with heap := h₈ } := I6.turnedNew (t' := s3.toks) (ch := [z]) (fun c o hc q => up8 c o (by simpa using hc) q) (fun c hc => by rw [List.mem_singleton.mp hc]; exact fz2) (Nat.le_refl _) new
    refine hQ h₅.objs.size _ _ _ rfl I8 ⟨_, v1, v2, H2, y1, y2, I6.hok.fresh (Nat.le_refl _), rfl, rfl⟩ ⟨⟨_, _, hz₈⟩, ?_, ⟨u1, u2, ?_⟩, ?_, ?_⟩ (by show _ ≤ h₈.objs.size; rw [hs₈.1, hs₇.1, Heap.size_push]; exact Nat.le_succ_of_le q2) (fun c hc hn => ?_) fun c o hc q => ?_
    · exact up8 _ _ S.tz (up _ _ S.tz S.to S.t1 S.t2 hTI₁)
    · exact up8 _ _ S.oz hTO₅
    · exact D1.keep _ _ _ n1 fun c hc o q => up8 c o (fun e => S.z1 (e ▸ hc)) (hs₅.extBut c o (fun e => S.o1 (e ▸ hc)) (k2 c o (S.d c hc) (hs₃.extBut c o (fun e => S.o1 (e ▸ hc)) q)))
    · exact D2.keep _ _ _ n2 fun c hc o q => up8 c o (fun e => S.z2 (e ▸ hc)) (hs₅.extBut c o (fun e => S.o2 (e ▸ hc)) q)
    · rw [upd_ne (Nat.ne_of_lt (Nat.lt_of_lt_of_le hc q2))]
      exact fr2 c (Nat.lt_of_lt_of_le hc q1') hn
    · have hc : c ≠ z ∧ c ≠ TI ∧ c ≠ TO ∧ c ∉ fp1 ∧ c ∉ fp2 := by simpa using hc
      exact up8 c o hc.1 (up c o hc.1 hc.2.2.1 hc.2.2.2.1 hc.2.2.2.2 (hs₁.extBut c o hc.1 q))
end
end Q

namespace Q
open PySem PySem.Spec PyProof.Rows L2
variable [Gh : Ghost]
section
variable {P : Program} {w : World} {K : PySem.W.Frag} {J J1 J2 : It} {fp fp1 fp2 : List Addr} {z TI TO i1 i2 e it : Addr} {tn tn1 tn2 : Nat → Heap → Prop}
theorem zip2_stop (D1 : Drw P w K J1 fp1 i1 tn1) (D2 : Drw P w K J2 fp2 i2 tn2) (fl : Flat J1) (S : Apart2 z TI TO i1 i2 fp1 fp2) {X : Cx} (hP : X.prog = P) (hw : X.w = w) (hK : X.K = K) {A : Around} (hA : A.handled = none) {i : Nat} {pins : List (Addr × Obj)} {s : Shared} {σ : L2.St} {H : Hp} {Q : Fin → Shared → Prop} {E : Value → Shared → Prop}
    (I : Inv X pins σ H s) (hf : ∀ b ∈ z :: TI :: TO :: (fp1 ++ fp2), FpOk X pins H b) (st : Zst2 z TI TO i1 i2 tn1 tn2 i s.heap) (g : J1.stop i H ∨ (J1.go i H ∧ J2.stop i H))
    (hE : ∀ (e : Addr) (s' : Shared), Inv X pins σ H s' → (∃ o, s'.heap.get? e = some o ∧ o.cls = .type "StopIteration") → (∀ b o, b ∉ z :: TI :: TO :: (fp1 ++ fp2) → s.heap.get? b = some o → s'.heap.get? b = some o) → E (.ref e) s') :
    wpAny (model P w) A (Builtin.«zip.__next__» ⟨[.ref z], []⟩) Q E s := by
  obtain ⟨⟨t, f, hz⟩, hTI, ⟨a, b, hTO⟩, st1, st2⟩ := st
  have fz : FpOk X pins H z := hf z (by simp)
  have fO : FpOk X pins H TO := hf TO (by simp)
  have f1 : ∀ b ∈ fp1, FpOk X pins H b := fun b hb => hf b (by simp [hb])
  have f2 : ∀ b ∈ fp2, FpOk X pins H b := fun b hb => hf b (by simp [hb])
  show wpAny _ _ (field (.ref z) 2 >>= _) _ _ _
  refine rd hz (y := .bool false) ?_
  show wpAny _ _ (field (.ref z) 3 >>= _) _ _ _
  refine rd hz (y := .ref TI) ?_
  refine wpAny_bind (wpAny_seqItems hTI rfl ?_)
  refine wpAny_bind (zip_free hz fun fr f' h₁ hz₁ hs₁ => ?_)
  have I1 : Inv X pins σ H { s with heap := h₁ } := I.turnedL (t' := s.toks) (ch := [z]) (fun c o hc q => hs₁.extBut c o (by simpa using hc) q) (fun c hc => by rw [List.mem_singleton.mp hc]; exact fz)
  have hTO₁ : IsPair h₁ TO a b := hs₁.extBut _ _ S.oz hTO
  have st1₁ : tn1 i h₁ := D1.keep i _ _ st1 fun c hc o q => hs₁.extBut c o (fun e => S.z1 (e ▸ hc)) q
  have st2₁ : tn2 i h₁ := D2.keep i _ _ st2 fun c hc o q => hs₁.extBut c o (fun e => S.z2 (e ▸ hc)) q
  cases fr with
  | false =>
    simp only [Bool.false_eq_true, if_false]
    refine wpAny_bind ?_
    rw [← Array.forIn_toList]
    simp only [List.forIn_cons, List.forIn_nil]
    refine wpAny_bind (wpAny_bind (wpAny_holding ?_))
    rcases g with g | ⟨g1, g2⟩
    · refine wpAny_bind (D1.done X hP hw hK _ hA i pins _ σ H _ _ I1 f1 st1₁ g fun e s2 I2 he k1 => hE e s2 I2 he fun c o hc q => ?_)
      have hc : c ≠ z ∧ c ≠ TI ∧ c ≠ TO ∧ c ∉ fp1 ∧ c ∉ fp2 := by simpa using hc
      exact k1 c o hc.2.2.2.1 (hs₁.extBut c o hc.1 q)
    · refine wpAny_bind (D1.item X hP hw hK _ i pins _ σ H _ _ I1 f1 st1₁ g1 fun u1 v1 s2 H1 I2 r1 y1 n1 z1 fr1 k1 => wpAny_pure ?_)
      have e1 := fl i H v1 H1 y1
      subst e1
      refine wpAny_pure ?_
      refine wpAny_bind (wpAny_bind (wpAny_holding ?_))
      have st2₂ : tn2 i s2.heap := D2.keep i _ _ st2₁ fun c hc o q => k1 c o (fun e => S.d c e hc) q
      refine wpAny_bind (D2.done X hP hw hK _ hA i pins s2 σ H1 _ _ I2 f2 st2₂ g2 fun e s3 I3 he k2 => hE e s3 I3 he fun c o hc q => ?_)
      have hc : c ≠ z ∧ c ≠ TI ∧ c ≠ TO ∧ c ∉ fp1 ∧ c ∉ fp2 := by simpa using hc
      exact k2 c o hc.2.2.2.2 (k1 c o hc.2.2.2.1 (hs₁.extBut c o hc.1 q))
  | true =>
    simp only [if_true]
    refine wpAny_bind (wpAny_rule ?_)
    refine rd hz₁ (y := .ref TO) ?_
    refine wr hz₁ (by simp) fun h₂ hz₂ hs₂ => ?_
    have I2 : Inv X pins σ H { s with heap := h₂ } := Inv.turnedL (s := { s with heap := h₁ }) (t' := s.toks) (ch := [z]) I1 (fun c o hc q => hs₂.extBut c o (by simpa using hc) q) (fun c hc => by rw [List.mem_singleton.mp hc]; exact fz)
    refine wpAny_bind ?_
    simp only [List.forIn_cons, List.zipIdx_cons, List.forIn_nil, List.zipIdx_nil]
    refine wpAny_bind (wpAny_bind (wpAny_onRaise ?_))
    have st1₂ : tn1 i h₂ := D1.keep i _ _ st1₁ fun c hc o q => hs₂.extBut c o (fun e => S.z1 (e ▸ hc)) q
    rcases g with g | ⟨g1, g2⟩
    · refine wpAny_bind (D1.done X hP hw hK _ hA i pins _ σ H _ _ I2 f1 st1₂ g fun e s2 I3 he k1 => ?_)
      obtain ⟨oe, hoe, hce⟩ := he
      have hz₃ := k1 _ _ S.z1 hz₂
      have hez : e ≠ z := fun x => by subst x; rw [hz₃] at hoe; cases hoe; simp at hce
      refine wpAny_setField_rec hz₃ (by simp) fun h₃ _ hs₃ => hE e _ (I3.turnedL (t' := s2.toks) (ch := [z]) (fun c o hc q => hs₃.extBut c o (by simpa using hc) q) (fun c hc => by rw [List.mem_singleton.mp hc]; exact fz)) ⟨oe, hs₃.extBut _ _ hez hoe, hce⟩ fun c o hc q => ?_
      have hc : c ≠ z ∧ c ≠ TI ∧ c ≠ TO ∧ c ∉ fp1 ∧ c ∉ fp2 := by simpa using hc
      exact hs₃.extBut c o hc.1 (k1 c o hc.2.2.2.1 (hs₂.extBut c o hc.1 (hs₁.extBut c o hc.1 q)))
    · refine wpAny_bind (D1.item X hP hw hK _ i pins _ σ H _ _ I2 f1 st1₂ g1 fun u1 v1 s2 H1 I3 r1 y1 n1 z1 fr1 k1 => wpAny_pure ?_)
      have e1 := fl i H v1 H1 y1
      subst e1
      have hTO₂ : IsPair s2.heap TO a b := k1 _ _ S.o1 (hs₂.extBut _ _ S.oz hTO₁)
      refine wpAny_bind (wpAny_seqItems hTO₂ rfl ?_)
      refine up2 hTO₂ fun h₃ hTO₃ hs₃ => ?_
      refine wpAny_bind (wpAny_letGo (wpAny_pure ?_))
      have I4 : Inv X pins σ H1 { s2 with heap := h₃ } := I3.turnedL (t' := s2.toks) (ch := [TO]) (fun c o hc q => hs₃.extBut c o (by simpa using hc) q) (fun c hc => by rw [List.mem_singleton.mp hc]; exact fO)
      have st2₃ : tn2 i h₃ := D2.keep i _ _ st2₁ fun c hc o q => hs₃.extBut c o (fun e => S.o2 (e ▸ hc)) (k1 c o (fun e => S.d c e hc) (hs₂.extBut c o (fun e => S.z2 (e ▸ hc)) q))
      refine wpAny_bind (wpAny_bind (wpAny_onRaise ?_))
      refine wpAny_bind (D2.done X hP hw hK _ hA i pins _ σ H1 _ _ I4 f2 st2₃ g2 fun e s3 I5 he k2 => ?_)
      obtain ⟨oe, hoe, hce⟩ := he
      have hz₃ := k2 _ _ S.z2 (hs₃.extBut _ _ S.oz.symm (k1 _ _ S.z1 hz₂))
      have hez : e ≠ z := fun x => by subst x; rw [hz₃] at hoe; cases hoe; simp at hce
      refine wpAny_setField_rec hz₃ (by simp) fun h₅ _ hs₅ => hE e _ (I5.turnedL (t' := s3.toks) (ch := [z]) (fun c o hc q => hs₅.extBut c o (by simpa using hc) q) (fun c hc => by rw [List.mem_singleton.mp hc]; exact fz)) ⟨oe, hs₅.extBut _ _ hez hoe, hce⟩ fun c o hc q => ?_
      have hc : c ≠ z ∧ c ≠ TI ∧ c ≠ TO ∧ c ∉ fp1 ∧ c ∉ fp2 := by simpa using hc
      exact hs₅.extBut c o hc.1 (k2 c o hc.2.2.2.2 (hs₃.extBut c o hc.2.2.1 (k1 c o hc.2.2.2.1 (hs₂.extBut c o hc.1 (hs₁.extBut c o hc.1 q)))))
/-! ### enumerate -/
def ItEn (c : Int) (J : It) : It :=
  ⟨J.go, fun i H v H' => ∃ T x H2, J.yld i H x H2 ∧ H2 T = none ∧ v = .ref T ∧ H' = upd H2 T (.tup [.int (c + (i : Nat)), x]), J.stop⟩
abbrev Est (e it : Addr) (c : Int) (tn : Nat → Heap → Prop) (i : Nat) (h : Heap) : Prop := (∃ t f old, IsEn h e it t f (c + (i : Nat)) old) ∧ tn i h
theorem enum_step {c : Int} (D : Drw P w K J fp it tn) (ne : e ∉ fp) {X : Cx} (hP : X.prog = P) (hw : X.w = w) (hK : X.K = K) {A : Around} {i : Nat} {pins : List (Addr × Obj)} {s : Shared} {σ : L2.St} {H : Hp} {Q : Value → Shared → Prop} {E : Value → Shared → Prop}
    (I : Inv X pins σ H s) (hf : ∀ b ∈ e :: fp, FpOk X pins H b) (st : Est e it c tn i s.heap) (g : J.go i H)
    (hQ : ∀ (T : Addr) (v : V) (s' : Shared) (H' : Hp), v = .ref T → Inv X pins σ H' s' → (ItEn c J).yld i H v H' → Est e it c tn (i + 1) s'.heap → s.heap.objs.size ≤ s'.heap.objs.size → (∀ b, b < s.heap.objs.size → H b = none → H' b = none) → (∀ b o, b ∉ e :: fp → s.heap.get? b = some o → s'.heap.get? b = some o) → Q (.ref T) s') :
    wpAny (model P w) A (Builtin.«enumerate.__next__» ⟨[.ref e], []⟩) (fun fin s' => ∃ v, fin = .done (.ret v) ∧ Q v s') E s := by
  obtain ⟨⟨t, f, old, he⟩, hs⟩ := st
  have fe : FpOk X pins H e := hf e (by simp)
  have le : e < s.heap.objs.size := Heap.lt_size he
  show wpAny _ _ (field (.ref e) 2 >>= _) _ _ _
  refine rd he (y := .ref it) ?_
  refine wpAny_bind (D.item X hP hw hK _ i pins _ σ H _ _ I (fun b hb => hf b (by simp [hb])) hs g fun u v s1 H1 I1 r1 y1 n1 z1 fr1 k1 => ?_)
  obtain ⟨hp1, g1, d1, tk1, os1⟩ := s1
  have he₁ := k1 _ _ ne he
  show wpAny _ _ (field (.ref e) 3 >>= _) _ _ _
  refine rd he₁ (y := rawInt (c + (i : Nat))) ?_
  show wpAny _ _ (field (.ref e) 4 >>= _) _ _ _
  refine rd he₁ (y := .none) ?_
  show wpAny _ _ (mkInt (c + (i : Nat)) >>= _) _ _ _
  refine wpAny_bind (wpAny_mkInt ?_)
  show wpAny _ _ (setField (.ref e) 3 (rawInt (c + (i : Nat) + 1)) >>= _) _ _ ⟨hp1, g1, d1, tk1 + 1, os1⟩
  refine wr he₁ (by simp) fun h₂ he₂ hs₂ => ?_
  replace hs₂ : Heap.SameBut e hp1 h₂ := hs₂
  replace he₂ : IsEn h₂ e it t f (c + (i : Nat) + 1) old := he₂
  show wpAny _ _ (setField (.ref e) 4 .none >>= _) _ _ ⟨h₂, g1, d1, tk1 + 1, os1⟩
  refine wr he₂ (by simp) fun h₃ he₃ hs₃ => ?_
  replace hs₃ : Heap.SameBut e h₂ h₃ := hs₃
  replace he₃ : IsEn h₃ e it t f (c + (i : Nat) + 1) old := he₃
  show wpAny _ _ (newTuple [.int (c + (i : Nat)) tk1, u] >>= _) _ _ ⟨h₃, g1, d1, tk1 + 1, os1⟩
  refine wpAny_bind (wpAny_newTuple ?_)
  have sz₃ : h₃.objs.size = hp1.objs.size := by rw [hs₃.1, hs₂.1]
  have hT₄ : (h₃.push { cls := .type "tuple", data := .seq #[.int (c + (i : Nat)) tk1, u] }).get? h₃.objs.size = some { cls := .type "tuple", data := .seq #[.int (c + (i : Nat)) tk1, u] } := Heap.get?_push_size _ rfl
  have he₄ : IsEn (h₃.push { cls := .type "tuple", data := .seq #[.int (c + (i : Nat)) tk1, u] }) e it t f (c + (i : Nat) + 1) old := Heap.get?_push_of_some _ he₃
  have z1 : s.heap.objs.size ≤ hp1.objs.size := z1
  have le₃ : e < h₃.objs.size := by rw [sz₃]; exact Nat.lt_of_lt_of_le le z1
  have sz₄ : (h₃.push { cls := .type "tuple", data := .seq #[.int (c + (i : Nat)) tk1, u] }).objs.size = h₃.objs.size + 1 := Heap.size_push ..
  have up4 : ∀ b o, b ≠ e → hp1.get? b = some o → (h₃.push { cls := .type "tuple", data := .seq #[.int (c + (i : Nat)) tk1, u] }).get? b = some o := fun b o hb q => Heap.get?_push_of_some _ (hs₃.extBut b o hb (hs₂.extBut b o hb q))
  generalize hh : h₃.push { cls := .type "tuple", data := .seq #[.int (c + (i : Nat)) tk1, u] } = h₄ at he₄ hT₄ up4 sz₄
  have fin : ∀ (h₈ : Heap) (t8 : Option Addr) (f8 : Bool) (old8 : Value), IsEn h₈ e it t8 f8 (c + (i : Nat) + 1) old8 → h₈.objs.size = h₄.objs.size → (∀ b o, b ≠ e → h₄.get? b = some o → h₈.get? b = some o) → Q (.ref h₃.objs.size) ⟨h₈, g1, d1, tk1 + 1, os1⟩ := by
    intro h₈ t8 f8 old8 he8 sz8 up8
    have hT : h₈.get? h₃.objs.size = some { cls := .type "tuple", data := .seq #[.int (c + (i : Nat)) tk1, u] } := up8 _ _ (Nat.ne_of_gt le₃) hT₄
    have new : ObjOk X.prog X.w (upd H1 h₃.objs.size (.tup [.int (c + (i : Nat)), v])) h₈ h₃.objs.size (.tup [.int (c + (i : Nat)), v]) :=
      ⟨by show 2 ≤ sizeLine; decide, [.int (c + (i : Nat)) tk1, u], .cons ⟨_, rfl⟩ (.cons r1 .nil), ⟨_, hT, rfl, _, rfl⟩⟩
    have lt1 : hp1.objs.size ≤ h₃.objs.size := by rw [sz₃]; exact Nat.le_refl _
    have I8 := I1.turnedNew (t' := tk1 + 1) (h' := h₈) (ch := [e]) (fun b o hb q => up8 b o (by simpa using hb) (up4 b o (by simpa using hb) q)) (fun b hb => by rw [List.mem_singleton.mp hb]; exact FpOk.to fe (fr1 _ le fe.1)) lt1 new
    refine hQ h₃.objs.size _ _ _ rfl I8 ⟨_, v, H1, y1, I1.hok.fresh lt1, rfl, rfl⟩ ⟨⟨t8, f8, old8, ?_⟩, ?_⟩ ?_ (fun b hb hn => ?_) fun b o hb q => ?_
    · have e1 : c + ((i + 1 : Nat) : Int) = c + (i : Nat) + 1 := by omega
      rw [e1]
      exact he8
    · exact D.keep _ _ _ n1 fun b hb o q => up8 b o (fun z => ne (z ▸ hb)) (up4 b o (fun z => ne (z ▸ hb)) q)
    · show s.heap.objs.size ≤ h₈.objs.size
      rw [sz8, sz₄, sz₃]
      exact Nat.le_succ_of_le z1
    · rw [upd_ne (Nat.ne_of_lt (Nat.lt_of_lt_of_le hb (by rw [sz₃]; exact z1)))]
      exact fr1 b hb hn
    · have hb : b ≠ e ∧ b ∉ fp := by simpa using hb
      exact up8 b o hb.1 (up4 b o hb.1 (k1 b o hb.2 q))
  show wpAny _ _ (Builtin.SmallTypes.ownedTupleIsFree (.ref e) >>= _) _ _ ⟨h₄, g1, d1, tk1 + 1, os1⟩
  refine wpAny_bind (enum_free (s := ⟨h₄, g1, d1, tk1 + 1, os1⟩) he₄ fun fr f' h₅ he₅ hs₅ => ?_)
  replace hs₅ : Heap.SameBut e h₄ h₅ := hs₅
  cases fr with
  | false =>
    simp only [Bool.false_eq_true, if_false]
    exact wpAny_pure ⟨_, rfl, fin h₅ _ _ _ he₅ hs₅.1 fun b o hb q => hs₅.extBut b o hb q⟩
  | true =>
    simp only [if_true]
    refine wpAny_bind (wpAny_rule ?_)
    refine rd he₅ (y := old) ?_
    refine wr he₅ (by simp) fun h₆ he₆ hs₆ => ?_
    replace hs₆ : Heap.SameBut e h₅ h₆ := hs₆
    replace he₆ : IsEn h₆ e it t f' (c + (i : Nat) + 1) u := he₆
    show wpAny _ _ (Builtin.SmallTypes.ownedTupleHandOut (.ref e) (.ref h₃.objs.size) >>= _) _ _ ⟨h₆, g1, d1, tk1 + 1, os1⟩
    refine wpAny_bind ?_
    unfold Builtin.SmallTypes.ownedTupleHandOut
    refine wr he₆ (by simp) fun h₇ he₇ hs₇ => ?_
    replace hs₇ : Heap.SameBut e h₆ h₇ := hs₇
    replace he₇ : IsEn h₇ e it (some h₃.objs.size) f' (c + (i : Nat) + 1) u := he₇
    refine wpAny_setField_rec he₇ (by simp) fun h₈ he₈ hs₈ => ?_
    replace hs₈ : Heap.SameBut e h₇ h₈ := hs₈
    replace he₈ : IsEn h₈ e it (some h₃.objs.size) false (c + (i : Nat) + 1) u := he₈
    exact wpAny_bind (wpAny_letGo (wpAny_pure ⟨_, rfl, fin h₈ _ _ _ he₈ (by rw [hs₈.1, hs₇.1, hs₆.1, hs₅.1]) fun b o hb q => hs₈.extBut b o hb (hs₇.extBut b o hb (hs₆.extBut b o hb (hs₅.extBut b o hb q)))⟩))
theorem enum_stop {c : Int} (D : Drw P w K J fp it tn) {X : Cx} (hP : X.prog = P) (hw : X.w = w) (hK : X.K = K) {A : Around} (hA : A.handled = none) {i : Nat} {pins : List (Addr × Obj)} {s : Shared} {σ : L2.St} {H : Hp} {Q : Fin → Shared → Prop} {E : Value → Shared → Prop}
    (I : Inv X pins σ H s) (hf : ∀ b ∈ e :: fp, FpOk X pins H b) (st : Est e it c tn i s.heap) (g : J.stop i H)
    (hE : ∀ (e : Addr) (s' : Shared), Inv X pins σ H s' → (∃ o, s'.heap.get? e = some o ∧ o.cls = .type "StopIteration") → E (.ref e) s') :
    wpAny (model P w) A (Builtin.«enumerate.__next__» ⟨[.ref e], []⟩) Q E s := by
  obtain ⟨⟨t, f, old, he⟩, hs⟩ := st
  show wpAny _ _ (field (.ref e) 2 >>= _) _ _ _
  refine rd he (y := .ref it) ?_
  exact wpAny_bind (D.done X hP hw hK _ hA i pins _ σ H _ _ I (fun b hb => hf b (by simp [hb])) hs g fun x s' I' hx _ => hE x s' I' hx)
end
end Q

namespace Q
open PySem PySem.Spec PyProof.Rows L2
variable [Gh : Ghost]
section
variable {prog : Program} {w : World} {A : Around} {E : Value → Shared → Prop} {s : Shared}
theorem go_zip {tg : Expr} {z TI TO u : Addr} {t : Option Addr} {f : Bool} {Q : Unit → Shared → Prop} (hz : IsZ s.heap z TI TO t f)
    (h : ∀ t' h', IsZ h' z TI TO t' f → Heap.SameBut z s.heap h' → Q () { s with heap := h' }) : wpAny (model prog w) A (letOwnedTupleGo tg (.ref z) (.ref u)) Q E s := by
  have main : wpAny (model prog w) A (do
      let o ← load z
      match o.cls, o.data with
      | .type n, .fields vs =>
        if ["enumerate", "zip", "dict_itemiterator", "dict_reverseitemiterator", "odict_iterator", "itertools.zip_longest", "itertools.pairwise"].contains n && vs[0]? == some (rawInt u) then
          rule "for.unpacks-the-owned-tuple"
          updateField z 0 .none
      | _, _ => pure ()) Q E s := by
    refine wpAny_bind (wpAny_load hz ?_)
    refine wpAny_ite ?_
    split
    · refine wpAny_bind (wpAny_rule ?_)
      show wpAny _ A (setField (.ref z) 0 .none) Q E s
      exact wpAny_setField_rec hz (by simp) fun h' q1 q2 => h none h' q1 q2
    · exact wpAny_pure (h t s.heap hz (Heap.SameBut.refl _ _))
  unfold letOwnedTupleGo
  cases tg <;> first
    | exact wpAny_pure (h t s.heap hz (Heap.SameBut.refl _ _))
    | exact main
theorem go_enum {tg : Expr} {e it u : Addr} {t : Option Addr} {f : Bool} {c : Int} {old : Value} {Q : Unit → Shared → Prop} (hz : IsEn s.heap e it t f c old)
    (h : ∀ t' h', IsEn h' e it t' f c old → Heap.SameBut e s.heap h' → Q () { s with heap := h' }) : wpAny (model prog w) A (letOwnedTupleGo tg (.ref e) (.ref u)) Q E s := by
  have main : wpAny (model prog w) A (do
      let o ← load e
      match o.cls, o.data with
      | .type n, .fields vs =>
        if ["enumerate", "zip", "dict_itemiterator", "dict_reverseitemiterator", "odict_iterator", "itertools.zip_longest", "itertools.pairwise"].contains n && vs[0]? == some (rawInt u) then
          rule "for.unpacks-the-owned-tuple"
          updateField e 0 .none
      | _, _ => pure ()) Q E s := by
    refine wpAny_bind (wpAny_load hz ?_)
    refine wpAny_ite ?_
    split
    · refine wpAny_bind (wpAny_rule ?_)
      show wpAny _ A (setField (.ref e) 0 .none) Q E s
      exact wpAny_setField_rec hz (by simp) fun h' q1 q2 => h none h' q1 q2
    · exact wpAny_pure (h t s.heap hz (Heap.SameBut.refl _ _))
  unfold letOwnedTupleGo
  cases tg <;> first
    | exact wpAny_pure (h t s.heap hz (Heap.SameBut.refl _ _))
    | exact main
theorem zip_iter {z TI TO : Addr} {t : Option Addr} {f : Bool} {Q : Value → Shared → Prop} (hz : IsZ s.heap z TI TO t f) (h : Q (.ref z) s) : wpAny (model prog w) A (pyIter (.ref z)) Q E s := by
  have hT : s.TypeIs (.ref z) "zip" := ⟨_, hz, rfl⟩
  refine wpAny_pyIter_slot hT F.slot_zip_iter (wpAny_call_entry F.slot_zip_iter hT F.entry_zip_iter ?_ (F.args_zip_iter_1 _))
  show wpAny _ _ (ret (.ref z)) _ _ s
  exact wpAny_pure ⟨_, rfl, "zip", _, hT, F.slot_zip_next.lookup, h⟩
theorem enum_iter {e it : Addr} {t : Option Addr} {f : Bool} {c : Int} {old : Value} {Q : Value → Shared → Prop} (hz : IsEn s.heap e it t f c old) (h : Q (.ref e) s) : wpAny (model prog w) A (pyIter (.ref e)) Q E s := by
  have hT : s.TypeIs (.ref e) "enumerate" := ⟨_, hz, rfl⟩
  refine wpAny_pyIter_slot hT F.slot_enumerate_iter (wpAny_call_entry F.slot_enumerate_iter hT F.entry_enumerate_iter ?_ (F.args_enumerate_iter_1 _))
  show wpAny _ _ (ret (.ref e)) _ _ s
  exact wpAny_pure ⟨_, rfl, "enumerate", _, hT, F.slot_enumerate_next.lookup, h⟩
end
section
variable {P : Program} {w : World} {K : PySem.W.Frag} {J J1 J2 : It} {fp fp1 fp2 : List Addr} {z TI TO i1 i2 e it : Addr} {tn tn1 tn2 : Nat → Heap → Prop}
theorem Zst2.keep {i : Nat} {h h' : Heap} (D1 : Drw P w K J1 fp1 i1 tn1) (D2 : Drw P w K J2 fp2 i2 tn2) (st : Zst2 z TI TO i1 i2 tn1 tn2 i h) (k : ∀ b ∈ z :: TI :: TO :: (fp1 ++ fp2), ∀ o, h.get? b = some o → h'.get? b = some o) : Zst2 z TI TO i1 i2 tn1 tn2 i h' := by
  obtain ⟨⟨t, f, hz⟩, hTI, ⟨a, b, hTO⟩, st1, st2⟩ := st
  exact ⟨⟨t, f, k _ (by simp) _ hz⟩, k _ (by simp) _ hTI, ⟨a, b, k _ (by simp) _ hTO⟩, D1.keep i _ _ st1 fun c hc o q => k c (by simp [hc]) o q, D2.keep i _ _ st2 fun c hc o q => k c (by simp [hc]) o q⟩
theorem Zst2.obj {i : Nat} {h : Heap} (D1 : Drw P w K J1 fp1 i1 tn1) (D2 : Drw P w K J2 fp2 i2 tn2) (st : Zst2 z TI TO i1 i2 tn1 tn2 i h) : ∀ b ∈ z :: TI :: TO :: (fp1 ++ fp2), ∃ o, h.get? b = some o ∧ ∀ v, o.data ≠ .cell v := by
  obtain ⟨⟨t, f, hz⟩, hTI, ⟨a, c, hTO⟩, st1, st2⟩ := st
  intro b hb
  have hb : b = z ∨ b = TI ∨ b = TO ∨ b ∈ fp1 ∨ b ∈ fp2 := by simpa using hb
  rcases hb with q | q | q | q | q
  · rw [q]; exact ⟨_, hz, fun v q => nomatch q⟩
  · rw [q]; exact ⟨_, hTI, fun v q => nomatch q⟩
  · rw [q]; exact ⟨_, hTO, fun v q => nomatch q⟩
  · exact D1.obj i h st1 b q
  · exact D2.obj i h st2 b q
theorem drw_zip2 (D1 : Drw P w K J1 fp1 i1 tn1) (D2 : Drw P w K J2 fp2 i2 tn2) (fl : Flat J1) (S : Apart2 z TI TO i1 i2 fp1 fp2) : Drw P w K (ItZ2 J1 J2) (z :: TI :: TO :: (fp1 ++ fp2)) z (Zst2 z TI TO i1 i2 tn1 tn2) where
  mem := by simp
  obj := fun i h st => Zst2.obj D1 D2 st
  keep := fun i h h' st k => Zst2.keep D1 D2 st k
  item := by
    intro X hP hw hK A i pins s σ H Q E I hf st hg hQ
    obtain ⟨t, f, hz⟩ := st.1
    exact zip_nextOf hz fun A' _ => zip2_step D1 D2 fl S hP hw hK I hf st hg.1 hg.2 fun T v s' H' ev I' y st' sz fr k => hQ _ v s' H' I' (by rw [ev]; rfl) y st' sz fr k
  done := by
    intro X hP hw hK A hA i pins s σ H Q E I hf st hg hE
    obtain ⟨t, f, hz⟩ := st.1
    exact zip_nextOf hz fun A' hA' => zip2_stop D1 D2 fl S hP hw hK (hA'.trans hA) I hf st hg hE
theorem turn_zip2 {tg : Expr} (D1 : Drw P w K J1 fp1 i1 tn1) (D2 : Drw P w K J2 fp2 i2 tn2) (fl : Flat J1) (S : Apart2 z TI TO i1 i2 fp1 fp2) : Turn P w K tg (ItZ2 J1 J2) (z :: TI :: TO :: (fp1 ++ fp2)) z (Zst2 z TI TO i1 i2 tn1 tn2) where
  mem := by simp
  obj := fun i h st => Zst2.obj D1 D2 st
  keep := fun i h h' st k => Zst2.keep D1 D2 st k
  item := by
    intro X hP hw hK hc i pins s σ H E I hf st hg
    obtain ⟨t, f, hz⟩ := st.1
    refine zip_pyNext hz fun A' _ => zip2_step D1 D2 fl S hP hw hK I hf st hg.1 hg.2 fun T v s' H' ev I' y st' sz fr k => ⟨_, rfl, ?_⟩
    have hlt : ∀ b ∈ z :: TI :: TO :: (fp1 ++ fp2), b < s.heap.objs.size := fun b hb => let ⟨_, q, _⟩ := Zst2.obj D1 D2 st b hb; Heap.lt_size q
    obtain ⟨⟨t', f', hz'⟩, hTI, ⟨a, b, hTO⟩, st1, st2⟩ := st'
    have fz : FpOk X pins H' z := FpOk.to (hf z (by simp)) (fr z (hlt z (by simp)) (hf z (by simp)).1)
    refine go_zip hz' fun t'' h'' hz'' sb => ⟨v, H', I'.turnedL (t' := s'.toks) (ch := [z]) (fun c o hc q => sb.extBut c o (by simpa using hc) q) (fun c hc => by rw [List.mem_singleton.mp hc]; exact fz), by rw [ev]; rfl, y, ⟨⟨t'', f', hz''⟩, sb.extBut _ _ S.tz hTI, ⟨a, b, sb.extBut _ _ S.oz hTO⟩, ?_, ?_⟩, fun b hb => fr b (hlt b hb) (hf b hb).1⟩
    · exact D1.keep _ _ _ st1 fun c hc o q => sb.extBut c o (fun e => S.z1 (e ▸ hc)) q
    · exact D2.keep _ _ _ st2 fun c hc o q => sb.extBut c o (fun e => S.z2 (e ▸ hc)) q
  done := by
    intro X hP hw hK hc i pins s σ H E I hf st hg
    subst hP hw hK
    obtain ⟨t, f, hz⟩ := st.1
    exact zip_pyNext hz fun A' hA' => zip2_stop D1 D2 fl S rfl rfl rfl (hA'.trans (I.ok.hd hc)) I hf st hg fun e s' I' he _ => ⟨e, rfl, he, rfl, I'⟩
  self := fun A i s Q E st h => let ⟨_, _, hz⟩ := st.1; zip_iter hz h
theorem turn_enu {tg : Expr} {c : Int} (D : Drw P w K J fp it tn) (ne : e ∉ fp) : Turn P w K tg (ItEn c J) (e :: fp) e (Est e it c tn) where
  mem := by simp
  obj := fun i h st b hb => by
    obtain ⟨⟨t, f, old, he⟩, hs⟩ := st
    rcases List.mem_cons.mp hb with q | q
    · rw [q]; exact ⟨_, he, fun v q => nomatch q⟩
    · exact D.obj i h hs b q
  keep := fun i h h' st k => by
    obtain ⟨⟨t, f, old, he⟩, hs⟩ := st
    exact ⟨⟨t, f, old, k _ (by simp) _ he⟩, D.keep i _ _ hs fun c hc o q => k c (by simp [hc]) o q⟩
  item := by
    intro X hP hw hK hc i pins s σ H E I hf st hg
    obtain ⟨t, f, old, hz⟩ := st.1
    refine enum_pyNext hz fun A' _ => enum_step D ne hP hw hK I hf st hg fun T v s' H' ev I' y st' sz fr k => ⟨_, rfl, ?_⟩
    have hlt : ∀ b ∈ e :: fp, b < s.heap.objs.size := fun b hb => by
      rcases List.mem_cons.mp hb with q | q
      · rw [q]; exact Heap.lt_size hz
      · obtain ⟨_, q, _⟩ := D.obj i _ st.2 b q; exact Heap.lt_size q
    obtain ⟨⟨t', f', old', hz'⟩, hs'⟩ := st'
    have fz : FpOk X pins H' e := FpOk.to (hf e (by simp)) (fr e (hlt e (by simp)) (hf e (by simp)).1)
    refine go_enum hz' fun t'' h'' hz'' sb => ⟨v, H', I'.turnedL (t' := s'.toks) (ch := [e]) (fun c o hc q => sb.extBut c o (by simpa using hc) q) (fun c hc => by rw [List.mem_singleton.mp hc]; exact fz), by rw [ev]; rfl, y, ⟨⟨t'', f', old', hz''⟩, ?_⟩, fun b hb => fr b (hlt b hb) (hf b hb).1⟩
    exact D.keep _ _ _ hs' fun c hc o q => sb.extBut c o (fun q => ne (q ▸ hc)) q
  done := by
    intro X hP hw hK hc i pins s σ H E I hf st hg
    subst hP hw hK
    obtain ⟨t, f, old, hz⟩ := st.1
    exact enum_pyNext hz fun A' hA' => enum_stop D rfl rfl rfl (hA'.trans (I.ok.hd hc)) I hf st hg fun x s' I' he => ⟨x, rfl, he, rfl, I'⟩
  self := fun A i s Q E st h => let ⟨_, _, _, hz⟩ := st.1; enum_iter hz h
/-! ### the items of such a walk -/
variable {r : List Addr} {H : Hp} {m m1 m2 : MI}
theorem WkR.zip2 (k1 : WkR K r H m1 J1) (k2 : WkR K r H m2 J2) (fl : Flat J1) : WkR K r H (.zip2 m1 m2) (ItZ2 J1 J2) := by
  intro r' H' S i s o
  obtain ⟨a1, a2⟩ := k1 r' H' S i s o
  obtain ⟨b1, b2⟩ := k2 r' H' S i s o
  unfold nextM
  cases q1 : nextM m1 i S with
  | none => exact ⟨fun z => (nomatch z), fun _ z => (nomatch z)⟩
  | some od =>
    cases od with
    | none => exact ⟨fun _ => .inl (a1 q1), fun _ z => (nomatch z)⟩
    | some d =>
      obtain ⟨g1, y1⟩ := a2 d q1
      cases q2 : nextM m2 i S with
      | none => exact ⟨fun z => (nomatch z), fun _ z => (nomatch z)⟩
      | some oe =>
        cases oe with
        | none => exact ⟨fun _ => .inr ⟨g1, b1 q2⟩, fun _ z => (nomatch z)⟩
        | some e =>
          obtain ⟨g2, y2⟩ := b2 e q2
          refine ⟨fun z => (nomatch z), fun f z => ⟨⟨g1, g2⟩, fun x H2 y => ?_⟩⟩
          cases z
          obtain ⟨T, x1, x2, H3, u1, u2, hT, rfl, rfl⟩ := y
          have e1 := fl _ _ _ _ u1
          obtain ⟨_, _, v1⟩ := y1 x1 H' u1
          obtain ⟨s3, o3, v2⟩ := y2 x2 H3 u2
          exact ⟨s3.trans (Stp.loose hT), o3.loose hT, T, [x1, x2], rfl, upd_same, x1, [x2], rfl, (v1.mono s3).mono (Stp.loose hT), x2, [], rfl, v2.mono (Stp.loose hT), rfl⟩
theorem WkR.enu {c : Int} (k : WkR K r H m J) : WkR K r H (.enu c m) (ItEn c J) := by
  intro r' H' S i s o
  obtain ⟨a1, a2⟩ := k r' H' S i s o
  unfold nextM
  cases q1 : nextM m i S with
  | none => exact ⟨fun z => (nomatch z), fun _ z => (nomatch z)⟩
  | some od =>
    cases od with
    | none => exact ⟨fun _ => a1 q1, fun _ z => (nomatch z)⟩
    | some d =>
      obtain ⟨g1, y1⟩ := a2 d q1
      refine ⟨fun z => (nomatch z), fun f z => ⟨g1, fun x H2 y => ?_⟩⟩
      cases z
      obtain ⟨T, x1, H3, u1, hT, rfl, rfl⟩ := y
      obtain ⟨s3, o3, v1⟩ := y1 x1 H3 u1
      exact ⟨s3.trans (Stp.loose hT), o3.loose hT, T, [.int (c + (i : Nat)), x1], rfl, upd_same, .int (c + (i : Nat)), [x1], rfl, rfl, x1, [], rfl, v1.mono (Stp.loose hT), rfl⟩
end
end Q

namespace Q
open PySem PySem.Spec PyProof.Rows L2
variable [Gh : Ghost]
open PySem.Sem (wp)
/-! ### a zip, an enumerate begins -/
set_option maxHeartbeats 1000000 in
theorem meets_enum_self {v : Value} {Hc : Heap → Prop} (B : ∀ (prog : Program) (w : World) (A : Around) (E : Value → Shared → Prop) (s : Shared) (Q : Value → Shared → Prop), Hc s.heap → Q v s → wpAny (model prog w) A (pyIter v) Q E s) :
    Meets (Builtin.«enumerate.__new__» ⟨[.type "enumerate", v], []⟩) (fun _ R s => Hc s.heap ∧ R (.ok (.ret (.ref s.heap.objs.size))) { s with heap := s.heap.push { cls := .type "enumerate", data := .fields #[.none, .bool false, v, rawInt 0, .none, .none] } }) :=
  .of_wp fun prog w A R s h => by
    obtain ⟨hp, g, d, tk, os⟩ := s; obtain ⟨h1, h⟩ := h
    have hsub := sub_enumerate
    have q1 : ∀ {A' : Around} {E : Value → Shared → Prop} {Q : Value → Shared → Prop}, Q v ⟨hp, g, d, tk, os⟩ → wpAny (model prog w) A' (pyIter v) Q E ⟨hp, g, d, tk, os⟩ := fun q => B prog w _ _ ⟨hp, g, d, tk, os⟩ _ h1 q
    wp_walk using q1
    refine wpAny_stack_any fun st => wpAny_pure ?_
    split
    · rename_i c _ _ _ _ _
      cases (c == Value.type "enumerate")
      · wp_walk using q1
        exact ⟨_, rfl, h⟩
      · wp_walk using q1
        exact ⟨_, rfl, h⟩
    · wp_walk using q1
      exact ⟨_, rfl, h⟩
set_option maxHeartbeats 1000000 in
theorem meets_enum_obj {v : Value} {o : Obj} {Hc : Heap → Prop} (B : Begins v o Hc) :
    Meets (Builtin.«enumerate.__new__» ⟨[.type "enumerate", v], []⟩) (fun _ R s => Hc s.heap ∧ R (.ok (.ret (.ref (s.heap.push o).objs.size))) { s with heap := (s.heap.push o).push { cls := .type "enumerate", data := .fields #[.none, .bool false, .ref s.heap.objs.size, rawInt 0, .none, .none] } }) :=
  .of_wp fun prog w A R s h => by
    obtain ⟨hp, g, d, tk, os⟩ := s; obtain ⟨h1, h⟩ := h
    have hsub := sub_enumerate
    have q1 : ∀ {A' : Around} {E : Value → Shared → Prop} {Q : Value → Shared → Prop}, Q (.ref hp.objs.size) ⟨hp.push o, g, d, tk, os⟩ → wpAny (model prog w) A' (pyIter v) Q E ⟨hp, g, d, tk, os⟩ := fun q => B.iter prog w _ _ ⟨hp, g, d, tk, os⟩ _ h1 q
    wp_walk using q1
    refine wpAny_stack_any fun st => wpAny_pure ?_
    split
    · rename_i c _ _ _ _ _
      cases (c == Value.type "enumerate")
      · wp_walk using q1
        exact ⟨_, rfl, h⟩
      · wp_walk using q1
        exact ⟨_, rfl, h⟩
    · wp_walk using q1
      exact ⟨_, rfl, h⟩
section
variable {prog : Program} {w : World} {A : Around} {E : Value → Shared → Prop} {s : Shared}
theorem call_enum_self {v : Value} {it : Addr} {Hc : Heap → Prop} {Q : Value → Shared → Prop} (B : ∀ (prog : Program) (w : World) (A : Around) (E : Value → Shared → Prop) (s : Shared) (Q : Value → Shared → Prop), Hc s.heap → Q v s → wpAny (model prog w) A (pyIter v) Q E s) (ev : v = .ref it) (h1 : Hc s.heap)
    (h : ∀ h', IsEn h' s.heap.objs.size it none false 0 .none → (∀ b o, s.heap.get? b = some o → h'.get? b = some o) → Q (.ref s.heap.objs.size) { s with heap := h' }) : wpAny (model prog w) A (call (.type "enumerate") [v]) Q E s := by
  subst ev
  refine callType_new F.called_enumerate (by decide) (F.typeCall_enumerate_1 _) (F.newCall_enumerate_1 _) (fun obj => F.args_object_init_2 obj _) F.entry_enumerate_new (meets_enum_self B) ⟨h1, ?_⟩
  have g : IsEn (s.heap.push { cls := .type "enumerate", data := .fields #[.none, .bool false, .ref it, rawInt 0, .none, .none] }) s.heap.objs.size it none false 0 .none := Heap.get?_push_size _ rfl
  exact ⟨⟨_, g, rfl⟩, h _ g fun b o q => Heap.get?_push_of_some _ q⟩
theorem call_enum_obj {v : Value} {o : Obj} {Hc : Heap → Prop} {Q : Value → Shared → Prop} (B : Begins v o Hc) (h1 : Hc s.heap)
    (h : ∀ h', IsEn h' (s.heap.objs.size + 1) s.heap.objs.size none false 0 .none → h'.get? s.heap.objs.size = some o → (∀ b o, s.heap.get? b = some o → h'.get? b = some o) → Q (.ref (s.heap.objs.size + 1)) { s with heap := h' }) : wpAny (model prog w) A (call (.type "enumerate") [v]) Q E s := by
  refine callType_new F.called_enumerate (by decide) (F.typeCall_enumerate_1 _) (F.newCall_enumerate_1 _) (fun obj => F.args_object_init_2 obj _) F.entry_enumerate_new (meets_enum_obj B) ⟨h1, ?_⟩
  have hz : (s.heap.push o).objs.size = s.heap.objs.size + 1 := Heap.size_push ..
  have g : IsEn ((s.heap.push o).push { cls := .type "enumerate", data := .fields #[.none, .bool false, .ref s.heap.objs.size, rawInt 0, .none, .none] }) (s.heap.push o).objs.size s.heap.objs.size none false 0 .none := Heap.get?_push_size _ rfl
  show _ ∧ _
  rw [hz] at g ⊢
  exact ⟨⟨_, g, rfl⟩, h _ g (Heap.get?_push_of_some _ (Heap.get?_push_size _ B.free)) fun b o q => Heap.get?_push_of_some _ (Heap.get?_push_of_some _ q)⟩
end
/-- a list or a tuple that is going to be drawn from -/
structure Src (X : Cx) (r : List Addr) (H : Hp) (mi : MI) (u : Value) (h : Heap) : Prop where
  ex : ∃ (ob : Obj) (Hc : Heap → Prop) (J : It), Begins u ob Hc ∧ Hc h ∧ WkR X.K r H mi J ∧ Flat J ∧ ∀ it : Addr, ∃ tn, Drw X.prog X.w X.K J [it] it tn ∧ ∀ h' : Heap, h'.get? it = some ob → tn 0 h'
section
variable {X : Cx} {pins : List (Addr × Obj)} {σ : L2.St} {r : List Addr} {H : Hp} {s : Shared} {S : Store}
theorem src_of {d : D} {x : V} {u : Value} {mi : MI} (I : Inv X pins σ H s) (o : ROk X.K r H S) (k : VR X.K r H d x) (rv : RelV x u) (e : itD d S = some mi) : Src X r H mi u s.heap := by
  have lists : ∀ (a : Addr) (vs : List V), SqL X.K H a vs → u = .ref a → WkR X.K r H mi (Itl X.K a) → Src X r H mi u s.heap := fun a vs hs eu wk => by
    subst eu
    obtain ⟨its, rvv, p, hz⟩ := I.list hs
    exact ⟨_, _, Itl X.K a, begins_list a its.toArray, p.isList, wk, fun i H v H' y => y.1, fun it => ⟨_, drw_list a it, fun h' q => ⟨_, q, rfl, rfl⟩⟩⟩
  cases d with
  | tup xs =>
    cases e
    obtain ⟨p, vs, rfl, hs, hv⟩ := k
    cases rv
    obtain ⟨its, rvv, q, hz⟩ := I.tuple (sqT_of hs)
    exact ⟨_, _, Itt X.K p, begins_tuple p its.toArray, q, wk_tup (sqT_of hs) hv, fun i H v H' y => y.1, fun it => ⟨_, drw_tuple p it, fun h' q => ⟨_, q, rfl, rfl⟩⟩⟩
  | kl xs =>
    cases e
    obtain ⟨p, vs, rfl, hs, hv⟩ := k
    cases rv
    exact lists p vs hs.l rfl (wk_kl hs hv)
  | ref n =>
    obtain ⟨p, hp, rfl⟩ := k
    unfold itD at e
    dsimp only at e
    cases q : S[n]? with
    | none => rw [q] at e; cases e
    | some ob =>
      rw [q] at e
      have ho := o.ob n ob p q hp
      cases rv
      cases ob with
      | lst xs => cases e; obtain ⟨vs, h1, h2⟩ := ho; exact lists p vs (.of h1) rfl (wk_lst hp)
      | _ => cases e
  | _ => cases e
theorem fresh_ok {H1 : Hp} (I : Inv X pins σ H1 s) {fp : List Addr} (h : ∀ c ∈ fp, s.heap.objs.size ≤ c) : ∀ b ∈ fp, FpOk X pins H1 b := fun b hb => I.fpOk (h b hb) (I.hok.fresh (h b hb))
/-- zip(u1, u2) made: the new zip z -/
theorem make_zip2 {m1 m2 : MI} {u1 u2 : Value} {A : Around} {Q : Value → Shared → Prop} {E : Value → Shared → Prop} (I : Inv X pins σ H s) (s1 : Src X r H m1 u1 s.heap) (s2 : Src X r H m2 u2 s.heap)
    (h : ∀ (z : Addr) (fp : List Addr) (J : It) (tn : Nat → Heap → Prop) (h' : Heap), Drw X.prog X.w X.K J fp z tn → (∀ tg, Turn X.prog X.w X.K tg J fp z tn) → tn 0 h' → (∃ TI TO t f, IsZ h' z TI TO t f) → (∀ c ∈ fp, s.heap.objs.size ≤ c ∧ c < h'.objs.size) → WkR X.K r H (.zip2 m1 m2) J → (∀ b o, s.heap.get? b = some o → h'.get? b = some o) → s.heap.objs.size ≤ h'.objs.size → Q (.ref z) { s with heap := h' }) :
    wpAny (model X.prog X.w) A (call (.type "zip") [u1, u2]) Q E s := by
  obtain ⟨o1, H1, J1, B1, b1, w1, f1, d1⟩ := s1.ex
  obtain ⟨o2, H2, J2, B2, b2, w2, f2, d2⟩ := s2.ex
  refine zip_begins2 B1 B2 b1 b2 fun h' hz hTI hTO g1 g2 hsz hk => ?_
  obtain ⟨tn1, D1, t1⟩ := d1 s.heap.objs.size
  obtain ⟨tn2, D2, t2⟩ := d2 (s.heap.objs.size + 1)
  have S : Apart2 (s.heap.objs.size + 4) (s.heap.objs.size + 2) (s.heap.objs.size + 3) s.heap.objs.size (s.heap.objs.size + 1) [s.heap.objs.size] [s.heap.objs.size + 1] := by
    constructor <;> simp
  have hz : IsZ h' (s.heap.objs.size + 4) (s.heap.objs.size + 2) (s.heap.objs.size + 3) none false := hz
  refine h _ _ _ _ h' (drw_zip2 D1 D2 f1 S) (fun tg => turn_zip2 D1 D2 f1 S) ⟨⟨_, _, hz⟩, hTI, ⟨_, _, hTO⟩, t1 h' g1, t2 h' g2⟩ ⟨_, _, _, _, hz⟩ (fun c hc => ?_) (w1.zip2 w2 f1) hk (by omega)
  have hc : c = s.heap.objs.size + 4 ∨ c = s.heap.objs.size + 2 ∨ c = s.heap.objs.size + 3 ∨ c = s.heap.objs.size ∨ c = s.heap.objs.size + 1 := by simpa using hc
  rw [hsz]
  rcases hc with q | q | q | q | q <;> rw [q] <;> exact ⟨by first | exact Nat.le_refl _ | exact Nat.le_add_right _ _, by first | exact Nat.add_lt_add_left (by decide) _ | exact Nat.lt_add_of_pos_right (by decide)⟩
end
section
variable {X : Cx} {k : Nat} {a b : Expr} {tg : Expr} {m : MA} {ma : ME} {p pos p2 pos2 : Pos}
def zip2D (ds : List D) (S : Store) : Option MI := match ds with
  | [d, e] => (itD d S).bind fun x => (itD e S).map fun y => .zip2 x y
  | _ => none
def mIt (m : MA) (f : List D → Store → Option MI) : MIt := fun en S => (m en S).bind fun ds S1 => match f ds S1 with
  | some i => .ok i S1
  | none => .bad
def enuD (c : Int) (ds : List D) (S : Store) : Option MI := match ds with
  | [d] => (itD d S).map fun x => .enu c x
  | _ => none
/-- an expression that makes a zip -/
structure SndZ (X : Cx) (e : Expr) (m : MIt) : Prop where
  run : ∀ (W : WX), Takes X W → ∀ (en : En) (σ : L2.St) (r : List Addr) (H : Hp) (S : Store) (R : It → Hp → Prop), ER X.K r H en σ → ROk X.K r H S → Dn X.K r H (WkR X.K) (m en S) R (WE W σ) →
  ∀ (pins : List (Addr × Obj)) (s : Shared), Inv X pins σ H s → wpAny (model X.prog X.w) X.A (eval e X.env) (fun v s1 => ∃ (z : Addr) (fp : List Addr) (J : It) (tn : Nat → Heap → Prop) (H1 : Hp), v = .ref z ∧ Inv X pins σ H1 s1 ∧ Drw X.prog X.w X.K J fp z tn ∧ (∀ tg, Turn X.prog X.w X.K tg J fp z tn) ∧ tn 0 s1.heap ∧
    (∃ TI TO t f, IsZ s1.heap z TI TO t f) ∧ (∀ b ∈ fp, FpOk X pins H1 b) ∧ (∀ c ∈ fp, c < s1.heap.objs.size) ∧ R J H1) X.xe s
theorem z_zip2 (hg : Gl X "zip") (hm : X.mg "zip" = none) (ha : SndA X [a, b] m)
    (hs : starEach [a, b] X.env = (false, eval a X.env) :: starEach [b] X.env := by rfl) (hpl : (backTo pos (starEach [b] X.env)).any (·.1) = false := by rfl) :
    SndZ X (.Call (.Name "zip" p) [a, b] [] pos) (mIt m zip2D) := by
  refine ⟨?_⟩
  intro W tk en σ r H S R er ro dn pins s I
  have args := ha.run W tk en σ r H S _ er ro (Dn.bind dn) pos pins s I
  refine Call_ (ld_blt I hg hm PyProof.Rows.boot_zip (PyProof.Rows.callWith_type1 (thn args ?_) hs hpl))
  rintro us s1 ⟨vs, H1, I1, rv, ds, S1, r1, e1, st1, o1, k1, d1⟩
  match ds, k1, d1 with
  | [d, e], k1, d1 =>
    obtain ⟨v, w, rfl, k2, k3⟩ := k1.two_inv
    cases rv with
    | cons rr rv =>
      cases rv with
      | cons rr2 rv =>
        cases rv
        unfold zip2D at d1
        dsimp only at d1
        cases q1 : itD d S1 with
        | none => rw [q1] at d1; exact d1.elim
        | some x =>
          cases q2 : itD e S1 with
          | none => rw [q1, q2] at d1; exact d1.elim
          | some y =>
            rw [q1, q2] at d1
            refine make_zip2 I1 (src_of I1 o1 k2 rr q1) (src_of I1 o1 k3 rr2 q2) fun z fp J tn h' Dz Tz st hz hfp wk hk hsz => ?_
            have I2 : Inv X pins σ H1 { s1 with heap := h' } := I1.kept (t' := s1.toks) hk
            exact ⟨z, fp, J, tn, H1, rfl, I2, Dz, Tz, st, hz, fresh_ok I1 fun c hc => (hfp c hc).1, fun c hc => (hfp c hc).2, Dn.ok_here (R := WkR X.K) (a := .zip2 x y) d1 o1 wk⟩
  | [], _, d1 => exact d1.elim
  | [_], _, d1 => exact d1.elim
  | _ :: _ :: _ :: _, k1, d1 => exact d1.elim
def mEnu (c : Int) (mi : MIt) : MIt := fun en S => (mi en S).bind fun i S1 => .ok (.enu c i) S1
/-- enumerate(zip(..)) -/
theorem i_enumz {e : Expr} {mi : MIt} (hg : Gl X "enumerate") (hm : X.mg "enumerate" = none) (h : SndZ X e mi) (hs : starEach [e] X.env = [(false, eval e X.env)] := by rfl) :
    SndI X tg (.Call (.Name "enumerate" p) [e] [] pos) (mEnu 0 mi) := by
  refine ⟨?_⟩
  intro W tk en σ r H S R er ro dn pins s I
  refine Call_ (ld_blt I hg hm boot_enumerate (PyProof.Rows.callWith_type1 ?_ hs rfl))
  rw [hs]
  show wpAny _ _ (spliced ((false, eval e X.env) :: [])) _ _ s
  refine Calls.spliced_cons (thn (h.run W tk en σ r H S _ er ro (Dn.bind dn) pins s I) fun v s1 ⟨z, fp, J, tn, H1, ev, I1, Dz, Tz, st, hz, hf, hlt, i, S1, r1, e1, st1, o1, wk, d1⟩ => Calls.spliced_nil ?_)
  obtain ⟨TI, TO, t, f, hz⟩ := hz
  refine call_enum_self (Hc := fun h => IsZ h z TI TO t f) (it := z) (fun prog w A E s Q hz q => by rw [ev]; exact zip_iter hz (by rw [← ev]; exact q)) ev hz fun h' he hk => enum_iter he ?_
  have I2 : Inv X pins σ H1 { s1 with heap := h' } := I1.kept (t' := s1.toks) hk
  have ne : s1.heap.objs.size ∉ fp := fun hm => Nat.lt_irrefl _ (hlt _ hm)
  refine ⟨s1.heap.objs.size, s1.heap.objs.size :: fp, _, ItEn 0 J, H1, rfl, I2, turn_enu (c := 0) Dz ne, ⟨⟨_, _, _, he⟩, Dz.keep _ _ _ st fun b hb o q => hk b o q⟩, fun b hb => ?_, Dn.ok_here (R := WkR X.K) (a := .enu 0 i) d1 o1 wk.enu⟩
  rcases List.mem_cons.mp hb with q | q
  · rw [q]; exact I1.fpOk (Nat.le_refl _) (I1.hok.fresh (Nat.le_refl _))
  · exact hf b q
theorem i_enum (hg : Gl X "enumerate") (hm : X.mg "enumerate" = none) (ha : SndA X [a] m) (hs : starEach [a] X.env = [(false, eval a X.env)] := by rfl) :
    SndI X tg (.Call (.Name "enumerate" p) [a] [] pos) (mIt m (enuD 0)) := by
  refine ⟨?_⟩
  intro W tk en σ r H S R er ro dn pins s I
  have args := ha.run W tk en σ r H S _ er ro (Dn.bind dn) pos pins s I
  refine Call_ (ld_blt I hg hm boot_enumerate (PyProof.Rows.callWith_type1 (thn args ?_) hs rfl))
  rintro us s1 ⟨vs, H1, I1, rv, ds, S1, r1, e1, st1, o1, k1, d1⟩
  match ds, k1, d1 with
  | [d], k1, d1 =>
    obtain ⟨v, rfl, k2⟩ := k1.one_inv
    cases rv with
    | cons rr rv =>
      cases rv
      unfold enuD at d1
      dsimp only at d1
      cases q1 : itD d S1 with
      | none => rw [q1] at d1; exact d1.elim
      | some x =>
        rw [q1] at d1
        obtain ⟨ob, Hc, J, B, b1, wk, fl, dr⟩ := (src_of I1 o1 k2 rr q1).ex
        refine call_enum_obj B b1 fun h' he hit hk => enum_iter he ?_
        obtain ⟨tn, Dr, t0⟩ := dr s1.heap.objs.size
        have I2 : Inv X pins σ H1 { s1 with heap := h' } := I1.kept (t' := s1.toks) hk
        refine ⟨s1.heap.objs.size + 1, [s1.heap.objs.size + 1, s1.heap.objs.size], _, ItEn 0 J, H1, rfl, I2, turn_enu (c := 0) Dr (by simp), ⟨⟨_, _, _, he⟩, t0 h' hit⟩, fresh_ok I1 fun c hc => ?_, Dn.ok_here (R := WkR X.K) (a := .enu 0 x) d1 o1 wk.enu⟩
        have hc : c = s1.heap.objs.size + 1 ∨ c = s1.heap.objs.size := by simpa using hc
        rcases hc with q | q <;> rw [q] <;> omega
  | [], _, d1 => exact d1.elim
  | _ :: _ :: _, k1, d1 => exact d1.elim
end
end Q

namespace Q
open PySem PySem.Spec PyProof.Rows L2
variable [Gh : Ghost]
section
variable {X : Cx} {k : Nat} {a b o i value : Expr} {ma mb mo mv mi : ME} {pos pos' : Pos}
/-! ### o[i] of a list, a tuple, a text, a dict -/
def rDg : R2 := fun x y H Q => ∃ a v, x = .ref a ∧ DGet H a y (some v) ∧ Q v H
theorem ix_dict (hu : X.A.units + 1 < cLine) : IxR X rDg := by
  intro value slice pins s σ H x y v u Q I rx ry h hs
  obtain ⟨a, z, rfl, g, q⟩ := h
  cases rx
  have hT := dict_typeIs I g
  have get := d_getItem (A := X.A) (E := X.xe) (Q := EP X pins σ Q) hu I g ry fun w' s3 I3 rw' => ⟨z, H, I3, rw', q⟩
  unfold subscriptTail
  refine wpAny_bind ?_
  rw [getitemInPython_of_ne hT.not_modules]
  refine wpAny_bind (wpAny_specialOf hT PySem.F.slot_dict_getitem.lookup ?_)
  have last : wpAny (model X.prog X.w) X.A (subscripted slice false (.ref a) u) (fun r s₃ => wpAny (model X.prog X.w) X.A (letTemporaryGo value (.ref a) r >>= fun _ => pure r) (EP X pins σ Q) X.xe s₃) X.xe s := by
    rw [hs]
    exact wpAny_operating (wpAny_mono get (fun r s₃ h₃ => wpAny_bind (wpAny_letTemporaryGo (wpAny_pure h₃))) fun _ _ x => x)
  first
    | exact wpAny_pure (wpAny_bind last)
    | exact wpAny_bind (wpAny_pure (wpAny_bind last))
    | exact wpAny_bind last
def subD (d e : D) (S : Store) : Option D := match dctD d S with
  | some kvs => (keyD e).bind fun q => lookK kvs q
  | none => itemD d e S
def gSubs : G2 := fun d e S => (subD d e S).map fun z => (z, S)
theorem e_sub (g : Gd X k) (ha : SndE X a ma) (hb : SndE X b mb) (hs : PlainIx b := by intro _ _; rfl) : SndE X (.Subscript a b pos) (m2 gSubs ma mb) := by
  refine ⟨?_⟩
  intro W tk en σ r H S Q er ro dn
  refine wE_of (pe_ix (ix_seq.or (ix_dict (by have := g.room.un; omega))) (pe_wE X a) (pe_wE X b) hs) (two ha hb (fun d e z x y r H S S' g1 k1 k2 o ed => ?_) tk er ro dn)
  obtain ⟨z', h1, h2⟩ := Option.map_eq_some_iff.mp g1
  cases h2
  unfold subD at h1
  cases q : dctD d S with
  | none => rw [q] at h1; exact .inl (itemD_ok o k1 k2 h1 fun v kv => ed.flat o kv)
  | some kvs =>
    rw [q] at h1
    obtain ⟨ky, h2, h3⟩ := Option.bind_eq_some_iff.mp h1
    obtain ⟨n, p, vs, rfl, _, rfl, hp, _, hv⟩ := dctD_ok o k1 q
    have hl := hv.look ky
    rw [h3] at hl
    obtain ⟨v, h4, h5⟩ := hl
    rw [keyD_ok h2 k2]
    exact .inr ⟨p, v, rfl, by rw [← h4]; exact DGet.k hp, ed.flat o h5⟩
/-! ### o[i] = v of a list, a dict -/
def storD (d e z : D) (S : Store) : Option Store := match d with
  | .ref n => match S[n]? with
    | some (.lst xs) => (intD e).bind fun i => (ixN xs.length i).map fun j => S.set n (.lst (xs.set j z))
    | some (.dct kvs) => (keyD e).bind fun q => if kvs.length < sizeLine then some (S.set n (.dct (putKD kvs q z))) else none
    | _ => none
  | _ => none
def mStoreP (o : Option Store) (en : En) : SRes := match o with
  | some S => .nx en S
  | none => .bad
def mStore (mo mi mv : ME) : MS := fun en S => (mv en S).stm en fun z S1 => (mo en S1).stm en fun d S2 => (mi en S2).stm en fun e S3 => mStoreP (storD d e z S3) en
theorem s_store (g : Gd X k) (ho : SndE X o mo) (hi : SndE X i mi) (hv : SndE X value mv) (hs : swapsWith value (some (.Subscript o i pos')) pos.line X.env = pure false := by rfl) :
    SndS X (.Assign [.Subscript o i pos'] value pos) (mStore mo mi mv) := by
  refine ⟨?_⟩
  intro W tk en σ r H S D er ro dn pins s I
  refine wpAny_Assign_Subscript (thn (hv.run W tk en σ r H S _ er ro (DnS.stm (R := VR X.K) er dn) pins s I) fun rv s1 ⟨v, H1, I1, rr, z, S1, r1, e1, t1, o1, k1, er1, d1⟩ => thn (ho.run W tk en σ r1 H1 S1 _ er1 o1 (DnS.stm (R := VR X.K) er1 d1) pins s1 I1) fun ov s2 ⟨x, H2, I2, rx, d, S2, r2, e2, t2, o2, k2, er2, d2⟩ =>
    thn (hi.run W tk en σ r2 H2 S2 _ er2 o2 (DnS.stm (R := VR X.K) er2 d2) pins s2 I2) fun iv s3 ⟨y, H3, I3, ry, e, S3, r3, e3, t3, o3, k3, er3, d3⟩ => ?_) hs
  have k1 := (k1.mono t2).mono t3
  have k2 := k2.mono t3
  cases q : storD d e z S3 with
  | none => rw [q] at d3; exact d3.elim
  | some S4 =>
    rw [q] at d3
    cases d with
    | ref n =>
      obtain ⟨p, hp, rfl⟩ := k2
      cases rx
      unfold storD at q
      dsimp only at q
      cases q' : S3[n]? with
      | none => rw [q'] at q; cases q
      | some ob =>
        rw [q'] at q
        have oo := o3.ob n ob p q' hp
        cases ob with
        | lst xs =>
          obtain ⟨vs, h1, h2⟩ := oo
          obtain ⟨ii, h3, q⟩ := Option.bind_eq_some_iff.mp q
          obtain ⟨j, h4, q⟩ := Option.map_eq_some_iff.mp q
          cases q
          have ss : Stp r3 H3 r3 (upd H3 p (.lst (vs.set j v))) := Stp.mut h1 trivial
          refine thn (set_list pins s3 σ H3 (.ref p) y v (.ref p) iv rv (fun H' => D.nx σ H') I3 rfl ry rr ⟨p, vs, ii, j, rfl, intD_ok h3 k3, h1, by rw [← h2.length]; exact h4, ?_⟩) fun _ s4 h => ?_
          · exact d3 r3 _ σ ss (o3.mut hp h1 trivial ⟨_, upd_same, (h2.mono ss).set j (k1.mono ss)⟩) (er3.mono ss)
          · obtain ⟨H4, I4, q4⟩ := h
            exact ⟨σ, H4, I4, q4⟩
        | dct kvs =>
          obtain ⟨vs, h1, h2⟩ := oo
          obtain ⟨ky, h3, q⟩ := Option.bind_eq_some_iff.mp q
          split at q
          · rename_i hz
            cases q
            have ss : Stp r3 H3 r3 (upd H3 p (.dK (putK vs ky v))) := Stp.mut h1 trivial
            rw [keyD_ok h3 k3] at ry
            refine d_setItem (by have := g.room.un; omega) I3 (DPut.k h1 (by rw [← h2.length]; exact hz)) ry rr fun s4 I4 => ⟨σ, _, I4, ?_⟩
            exact d3 r3 _ σ ss (o3.mut hp h1 trivial ⟨_, upd_same, (h2.mono ss).put (k1.mono ss)⟩) (er3.mono ss)
          · cases q
        | _ => cases q
    | _ => cases q
/-! ### methods of built-ins -/
abbrev GM := D → List D → Store → Option (D × Store)
structure MtD (X : Cx) (id : String) (g : GM) : Prop where
  run : ∀ (d : D) (ds : List D) (z : D) (x : V) (xs : List V) (r : List Addr) (H : Hp) (S S' : Store) (Q : VK), g d ds S = some (z, S') → VR X.K r H d x → VRs X.K r H ds xs → ROk X.K r H S → Ed X.K r H z S' Q →
  ∀ (pins : List (Addr × Obj)) (s : Shared) (σ : L2.St) (v : Value) (us : List Value), Inv X pins σ H s → RelV x v → Vals xs us → wpAny (model X.prog X.w) X.A (call (.builtin id) (v :: us)) (EP X pins σ Q) X.xe s
def wM (X : Cx) (id : String) : V → List V → Hp → VK → Prop := fun x xs H Q => ∀ (pins : List (Addr × Obj)) (s : Shared) (σ : L2.St) (v : Value) (us : List Value), Inv X pins σ H s → RelV x v → Vals xs us → wpAny (model X.prog X.w) X.A (call (.builtin id) (v :: us)) (EP X pins σ Q) X.xe s
theorem mt_wM (X : Cx) (id : String) : MtR X id (wM X id) := fun pins s σ _ _ _ v us _ I rx rs h => h pins s σ v us I rx rs
/-- the type's name, where methods are called on it -/
def tyD (d : D) (S : Store) : String := match d with
  | .str _ => "str"
  | .kl _ => "list"
  | .ref n => match S[n]? with
    | some (.lst _) => "list"
    | some (.dct _) => "dict"
    | _ => ""
  | _ => ""
theorem tyD_ok {r : List Addr} {H : Hp} {S : Store} {d : D} {x : V} {T : String} (ro : ROk X.K r H S) (h : VR X.K r H d x) (e : tyD d S = T) (hT : T ≠ "") : tyV X.K T x H := by
  cases d with
  | str y => have h : x = .str y := h; subst h; exact e.symm
  | kl xs => obtain ⟨p, vs, rfl, hs, hv⟩ := h; exact .inl ⟨e.symm, vs, hs.l⟩
  | ref n =>
    obtain ⟨p, hp, rfl⟩ := h
    unfold tyD at e
    dsimp only at e
    cases q : S[n]? with
    | none => rw [q] at e; exact absurd e.symm hT
    | some ob =>
      rw [q] at e
      have oo := ro.ob n ob p q hp
      cases ob with
      | lst xs => obtain ⟨vs, h1, h2⟩ := oo; exact .inl ⟨e.symm, vs, .of h1⟩
      | dct xs => obtain ⟨vs, h1, h2⟩ := oo; exact .inr (.inr (.inl ⟨e.symm, .inl ⟨vs, h1⟩⟩))
      | _ => exact absurd e.symm hT
  | _ => exact absurd e.symm hT
def mMeth (T : String) (g : GM) (mo : ME) (m : MA) : ME := fun en S => (mo en S).bind fun d S1 => if tyD d S1 = T then (m en S1).bind fun ds S2 => ofOpt (g d ds S2) else .bad
variable {e : Expr} {es : List Expr} {m : MA} {name : Str} {apos cpos : Pos} {T id : String} {gm : GM}
theorem e_meth (hm : MtD X id gm) (pa : PlainAttrs T) (slot : Slot T name id) (hty : typeOf (.builtin id) = pure (.type "method_descriptor")) (ho : SndE X o mo) (ha : SndA X (e :: es) m) (hT : T ≠ "" := by decide)
    (hbase : attributeBase o name X.env (eval o X.env) = eval o X.env := by rfl)
    (hfew : ((backTo cpos (starEach (e :: es) X.env)).all (fun x => !x.1) && (backToKw cpos (keywordEach [] X.env)).all (fun x => x.1.isSome)
      && decide ((e :: es).length + ([] : List Keyword).length + (if ([] : List Keyword).isEmpty then 0 else 1) < 30)) = true := by rfl)
    (hline : (apos.endLine == cpos.line) = true := by rfl) (hs : starEach (e :: es) X.env = (false, eval e X.env) :: starEach es X.env := by rfl) (hplain : (backTo cpos (starEach es X.env)).any (·.1) = false := by rfl) :
    SndE X (.Call (.Attribute o name apos) (e :: es) [] cpos) (mMeth T gm mo m) := by
  refine ⟨?_⟩
  intro W tk en σ r H S Q er ro dn
  refine wE_of (pe_bm pa slot hty (mt_wM X id) (pe_wE X o) (pa_wA X _) hbase hfew hline hs hplain) ?_
  refine ho.run W tk en σ r H S _ er ro (Dn.imp (Dn.bind dn) fun x H1 ⟨d, S1, r1, e1, s1, o1, k1, d1⟩ => ?_)
  obtain ⟨ht, d1⟩ := dn_if d1
  refine ⟨tyD_ok o1 k1 ht hT, ha.run W tk en σ r1 H1 S1 _ (er.mono s1) o1 (Dn.imp (Dn.bind d1) fun xs H2 ⟨ds, S2, r2, e2, s2, o2, k2, d2⟩ => ?_)⟩
  obtain ⟨z, S', g1, ed⟩ := dn_ofOpt d2
  exact hm.run d ds z x xs r2 H2 S2 S' Q g1 (k1.mono s2) k2 o2 ed
def gApp : GM := fun d ds S => match d, ds with
  | .ref n, [y] => match S[n]? with
    | some (.lst xs) => if xs.length < sizeLine then some (.non, S.set n (.lst (xs ++ [y]))) else none
    | _ => none
  | _, _ => none
theorem m_append : MtD X "list.append" gApp := by
  refine ⟨?_⟩
  intro d ds z x xs r H S S' Q g1 k1 k2 o ed pins s σ v us I rx rs
  unfold gApp at g1
  split at g1
  · rename_i n y
    obtain ⟨p, hp, rfl⟩ := k1
    obtain ⟨w, rfl, kw⟩ := k2.one_inv
    split at g1
    · rename_i ys hq
      split at g1
      · rename_i hz
        cases g1
        obtain ⟨vs, h1, h2⟩ := o.ob n _ p hq hp
        have ss : Stp r H r (upd H p (.lst (vs ++ [w]))) := Stp.mut h1 trivial
        refine mt_append pins s σ H (.ref p) [w] v us Q I rx rs ⟨p, vs, w, rfl, rfl, h1, by rw [← h2.length]; exact hz, ?_⟩
        exact ed r _ _ ss (o.mut hp h1 trivial ⟨_, upd_same, (h2.mono ss).append (VRs.one (kw.mono ss))⟩) rfl
      · cases g1
    · cases g1
  · cases g1
/-! ### {k: v, ..} -/
def PRs (K : PySem.W.Frag) (r : List Addr) (H : Hp) : List (D × D) → List (V × V) → Prop
  | [], vs => vs = []
  | p :: ds, vs => ∃ v w ws, vs = (v, w) :: ws ∧ VR K r H p.1 v ∧ VR K r H p.2 w ∧ PRs K r H ds ws
def trsE (X : Cx) : List Expr → List Expr → List (TE × TE)
  | k :: ks, v :: vs => (wE X k, wE X v) :: trsE X ks vs
  | _, _ => []
abbrev MP := En → Store → Res (List (D × D))
structure SndPs (X : Cx) (ks vs : List Expr) (m : MP) : Prop where
  run : ∀ (W : WX), Takes X W → ∀ (en : En) (σ : L2.St) (r : List Addr) (H : Hp) (S : Store) (Q : List (V × V) → Hp → Prop), ER X.K r H en σ → ROk X.K r H S → Dn X.K r H (PRs X.K) (m en S) Q (WE W σ) → tPairs (trsE X ks vs) σ H Q
def mPsN : MP := fun _ S => .ok [] S
def mPsC (mk mv : ME) (m : MP) : MP := fun en S => (mk en S).bind fun k S1 => (mv en S1).bind fun v S2 => (m en S2).bind fun ps S3 => .ok ((k, v) :: ps) S3
theorem ps_n : SndPs X [] [] mPsN := .mk fun W tk en σ r H S Q er ro dn => Dn.ok_here (R := PRs X.K) (a := []) (v := []) dn ro rfl
theorem PRs.mono {K : PySem.W.Frag} {r r' : List Addr} {H H' : Hp} (s : Stp r H r' H') : ∀ {ds : List (D × D)} {vs : List (V × V)}, PRs K r H ds vs → PRs K r' H' ds vs
  | [], _, h => h
  | _ :: _, _, ⟨v, w, ws, h1, h2, h3, h4⟩ => ⟨v, w, ws, h1, h2.mono s, h3.mono s, PRs.mono s h4⟩
theorem ps_c {kk vv : Expr} {ks vs : List Expr} {mk mw : ME} {m : MP} (hk : SndE X kk mk) (hv : SndE X vv mw) (hr : SndPs X ks vs m) : SndPs X (kk :: ks) (vv :: vs) (mPsC mk mw m) := by
  refine ⟨?_⟩
  intro W tk en σ r H S Q er ro dn
  refine hk.run W tk en σ r H S _ er ro (Dn.imp (Dn.bind dn) fun x H1 ⟨d, S1, r1, e1, s1, o1, k1, d1⟩ => ?_)
  refine hv.run W tk en σ r1 H1 S1 _ (er.mono s1) o1 (Dn.imp (Dn.bind d1) fun y H2 ⟨e, S2, r2, e2, s2, o2, k2, d2⟩ => ?_)
  refine hr.run W tk en σ r2 H2 S2 _ ((er.mono s1).mono s2) o2 (Dn.imp (Dn.bind d2) fun ps H3 ⟨ds, S3, r3, e3, s3, o3, k3, d3⟩ => ?_)
  exact Dn.ok_here (R := PRs X.K) d3 o3 ⟨x, y, ps, rfl, (k1.mono s2).mono s3, k2.mono s3, k3⟩
theorem pps_of : ∀ (ks vs : List Expr) (pos : Pos), ks.length = vs.length → PPs X pos (ks.map some) vs (trsE X ks vs)
  | [], [], pos, _ => pps_nil
  | k :: ks, v :: vs, pos, h => pps_cons (pe_wE X k) (pe_wE X v) (pps_of ks vs pos (by simpa using h))
def keysD : List (D × D) → Option (List (Key × D))
  | [] => some []
  | p :: r => (keyD p.1).bind fun k => (keysD r).map fun l => (k, p.2) :: l
def mergeD (kvs more : List (Key × D)) : List (Key × D) := more.foldl (fun acc kv => putKD acc kv.1 kv.2) kvs
theorem KR.merge {K : PySem.W.Frag} {r : List Addr} {H : Hp} : ∀ {more : List (Key × D)} {vm : List (Key × V)} {kvs : List (Key × D)} {vs : List (Key × V)}, KR K r H more vm → KR K r H kvs vs → KR K r H (mergeD kvs more) (mergeK vs vm)
  | [], vm, _, _, h, k => by have h : vm = [] := h; subst h; exact k
  | p :: ms, vm, _, _, h, k => by
    obtain ⟨v, ws, rfl, h1, h2⟩ := h
    show KR K r H (mergeD (putKD _ p.1 p.2) ms) (mergeK (putK _ p.1 v) ws)
    exact KR.merge h2 (KR.put k h1)
theorem keysD_ok {K : PySem.W.Frag} {r : List Addr} {H : Hp} : ∀ {ds : List (D × D)} {ps : List (V × V)} {kvs : List (Key × D)}, keysD ds = some kvs → PRs K r H ds ps → ∃ vk : List (Key × V), ps = vk.map (fun kv => (kV kv.1, kv.2)) ∧ KR K r H kvs vk ∧ vk.length = kvs.length
  | [], ps, _, e, h => by cases e; exact ⟨[], h, rfl, rfl⟩
  | p :: ds, ps, _, e, h => by
    obtain ⟨v, w, ws, rfl, h1, h2, h3⟩ := h
    obtain ⟨k, e1, e⟩ := Option.bind_eq_some_iff.mp e
    obtain ⟨l, e2, e⟩ := Option.map_eq_some_iff.mp e
    subst e
    obtain ⟨vk, rfl, q, ql⟩ := keysD_ok e2 h3
    exact ⟨(k, w) :: vk, by rw [keyD_ok e1 h1]; rfl, ⟨w, vk, rfl, h2, q⟩, by simp [ql]⟩
def mDispE (n : Nat) (ps : List (D × D)) (S : Store) : Option (D × Store) := match S[n]? with
  | some (.dct []) => (keysD ps).bind fun kvs => if kvs.length ≤ 15 then some (.ref n, S.set n (.dct (mergeD [] kvs))) else none
  | _ => none
def mDisp (m : MP) : ME := fun en S => (m en (S ++ [.dct []])).bind fun ps S1 => ofOpt (mDispE S.length ps S1)
theorem new_dct {r : List Addr} {H : Hp} {S : Store} {q : Addr} (o : ROk X.K r H S) (hq : H q = none) :
    Stp r H (r ++ [q]) (upd H q (.dK [])) ∧ ROk X.K (r ++ [q]) (upd H q (.dK [])) (S ++ [.dct []]) ∧ (r ++ [q])[S.length]? = some q :=
  ⟨Stp.new hq, o.new hq ⟨[], upd_same, rfl⟩, by rw [← o.len, List.getElem?_append_right (Nat.le_refl _), Nat.sub_self]; rfl⟩
theorem e_disp {ks vs : List Expr} {m : MP} (h : SndPs X ks vs m) (hl : ks.length = vs.length := by rfl) (h0 : ks ≠ [] := by simp) (h15 : ks.length ≤ 15 := by decide) (hall : (ks.map some).all (·.isSome) = true := by rfl) : SndE X (.Dict (ks.map some) vs pos) (mDisp m) := by
  refine ⟨?_⟩
  intro W tk en σ r H S Q er ro dn
  refine wE_of (pe_disp (pps_of ks vs pos hl) hall (by rw [List.length_map]; exact hl) (by simpa using h0) (by rw [List.length_map]; exact h15)) ?_
  intro p hp
  obtain ⟨n1, n2, n3⟩ := new_dct ro hp
  refine h.run W tk en σ _ _ _ _ (er.mono n1) n2 (Dn.imp (Dn.bind (Dn.mono n1 dn)) fun ps H2 ⟨ds, S2, r2, e2, s2, o2, k2, d2⟩ => ?_)
  obtain ⟨z, S', g1, ed⟩ := dn_ofOpt d2
  have hp2 := s2.pre _ _ n3
  unfold mDispE at g1
  split at g1
  · rename_i hq
    obtain ⟨vs0, h1, h2⟩ := o2.ob _ _ p hq hp2
    have h2 : vs0 = [] := h2
    subst h2
    obtain ⟨kvs, h3, g1⟩ := Option.bind_eq_some_iff.mp g1
    split at g1
    · rename_i hz
      cases g1
      obtain ⟨vk, rfl, q, ql⟩ := keysD_ok h3 k2
      refine ⟨h1, vk, rfl, by rw [ql]; exact hz, ?_⟩
      have ss : Stp r2 H2 r2 (upd H2 p (.dK (mergeK [] vk))) := Stp.mut h1 trivial
      exact ed r2 _ _ ss (o2.mut hp2 h1 trivial ⟨_, upd_same, KR.merge (q.mono ss) rfl⟩) ⟨p, hp2, rfl⟩
    · cases g1
  · cases g1
/-- {} -/
def mDnew : ME := fun _ S => .ok (.ref S.length) (S ++ [.dct []])
theorem e_dnew : SndE X (.Dict [] [] pos) mDnew := by
  refine ⟨?_⟩
  intro W tk en σ r H S Q er ro dn
  refine wE_of pe_dnewK fun p hp => ?_
  obtain ⟨n1, n2, n3⟩ := new_dct ro hp
  exact dn _ _ _ n1 n2 ⟨p, n3, rfl⟩
end
end Q

namespace Q
open PySem PySem.Spec PyProof.Rows L2
theorem Gd.blk {X : Cx} {k : Nat} (g : Gd X k) {s : Shared} {H : Hp} {scope : Scope} {cenv : Env} {fp : List Addr} : Gd (X.blk s H scope cenv fp) k := ⟨g.calm, g.room, g.gd⟩
theorem Gd.mono {X : Cx} {j k : Nat} (g : Gd X k) (h : j ≤ k) : Gd X j := ⟨g.calm, g.room.mono h, g.gd⟩
theorem Gd.eq {X : Cx} {k : Nat} (g : Gd X k) : X.A.units + 64 < cLine := by have := g.room.un; omega
/-- the rounds that a loop of the text may take -/
@[irreducible] def bigN : Nat := 10000000
/-- a def that stands in K -/
theorem funD_mk {K : PySem.W.Frag} {x qual : Str} {st : Stmt} {f : Addr} {oc : Value} {od an : Option Addr} {osl : Array (Option Value)} {dV kV doc pm cdv ct : Value} {dvs : List V} (l : K.lookup f = some ⟨oc, od, .func (PySem.W.fnOf x qual (defArgs st) (defBody st) (defScope st) dV kV doc pm an cdv ct), osl⟩)
    (c : PySem.W.codeIn K cdv qual = true) (kp : PySem.W.keepIn K (.ref f) = true) (hd : DflV K dV dvs) : FunD K x qual (defArgs st) (defBody st) (defScope st) dvs [] f (PySem.W.fnOf x qual (defArgs st) (defBody st) (defScope st) dV kV doc pm an cdv ct) :=
  ⟨⟨oc, od, dV, kV, doc, pm, an, cdv, ct, osl, rfl, l, c, hd, .inl rfl⟩, kp⟩
theorem dfl0 {K : PySem.W.Frag} : DflV K .none [] := .inl ⟨rfl, rfl⟩
end Q

namespace Q
open PySem PySem.Spec PyProof.Rows L2
variable [Gh : Ghost]
section
variable {X : Cx} {k : Nat}
/-! ### str(..) -/
end
/-! ### a def that calls itself: so many levels -/
theorem FnM.zero {P : Program} {w : World} {K : PySem.W.Frag} {mg : Str → Option Value} {base : Heap} {k : Nat} {f : Addr} {fd : FuncData} {ps : List Str} : FnM P w K mg base k f fd ps (fun _ _ => .bad) :=
  ⟨fun _ _ _ _ _ _ _ _ _ _ _ _ _ _ _ _ _ _ _ _ dn => dn.elim⟩
end Q

namespace Q
open PySem PySem.Spec PyProof.Rows L2
section
variable {α β : Type} {a : α} {S : Store} {f : α → Store → Res β} {en : En}
@[simp] theorem bind_ok : (Res.ok a S).bind f = f a S := rfl
@[simp] theorem stm_ok {f : α → Store → SRes} : (Res.ok a S).stm en f = f a S := rfl
@[simp] theorem seq_nx {f : MS} : (SRes.nx en S).seq f = f en S := rfl
@[simp] theorem seq_rt {f : MS} {d : D} : (SRes.rt d S).seq f = .rt d S := rfl
@[simp] theorem ofOpt_some : ofOpt (some (a, S)) = .ok a S := rfl
@[simp] theorem endM_rt {d : D} : endM (.rt d S) = .ok d S := rfl
@[simp] theorem endM_nx : endM (.nx en S) = .ok .non S := rfl
@[simp] theorem mSeq_eq {a b : MS} : mSeq a b en S = (a en S).seq b := rfl
@[simp] theorem mSkip_eq : mSkip en S = .nx en S := rfl
@[simp] theorem mRet_eq {m : ME} : mRet m en S = (m en S).stm en fun d S1 => .rt d S1 := rfl
@[simp] theorem mExpr_eq {m : ME} : mExpr m en S = (m en S).stm en fun _ S1 => .nx en S1 := rfl
@[simp] theorem mSet_eq {i : Nat} {m : ME} : mSet i m en S = (m en S).stm en fun d S1 => .nx (en.set i (some d)) S1 := rfl
@[simp] theorem mC_eq {d : D} : mC d en S = .ok d S := rfl
@[simp] theorem m2_eq {g : G2} {x y : ME} : m2 g x y en S = (x en S).bind fun d S1 => (y en S1).bind fun e S2 => ofOpt (g d e S2) := rfl
@[simp] theorem m1_eq {g : G1} {x : ME} : m1 g x en S = (x en S).bind fun d S1 => ofOpt (g d S1) := rfl
@[simp] theorem mNil_eq : mNil en S = .ok [] S := rfl
@[simp] theorem mCons_eq {x : ME} {m : MA} : mCons x m en S = (x en S).bind fun d S1 => (m en S1).bind fun ds S2 => .ok (d :: ds) S2 := rfl
@[simp] theorem mCall_eq {g : GN} {m : MA} : mCall g m en S = (m en S).bind fun ds S1 => ofOpt (g ds S1) := rfl
@[simp] theorem g1N_eq {g : G1} {d : D} : g1N g [d] S = g d S := rfl
@[simp] theorem g2N_eq {g : G2} {d e : D} : g2N g [d, e] S = g d e S := rfl
@[simp] theorem mB_eq {m : ME} : mB m en S = (m en S).bind fun d S1 => asB (boolD d) S1 := rfl
@[simp] theorem boolD_bl {b : Bool} : boolD (.bl b) = some b := rfl
@[simp] theorem asB_some {b : Bool} : asB (some b) S = .ok b S := rfl
@[simp] theorem mNot_eq {m : MT} : mNot m en S = (m en S).bind fun b S1 => .ok (!b) S1 := rfl
@[simp] theorem mTr_eq {m : ME} : mTr m en S = (m en S).bind fun d S1 => asB (truD d S1) S1 := rfl
@[simp] theorem truD_bl {b : Bool} : truD (.bl b) S = some b := rfl
@[simp] theorem truD_int {i : Int} : truD (.int i) S = some (i != 0) := rfl
@[simp] theorem mStore_eq {mo mi mv : ME} : mStore mo mi mv en S = (mv en S).stm en fun z S1 => (mo en S1).stm en fun d S2 => (mi en S2).stm en fun e S3 => mStoreP (storD d e z S3) en := rfl
@[simp] theorem mStoreP_some : mStoreP (some S) en = .nx en S := rfl
theorem mVar_at {i : Nat} {d : D} (h : en[i]? = some (some d)) : mVar i en S = .ok d S := by unfold mVar; rw [h]
@[simp] theorem gI_int {c : Int → Int → Bool} {f : Int → Int → D} {i j : Int} : gI c f (.int i) (.int j) S = if c i j then some (f i j, S) else none := rfl
@[simp] theorem gAdd_int {i j : Int} : gAdd (.int i) (.int j) S = some (.int (i + j), S) := rfl
@[simp] theorem gSub_int {i j : Int} : gSub (.int i) (.int j) S = some (.int (i - j), S) := rfl
theorem gMul_int {i j : Int} (h : i.natAbs.log2 + j.natAbs.log2 < 1000000) : gMul (.int i) (.int j) S = some (.int (i * j), S) := by unfold gMul; dsimp only; rw [if_pos h]
theorem gMod_int {i j : Int} (h : 0 < j) : gMod (.int i) (.int j) S = some (.int (i % j), S) := by unfold gMod; rw [gI_int, if_pos (by simpa using h)]
theorem gDiv_int {i j : Int} (h : 0 < j) (h2 : j.natAbs.log2 < 9000) : gDiv (.int i) (.int j) S = some (.int (i / j), S) := by unfold gDiv; rw [gI_int, if_pos (by simp [h, h2])]
@[simp] theorem gInt_int {i : Int} : gInt (.int i) S = some (.int i, S) := rfl
@[simp] theorem gLt_int {i j : Int} : gLt (.int i) (.int j) S = some (.bl (decide (i < j)), S) := rfl
@[simp] theorem gLe_int {i j : Int} : gLe (.int i) (.int j) S = some (.bl (decide (i ≤ j)), S) := rfl
@[simp] theorem gGt_int {i j : Int} : gGt (.int i) (.int j) S = some (.bl (decide (j < i)), S) := rfl
@[simp] theorem gGe_int {i j : Int} : gGe (.int i) (.int j) S = some (.bl (decide (j ≤ i)), S) := rfl
@[simp] theorem gAbs_int {i : Int} : gAbs (.int i) S = some (.int (if i < 0 then -i else i), S) := rfl
@[simp] theorem gNeg_int {i : Int} : gNeg (.int i) S = some (.int (-i), S) := rfl
end
theorem natAbs_mod_lt {i m : Int} (h : 0 < m) : (i % m).natAbs < m.natAbs := by
  have h1 := Int.emod_nonneg i (by omega : m ≠ 0)
  have h2 := Int.emod_lt_of_pos i h
  omega
theorem log2_lt' {n k : Nat} (h : n < 2 ^ k) : n.log2 ≤ k := by
  rcases Nat.eq_zero_or_pos n with rfl | hp
  · simp
  · exact Nat.le_of_lt ((Nat.log2_lt (by omega)).mpr h)
/-! ### the pen -/
def penK (c : Nat) (t ρ : Int) : List (Key × D) := [(.inr "cells", .ref c), (.inr "turn", .int t), (.inr "rest", .int ρ)]
structure Pen (p c : Nat) (n : Nat) (S : Store) : Prop where
  ex : ∃ (ns : List Int) (t ρ : Int), S[p]? = some (.dct (penK c t ρ)) ∧ S[c]? = some (.lst (ns.map D.int)) ∧ ns.length ≤ 63 ∧ (∀ z ∈ ns, z.natAbs < 2 ^ 1048577) ∧ 0 ≤ t ∧ t ≤ n ∧ 0 ≤ ρ ∧ ρ.natAbs < 2 ^ 1048577
  ne : c ≠ p
/-- the store may have grown, the rest stands but for the pen -/
structure Grow (p : Nat) (S S' : Store) : Prop where
  len : S.length ≤ S'.length
  eq : ∀ i, i < S.length → i ≠ p → S'[i]? = S[i]?
theorem Grow.refl (p : Nat) (S : Store) : Grow p S S := ⟨Nat.le_refl _, fun _ _ _ => rfl⟩
theorem Grow.trans {p : Nat} {S S1 S2 : Store} (a : Grow p S S1) (b : Grow p S1 S2) : Grow p S S2 := ⟨Nat.le_trans a.len b.len, fun i h n => (b.eq i (Nat.lt_of_lt_of_le h a.len) n).trans (a.eq i h n)⟩
theorem Grow.set {p : Nat} {S : Store} {o : O} : Grow p S (S.set p o) := ⟨by rw [List.length_set]; exact Nat.le_refl _, fun i _ n => List.getElem?_set_ne (Ne.symm n)⟩
theorem Grow.push {p : Nat} {S T : Store} : Grow p S (S ++ T) := ⟨by rw [List.length_append]; exact Nat.le_add_right _ _, fun i h _ => List.getElem?_append_left h⟩
theorem lt_of_at {S : Store} {i : Nat} {o : O} (h : S[i]? = some o) : i < S.length := (List.getElem?_eq_some_iff.mp h).1
section
variable {p c : Nat} {t ρ : Int} {S : Store}
theorem sub_cells (h : S[p]? = some (.dct (penK c t ρ))) : gSubs (.ref p) (.str "cells") S = some (.ref c, S) := by
  unfold gSubs subD dctD
  dsimp only
  rw [h]
  rfl
theorem sub_turn (h : S[p]? = some (.dct (penK c t ρ))) : gSubs (.ref p) (.str "turn") S = some (.int t, S) := by
  unfold gSubs subD dctD
  dsimp only
  rw [h]
  have : lookK (penK c t ρ) (.inr "turn") = some (.int t) := by kernel_rfl
  show (lookK (penK c t ρ) (.inr "turn")).map _ = _
  rw [this]
  rfl
theorem sub_rest (h : S[p]? = some (.dct (penK c t ρ))) : gSubs (.ref p) (.str "rest") S = some (.int ρ, S) := by
  unfold gSubs subD dctD
  dsimp only
  rw [h]
  have : lookK (penK c t ρ) (.inr "rest") = some (.int ρ) := by kernel_rfl
  show (lookK (penK c t ρ) (.inr "rest")).map _ = _
  rw [this]
  rfl
theorem stor_turn (h : S[p]? = some (.dct (penK c t ρ))) (v : Int) : storD (.ref p) (.str "turn") (.int v) S = some (S.set p (.dct (penK c v ρ))) := by
  unfold storD
  dsimp only
  rw [h]
  have e : putKD (penK c t ρ) (.inr "turn") (.int v) = penK c v ρ := by kernel_rfl
  show (some (Sum.inr ("turn" : Str))).bind _ = _
  simp only [Option.bind_some]
  rw [if_pos (by show 3 < sizeLine; decide)]
  exact congrArg (fun z => some (S.set p (.dct z))) e
theorem stor_rest (h : S[p]? = some (.dct (penK c t ρ))) (v : Int) : storD (.ref p) (.str "rest") (.int v) S = some (S.set p (.dct (penK c t v))) := by
  unfold storD
  dsimp only
  rw [h]
  have e : putKD (penK c t ρ) (.inr "rest") (.int v) = penK c t v := by kernel_rfl
  show (some (Sum.inr ("rest" : Str))).bind _ = _
  simp only [Option.bind_some]
  rw [if_pos (by show 3 < sizeLine; decide)]
  exact congrArg (fun z => some (S.set p (.dct z))) e
end
end Q

namespace Q
open PySem PySem.Spec PyProof.Rows L2
theorem Pen.set {p c n : Nat} {S : Store} {ns : List Int} {t ρ : Int} (hp : p < S.length) (hc : S[c]? = some (.lst (ns.map D.int))) (ne : c ≠ p) (hl : ns.length ≤ 63) (hb : ∀ z ∈ ns, z.natAbs < 2 ^ 1048577) (h1 : 0 ≤ t) (h2 : t ≤ n) (h3 : 0 ≤ ρ) (h4 : ρ.natAbs < 2 ^ 1048577) :
    Pen p c n (S.set p (.dct (penK c t ρ))) :=
  ⟨⟨ns, t, ρ, by rw [List.getElem?_set_self hp], by rw [List.getElem?_set_ne (Ne.symm ne)]; exact hc, hl, hb, h1, h2, h3, h4⟩, ne⟩
end Q

namespace Q
open PySem PySem.Spec PyProof.Rows L2
theorem py_nil {S : Store} {m : Nat} (h : S[m]? = some (.lst [])) : pyD S (.ref m) = some (.list []) := by
  unfold pyD toPy
  rw [h]
  rfl
theorem eqP_nil {S : Store} {c m : Nat} {xs : List D} (h : S[c]? = some (.lst xs)) (h2 : S[m]? = some (.lst [])) : eqP (.ref c) (.ref m) S = some xs.isEmpty := by
  have e1 : seqOf (.ref c) S = some (false, xs.length) := by unfold seqOf; dsimp only; rw [h]
  have e2 : seqOf (.ref m) S = some (false, 0) := by unfold seqOf; dsimp only; rw [h2]; rfl
  unfold eqP
  dsimp only
  cases xs with
  | nil =>
    have e : eqLen (.ref c) (.ref m) S = none := by
      unfold eqLen
      rw [e1, e2]
      rfl
    rw [e]
    dsimp only
    unfold eqPD
    rw [py_nil h, py_nil h2]
    rfl
  | cons x l =>
    have e : eqLen (.ref c) (.ref m) S = some false := by
      unfold eqLen
      rw [e1, e2]
      show (if (false = false) ∧ (l.length + 1 ≠ 0) ∧ (false = false ∨ l.length + 1 = 0 ∨ 0 = 0) then some false else none) = some false
      exact if_pos ⟨rfl, by omega, .inl rfl⟩
    rw [e]
    rfl
theorem ne_nil' {S : Store} {c m : Nat} {xs : List D} (h : S[c]? = some (.lst xs)) (h2 : S[m]? = some (.lst [])) : gNe (.ref c) (.ref m) S = some (.bl (!xs.isEmpty), S) := by
  unfold gNe
  rw [eqP_nil h h2]
  rfl
theorem len_at {S : Store} {c : Nat} {xs : List D} (h : S[c]? = some (.lst xs)) : gLen (.ref c) S = some (.int xs.length, S) := by
  unfold gLen lenD
  dsimp only
  rw [h]
  rfl
theorem pow18 {S : Store} : gPow (.int 10) (.int 18) S = some (.int (10 ^ 18), S) := by
  unfold gPow
  rw [gI_int, if_pos (by decide)]
  rfl
end Q

namespace Q
open PySem PySem.Spec PyProof.Rows L2
end Q

namespace Q
open PySem PySem.Spec PyProof.Rows L2
end Q

namespace Q
open PySem PySem.Spec PyProof.Rows L2
/-! ### loops -/
/-! ### the length of a shown value -/
theorem textFrom_le : ∀ (ts : List Str) (k : Nat) (acc : Str), (textFrom k acc ts).length ≤ acc.length + (ts.map fun t => t.length + 2).sum
  | [], _, acc => by show acc.length ≤ _; simp
  | t :: r, k, acc => by
    have h := textFrom_le r (k + 1) (acc ++ (if k > 0 then ", " else "" : String) ++ t)
    have e : (acc ++ (if k > 0 then ", " else "" : String) ++ t).length = acc.length + (if k > 0 then 2 else 0) + t.length := by
      rw [strLen_append, strLen_append]
      split <;> rfl
    have e2 : textFrom k acc (t :: r) = textFrom (k + 1) (acc ++ (if k > 0 then ", " else "" : String) ++ t) r := rfl
    rw [e2]
    simp only [List.map_cons, List.sum_cons]
    have : (if k > 0 then 2 else 0) ≤ 2 := by split <;> omega
    omega
end Q

namespace Q
open PySem PySem.Spec PyProof.Rows L2
/-! ### pieces that only add to the store -/
theorem at_mid {S T : Store} {o : O} : (S ++ o :: T)[S.length]? = some o := by simp
theorem at_left {S T : Store} {i : Nat} {o : O} (h : S[i]? = some o) : (S ++ T)[i]? = some o := by rw [List.getElem?_append_left (lt_of_at h)]; exact h
theorem all_at {S : Store} {k : Nat} {bs : List Bool} (h : S[k]? = some (.lst (bs.map D.bl))) : gAll (.ref k) S = some (.bl (bs.all fun b => b), S) := by
  have e : ∀ l : List Bool, blsD (l.map D.bl) = some l := fun l => by
    induction l with
    | nil => rfl
    | cons a l ih => rw [List.map_cons, blsD, ih]; rfl
  unfold gAll lstD
  dsimp only
  rw [h]
  simp only [Option.bind_some]
  rw [e]
  rfl
theorem app_at {S : Store} {k : Nat} {ds : List D} {y : D} (h : S[k]? = some (.lst ds)) (hz : ds.length < sizeLine) : gApp (.ref k) [y] S = some (.non, S.set k (.lst (ds ++ [y]))) := by
  unfold gApp
  dsimp only
  rw [h]
  dsimp only
  rw [if_pos hz]
theorem next_rng {n : Nat} (i : Nat) (S : Store) : nextM (.rng 0 n) i S = some ((List.range n).map fun k => D.int (k : Nat))[i]? := by
  unfold nextM
  by_cases hi : i < n
  · rw [if_pos hi, List.getElem?_map, List.getElem?_range hi]
    simp
  · rw [if_neg hi, List.getElem?_eq_none (by simp; omega)]
theorem Pen.to {p c n m : Nat} {S S' : Store} (P : Pen p c n S) (h1 : S'[p]? = S[p]?) (h2 : S'[c]? = S[c]?) (h : n ≤ m) : Pen p c m S' := by
  obtain ⟨⟨ns, t, ρ, q1, q2, q3, q4, q5, q6, q7, q8⟩, ne⟩ := P
  exact ⟨⟨ns, t, ρ, h1.trans q1, h2.trans q2, q3, q4, q5, by omega, q7, q8⟩, ne⟩
theorem Pen.app {p c n : Nat} {S T : Store} (P : Pen p c n S) : Pen p c n (S ++ T) := by
  obtain ⟨ns, t, ρ, q1, q2, _⟩ := P.ex
  exact P.to ((at_left q1).trans q1.symm) ((at_left q2).trans q2.symm) (Nat.le_refl _)
end Q

namespace Q
open PySem PySem.Spec PyProof.Rows L2
/-! ### what is wished of a mirror's result, told ahead -/
abbrev EK := Addr → Option Nat → Store → Prop
def wpE {α : Type} (m : Res α) (P : α → Store → Prop) (E : EK) : Prop := match m with
  | .ok a S => P a S
  | .err C n S => E C n S
  | .bad => False
abbrev XKs := Addr → Option Nat → En → Store → Prop
def wpS (m : SRes) (N : En → Store → Prop) (R : D → Store → Prop) (B C : En → Store → Prop) (X : XKs) : Prop := match m with
  | .nx e S => N e S
  | .rt d S => R d S
  | .bk e S => B e S
  | .ct e S => C e S
  | .err c n e S => X c n e S
  | .bad => False
def wpO (o : Option (D × Store)) (P : D → Store → Prop) : Prop := match o with
  | some p => P p.1 p.2
  | none => False
/-- what stood stands -/
abbrev Kp (S T : Store) : Prop := ∀ (n : Nat) (o : O), S[n]? = some o → T[n]? = some o
theorem Kp.refl (S : Store) : Kp S S := fun _ _ h => h
theorem Kp.trans {S T U : Store} (a : Kp S T) (b : Kp T U) : Kp S U := fun n o h => b n o (a n o h)
theorem Kp.app {S T : Store} : Kp S (S ++ T) := fun _ _ h => at_left h
theorem Kp.len {S T : Store} (h : Kp S T) : S.length ≤ T.length := by
  rcases Nat.eq_zero_or_pos S.length with e | e
  · omega
  · have := lt_of_at (h (S.length - 1) _ (List.getElem?_eq_getElem (by omega)))
    omega
theorem Kp.setN {S T : Store} {n : Nat} {o : O} (h : Kp S T) (hn : S.length ≤ n) : Kp S (T.set n o) := fun m q e => by
  have := lt_of_at e
  rw [List.getElem?_set_ne (by omega)]
  exact h m q e
theorem Kp.no {S T : Store} {n : Nat} {o : O} (h : Kp S T) (e : T[n]? = none) : S[n]? = none := by
  cases q : S[n]? with
  | none => rfl
  | some o => rw [h _ _ q] at e; cases e
/-- .. but for the object p -/
structure KpX (p : Nat) (S T : Store) : Prop where
  k : ∀ (n : Nat) (o : O), n ≠ p → S[n]? = some o → T[n]? = some o
  len : S.length ≤ T.length
theorem KpX.refl (p : Nat) (S : Store) : KpX p S S := ⟨fun _ _ _ h => h, Nat.le_refl _⟩
theorem KpX.trans {p : Nat} {S T U : Store} (a : KpX p S T) (b : KpX p T U) : KpX p S U := ⟨fun n o q h => b.k n o q (a.k n o q h), Nat.le_trans a.len b.len⟩
theorem Kp.x {p : Nat} {S T : Store} (h : Kp S T) : KpX p S T := ⟨fun n o _ e => h n o e, h.len⟩
theorem KpX.setN {S T : Store} {n p : Nat} {o : O} (h : KpX p S T) (hn : S.length ≤ n) : KpX p S (T.set n o) := ⟨fun m q hm e => by
  have := lt_of_at e
  rw [List.getElem?_set_ne (by omega)]
  exact h.k m q hm e, by rw [List.length_set]; exact h.len⟩
theorem Grow.kx {p : Nat} {S T : Store} (g : Grow p S T) : KpX p S T := ⟨fun n o h e => (g.eq n (lt_of_at e) h).trans e, g.len⟩
theorem Pen.kp {p c n : Nat} {S T : Store} (P : Pen p c n S) (k : Kp S T) : Pen p c n T := by
  obtain ⟨⟨ns, t, ρ, q1, q2, q⟩, ne⟩ := P
  exact ⟨⟨ns, t, ρ, k _ _ q1, k _ _ q2, q⟩, ne⟩
theorem Pen.le {p c n m : Nat} {S : Store} (P : Pen p c n S) (h : n ≤ m) : Pen p c m S := by
  obtain ⟨⟨ns, t, ρ, q1, q2, q3, q4, q5, q6, q7, q8⟩, ne⟩ := P
  exact ⟨⟨ns, t, ρ, q1, q2, q3, q4, q5, by omega, q7, q8⟩, ne⟩
section
variable {α β : Type} {en : En} {S : Store} {E : EK} {P : D → Store → Prop} {PB : Bool → Store → Prop} {PL : List D → Store → Prop} {N : En → Store → Prop} {R : D → Store → Prop} {B C : En → Store → Prop} {X : XKs}
theorem wpE_mono {m : Res α} {Q Q' : α → Store → Prop} {E' : EK} (h : wpE m Q E) (q : ∀ a T, Q a T → Q' a T) (e : ∀ C n T, E C n T → E' C n T) : wpE m Q' E' := by
  cases m with
  | ok a T => exact q _ _ h
  | err C n T => exact e _ _ _ h
  | bad => exact h
theorem wpE_eq {m : Res α} {Q : α → Store → Prop} {a : α} {T : Store} (h : m = .ok a T) (q : Q a T) : wpE m Q E := by rw [h]; exact q
theorem wpE_ex {m : Res α} {Q : α → Store → Prop} (h : wpE m Q (fun _ _ _ => False)) : ∃ a T, m = .ok a T ∧ Q a T := by
  cases m with
  | ok a T => exact ⟨a, T, rfl, h⟩
  | err C n T => exact h.elim
  | bad => exact h.elim
theorem wpE_bind {m : Res α} {f : α → Store → Res β} {Q : β → Store → Prop} (h : wpE m (fun a T => wpE (f a T) Q E) E) : wpE (m.bind f) Q E := by
  cases m with
  | ok a T => exact h
  | err C n T => exact h
  | bad => exact h
theorem wpO_of {o : Option (D × Store)} {d : D} {T : Store} (h : o = some (d, T)) (p : P d T) : wpO o P := by rw [h]; exact p
theorem wpE_o {o : Option (D × Store)} (h : wpO o P) : wpE (ofOpt o) P E := by
  cases o with
  | none => exact h
  | some p => exact h
theorem wpS_stm {m : Res α} {f : α → Store → SRes} (h : wpE m (fun a T => wpS (f a T) N R B C X) (fun c n T => X c n en T)) : wpS (m.stm en f) N R B C X := by
  cases m with
  | ok a T => exact h
  | err c n T => exact h
  | bad => exact h
/-! expressions -/
theorem wpE_var {i : Nat} {d : D} (h : en[i]? = some (some d)) (p : P d S) : wpE (mVar i en S) P E := by unfold mVar; rw [h]; exact p
theorem wpE_c {d : D} (p : P d S) : wpE (mC d en S) P E := p
theorem wpE_nil (p : PL [] S) : wpE (mNil en S) PL E := p
theorem wpE_cons {m : ME} {r : MA} (h : wpE (m en S) (fun d T => wpE (r en T) (fun ds U => PL (d :: ds) U) E) E) : wpE (mCons m r en S) PL E := wpE_bind (wpE_mono h (fun _ _ q => wpE_bind q) fun _ _ _ q => q)
theorem wpE_star {m : ME} {r : MA} (h : wpE (m en S) (fun d T => ∃ xs, itemsD d T = some xs ∧ wpE (r en T) (fun ds U => PL (xs ++ ds) U) E) E) : wpE (mStar m r en S) PL E :=
  wpE_bind (wpE_mono h (fun d T ⟨xs, e, q⟩ => by rw [e]; exact wpE_bind q) fun _ _ _ q => q)
theorem wpE_m2 {g : G2} {a b : ME} (h : wpE (a en S) (fun d T => wpE (b en T) (fun e U => wpO (g d e U) P) E) E) : wpE (m2 g a b en S) P E := wpE_bind (wpE_mono h (fun _ _ q => wpE_bind (wpE_mono q (fun _ _ z => wpE_o z) fun _ _ _ z => z)) fun _ _ _ q => q)
theorem wpE_m1 {g : G1} {a : ME} (h : wpE (a en S) (fun d T => wpO (g d T) P) E) : wpE (m1 g a en S) P E := wpE_bind (wpE_mono h (fun _ _ q => wpE_o q) fun _ _ _ q => q)
theorem wpE_call {g : GN} {m : MA} (h : wpE (m en S) (fun ds T => wpO (g ds T) P) E) : wpE (mCall g m en S) P E := wpE_bind (wpE_mono h (fun _ _ q => wpE_o q) fun _ _ _ q => q)
theorem wpO_g1 {g : G1} {d : D} (h : wpO (g d S) P) : wpO (g1N g [d] S) P := h
theorem wpO_g2 {g : G2} {d e : D} (h : wpO (g d e S) P) : wpO (g2N g [d, e] S) P := h
theorem wpE_tup {m : MA} (h : wpE (m en S) (fun ds T => ds.length ≤ sizeLine ∧ P (.tup ds) T) E) : wpE (mTup m en S) P E := wpE_bind (wpE_mono h (fun ds T q => by rw [if_pos q.1]; exact q.2) fun _ _ _ q => q)
theorem wpE_lst {m : MA} (h : wpE (m en S) (fun ds T => ds.length ≤ sizeLine ∧ ∀ n U, Kp T U → T.length ≤ n → U[n]? = some (.lst ds) → P (.ref n) U) E) : wpE (mLst m en S) P E :=
  wpE_bind (wpE_mono h (fun ds T q => by rw [if_pos q.1]; exact q.2 _ _ Kp.app (Nat.le_refl _) at_mid) fun _ _ _ q => q)
theorem wpE_callF {M : MF} {n : Nat} {dds : List D} {m : MA} (h : wpE (m en S) (fun ds T => (ds ++ dds).length = n ∧ wpE (M (ds ++ dds) T) P E) E) : wpE (mCallF M n dds m en S) P E :=
  wpE_bind (wpE_mono h (fun ds T q => by rw [if_pos q.1]; exact q.2) fun _ _ _ q => q)
theorem wpE_meth {t : String} {g : GM} {mo : ME} {m : MA} (h : wpE (mo en S) (fun d T => tyD d T = t ∧ wpE (m en T) (fun ds U => wpO (g d ds U) P) E) E) : wpE (mMeth t g mo m en S) P E :=
  wpE_bind (wpE_mono h (fun d T q => by rw [if_pos q.1]; exact wpE_bind (wpE_mono q.2 (fun _ _ z => wpE_o z) fun _ _ _ z => z)) fun _ _ _ q => q)
theorem wpE_if {t : MT} {a b : ME} (h : wpE (t en S) (fun k T => (k = true → wpE (a en T) P E) ∧ (k = false → wpE (b en T) P E)) E) : wpE (mIf t a b en S) P E :=
  wpE_bind (wpE_mono h (fun k T q => by cases k; exact q.2 rfl; exact q.1 rfl) fun _ _ _ q => q)
theorem wpE_andV {a b : ME} (h : wpE (a en S) (fun d T => ∃ k, truD d T = some k ∧ (k = true → wpE (b en T) P E) ∧ (k = false → P d T)) E) : wpE (mAndV a b en S) P E :=
  wpE_bind (wpE_mono h (fun d T ⟨k, e, q⟩ => by rw [e]; cases k; exact q.2 rfl; exact q.1 rfl) fun _ _ _ q => q)
theorem wpE_orV {a b : ME} (h : wpE (a en S) (fun d T => ∃ k, truD d T = some k ∧ (k = true → P d T) ∧ (k = false → wpE (b en T) P E)) E) : wpE (mOrV a b en S) P E :=
  wpE_bind (wpE_mono h (fun d T ⟨k, e, q⟩ => by rw [e]; cases k; exact q.2 rfl; exact q.1 rfl) fun _ _ _ q => q)
theorem wpE_notV {a : ME} (h : wpE (a en S) (fun d T => ∃ k, truD d T = some k ∧ P (.bl (!k)) T) E) : wpE (mNotV a en S) P E :=
  wpE_bind (wpE_mono h (fun d T ⟨k, e, q⟩ => by rw [e]; exact q) fun _ _ _ q => q)
theorem wpE_chain {g g' : G2} {a b c : ME} (h : wpE (a en S) (fun d T => wpE (b en T) (fun e U => wpO (g d e U) fun z V => ∃ k, z = .bl k ∧ (k = true → wpE (c en V) (fun f W => wpO (g' e f W) P) E) ∧ (k = false → P (.bl false) V)) E) E) : wpE (mChain g g' a b c en S) P E :=
  wpE_bind (wpE_mono h (fun d T q => wpE_bind (wpE_mono q (fun e U q => wpE_bind (wpE_mono (wpE_o q) (fun z V ⟨k, ez, q⟩ => by
    subst ez
    cases k
    · exact q.2 rfl
    · exact wpE_bind (wpE_mono (q.1 rfl) (fun _ _ z => wpE_o z) fun _ _ _ z => z)) fun _ _ _ q => q)) fun _ _ _ q => q)) fun _ _ _ q => q)
theorem wpE_dnew (h : ∀ n U, Kp S U → S.length ≤ n → U[n]? = some (.dct []) → P (.ref n) U) : wpE (mDnew en S) P E := h _ _ Kp.app (Nat.le_refl _) at_mid
/-! tests -/
theorem wpT_B {m : ME} (h : wpE (m en S) (fun d T => ∃ k, d = .bl k ∧ PB k T) E) : wpE (mB m en S) PB E := wpE_bind (wpE_mono h (fun d T ⟨k, e, q⟩ => by subst e; exact q) fun _ _ _ q => q)
theorem wpT_Tr {m : ME} (h : wpE (m en S) (fun d T => ∃ k, truD d T = some k ∧ PB k T) E) : wpE (mTr m en S) PB E := wpE_bind (wpE_mono h (fun d T ⟨k, e, q⟩ => by rw [e]; exact q) fun _ _ _ q => q)
theorem wpT_not {m : MT} (h : wpE (m en S) (fun k T => PB (!k) T) E) : wpE (mNot m en S) PB E := wpE_bind h
theorem wpT_and {a b : MT} (h : wpE (a en S) (fun k T => (k = true → wpE (b en T) PB E) ∧ (k = false → PB false T)) E) : wpE (mAnd a b en S) PB E := wpE_bind (wpE_mono h (fun k T q => by cases k; exact q.2 rfl; exact q.1 rfl) fun _ _ _ q => q)
theorem wpT_or {a b : MT} (h : wpE (a en S) (fun k T => (k = true → PB true T) ∧ (k = false → wpE (b en T) PB E)) E) : wpE (mOr a b en S) PB E := wpE_bind (wpE_mono h (fun k T q => by cases k; exact q.2 rfl; exact q.1 rfl) fun _ _ _ q => q)
theorem wpT_yes (h : PB true S) : wpE (mYes en S) PB E := h
/-! statements -/
theorem wpS_seq {a b : MS} (h : wpS (a en S) (fun e T => wpS (b e T) N R B C X) R B C X) : wpS (mSeq a b en S) N R B C X := by
  show wpS ((a en S).seq b) N R B C X
  cases q : a en S with
  | _ => rw [q] at h; exact h
theorem wpS_set {i : Nat} {m : ME} (h : wpE (m en S) (fun d T => N (en.set i (some d)) T) (fun c n T => X c n en T)) : wpS (mSet i m en S) N R B C X := wpS_stm h
theorem wpS_ret {m : ME} (h : wpE (m en S) R (fun c n T => X c n en T)) : wpS (mRet m en S) N R B C X := wpS_stm h
theorem wpS_expr {m : ME} (h : wpE (m en S) (fun _ T => N en T) (fun c n T => X c n en T)) : wpS (mExpr m en S) N R B C X := wpS_stm h
theorem wpS_skip (h : N en S) : wpS (mSkip en S) N R B C X := h
theorem wpS_if {t : MT} {a b : MS} (h : wpE (t en S) (fun k T => (k = true → wpS (a en T) N R B C X) ∧ (k = false → wpS (b en T) N R B C X)) (fun c n T => X c n en T)) : wpS (mIfS t a b en S) N R B C X :=
  wpS_stm (wpE_mono h (fun k T q => by cases k; exact q.2 rfl; exact q.1 rfl) fun _ _ _ q => q)
theorem wpS_asg {g : Pat} {m : ME} (h : wpE (m en S) (fun d T => ∃ ps, g d T = some ps ∧ N (setsE en ps) T) (fun c n T => X c n en T)) : wpS (mAsg g m en S) N R B C X :=
  wpS_stm (wpE_mono h (fun d T ⟨ps, e, q⟩ => by rw [e]; exact q) fun _ _ _ q => q)
theorem wpS_par {i j : Nat} {m : MA} (h : wpE (m en S) (fun ds T => ∃ d e, ds = [d, e] ∧ N ((en.set i (some d)).set j (some e)) T) (fun c n T => X c n en T)) : wpS (mPar i j m en S) N R B C X :=
  wpS_stm (wpE_mono h (fun ds T ⟨d, e, eq, q⟩ => by subst eq; exact q) fun _ _ _ q => q)
theorem wpS_store {mo mi mv : ME} (h : wpE (mv en S) (fun z T => wpE (mo en T) (fun d U => wpE (mi en U) (fun e V => ∃ W, storD d e z V = some W ∧ N en W) (fun c n T => X c n en T)) (fun c n T => X c n en T)) (fun c n T => X c n en T)) : wpS (mStore mo mi mv en S) N R B C X :=
  wpS_stm (wpE_mono h (fun z T q => wpS_stm (wpE_mono q (fun d U q => wpS_stm (wpE_mono q (fun e V ⟨W, eq, q⟩ => by rw [eq]; exact q) fun _ _ _ q => q)) fun _ _ _ q => q)) fun _ _ _ q => q)
/-! a def -/
theorem wpE_def {n : Nat} {b : MS} {ds : List D} (h : wpS (b (startE n ds) S) (fun _ T => P .non T) P (fun _ _ => False) (fun _ _ => False) (fun c n _ T => E c n T)) : wpE (mDef n b ds S) P E := by
  show wpE (endM (b (startE n ds) S)) P E
  cases q : b (startE n ds) S with
  | _ => rw [q] at h; exact h
/-! loops -/
theorem wpS_for {m : MIt} {g : Pat} {mb : MS} {n : Nat} (h : wpE (m en S) (fun mi T => wpS (forL mi g mb n 0 en T) N R B C X) (fun c k T => X c k en T)) : wpS (mFor m g mb n en S) N R B C X := wpS_stm h
theorem wp_forL {mi : MI} {g : Pat} {mb : MS} (xs : List D) (I : Nat → En → Store → Prop) (hx : ∀ i e T, I i e T → nextM mi i T = some xs[i]?)
    (step : ∀ i d e T, xs[i]? = some d → I i e T → ∃ ps, g d T = some ps ∧ wpS (mb (setsE e ps) T) (I (i + 1)) R N (I (i + 1)) X) (fin : ∀ e T, I xs.length e T → N e T) :
    ∀ (k n i : Nat) (e : En) (T : Store), i + k = xs.length → k < n → I i e T → wpS (forL mi g mb n i e T) N R B C X
  | 0, n, i, e, T, h1, h2, h => by
    obtain ⟨n', rfl⟩ : ∃ q, n = q + 1 := ⟨n - 1, by omega⟩
    have hi : i = xs.length := by omega
    unfold forL
    rw [hx i e T h, List.getElem?_eq_none (by omega)]
    exact fin e T (hi ▸ h)
  | k + 1, n, i, e, T, h1, h2, h => by
    obtain ⟨n', rfl⟩ : ∃ q, n = q + 1 := ⟨n - 1, by omega⟩
    have hi : i < xs.length := by omega
    unfold forL
    rw [hx i e T h, List.getElem?_eq_getElem hi]
    dsimp only
    obtain ⟨ps, e1, w⟩ := step i xs[i] e T (List.getElem?_eq_getElem hi) h
    rw [e1]
    dsimp only
    cases q : mb (setsE e ps) T with
    | nx e' T' => rw [q] at w; exact wp_forL xs I hx step fin k n' (i + 1) e' T' (by omega) (by omega) w
    | ct e' T' => rw [q] at w; exact wp_forL xs I hx step fin k n' (i + 1) e' T' (by omega) (by omega) w
    | bk e' T' => rw [q] at w; exact w
    | rt d T' => rw [q] at w; exact w
    | err c z e' T' => rw [q] at w; exact w
    | bad => rw [q] at w; exact w
/-- comprehensions -/
theorem wpE_comp {m : MIt} {g : Pat} {mt : MT} {me : ME} {own : List Nat} {n : Nat} (h : wpE (m en S) (fun mi T => wpE (compL mi g mt me T.length n 0 (wipeD en own) (T ++ [.lst []])) P E) E) : wpE (mComp m g mt me own n en S) P E := wpE_bind h
theorem wp_compL {mi : MI} {g : Pat} {mt : MT} {me : ME} {n0 : Nat} (xs : List D) (I : Nat → List D → Store → Prop) (hx : ∀ i a T, I i a T → T[n0]? = some (.lst a) → nextM mi i T = some xs[i]?)
    (step : ∀ i d a T, xs[i]? = some d → I i a T → T[n0]? = some (.lst a) → a.length ≤ i → ∃ ps, g d T = some ps ∧ wpE (mt (setsE en ps) T) (fun b U => (b = false → U[n0]? = some (.lst a) ∧ I (i + 1) a U) ∧
      (b = true → wpE (me (setsE en ps) U) (fun z V => V[n0]? = some (.lst a) ∧ I (i + 1) (a ++ [z]) (V.set n0 (.lst (a ++ [z])))) (fun _ _ _ => False))) (fun _ _ _ => False))
    (hz : xs.length < sizeLine) (fin : ∀ a T, I xs.length a T → T[n0]? = some (.lst a) → P (.ref n0) T) :
    ∀ (k n i : Nat) (a : List D) (T : Store), i + k = xs.length → k < n → a.length ≤ i → I i a T → T[n0]? = some (.lst a) → wpE (compL mi g mt me n0 n i en T) P E
  | 0, n, i, a, T, h1, h2, hl, h, ha => by
    obtain ⟨n', rfl⟩ : ∃ q, n = q + 1 := ⟨n - 1, by omega⟩
    have hi : i = xs.length := by omega
    unfold compL
    rw [hx i a T h ha, List.getElem?_eq_none (by omega)]
    exact fin a T (hi ▸ h) ha
  | k + 1, n, i, a, T, h1, h2, hl, h, ha => by
    obtain ⟨n', rfl⟩ : ∃ q, n = q + 1 := ⟨n - 1, by omega⟩
    have hi : i < xs.length := by omega
    unfold compL
    rw [hx i a T h ha, List.getElem?_eq_getElem hi]
    dsimp only
    obtain ⟨ps, e1, w⟩ := step i xs[i] a T (List.getElem?_eq_getElem hi) h ha hl
    rw [e1]
    dsimp only
    cases q : mt (setsE en ps) T with
    | err c z T' => rw [q] at w; exact w.elim
    | bad => rw [q] at w; exact w.elim
    | ok b U =>
      rw [q] at w
      show wpE (match b with | false => _ | true => _) P E
      cases b with
      | false =>
        obtain ⟨w1, w2⟩ := w.1 rfl
        exact wp_compL xs I hx step hz fin k n' (i + 1) a U (by omega) (by omega) (by omega) w2 w1
      | true =>
        have w := w.2 rfl
        dsimp only
        cases q2 : me (setsE en ps) U with
        | err c z T' => rw [q2] at w; exact w.elim
        | bad => rw [q2] at w; exact w.elim
        | ok z V =>
          rw [q2] at w
          obtain ⟨w1, w2⟩ := w
          show wpE (match V[n0]? with | some (.lst acc) => _ | _ => _) P E
          rw [w1]
          dsimp only
          rw [if_pos (by omega)]
          exact wp_compL xs I hx step hz fin k n' (i + 1) (a ++ [z]) _ (by omega) (by omega) (by simp; omega) w2 (by rw [List.getElem?_set_self (lt_of_at w1)])
end
end Q

namespace Q
open PySem PySem.Spec PyProof.Rows L2
section
variable {α β : Type} {en : En} {S : Store} {E : EK} {P : D → Store → Prop} {PB : Bool → Store → Prop} {PL : List D → Store → Prop} {N : En → Store → Prop} {R : D → Store → Prop} {B C : En → Store → Prop} {X : XKs}
theorem wpE_isvar {i : Nat} (h : wpE (mVar i en S) P E) : wpE (mVar i en S) P E := h
theorem wpE_callF0 {M : MF} {n : Nat} {m : MA} (h : wpE (m en S) (fun ds T => ds.length = n ∧ wpE (M ds T) P E) E) : wpE (mCallF M n [] m en S) P E :=
  wpE_callF (wpE_mono h (fun ds T q => by rw [List.append_nil]; exact q) fun _ _ _ q => q)
/-! operations by value -/
theorem wpO_add {i j : Int} (h : P (.int (i + j)) S) : wpO (gAdd (.int i) (.int j) S) P := h
theorem wpO_sub {i j : Int} (h : P (.int (i - j)) S) : wpO (gSub (.int i) (.int j) S) P := h
theorem wpO_neg {i : Int} (h : P (.int (-i)) S) : wpO (gNeg (.int i) S) P := h
theorem wpO_lt {i j : Int} (h : P (.bl (decide (i < j))) S) : wpO (gLt (.int i) (.int j) S) P := h
theorem wpO_le {i j : Int} (h : P (.bl (decide (i ≤ j))) S) : wpO (gLe (.int i) (.int j) S) P := h
theorem wpO_gt {i j : Int} (h : P (.bl (decide (j < i))) S) : wpO (gGt (.int i) (.int j) S) P := h
theorem wpO_ge {i j : Int} (h : P (.bl (decide (j ≤ i))) S) : wpO (gGe (.int i) (.int j) S) P := h
theorem wpO_mod {i j : Int} (h0 : 0 < j) (h : P (.int (i % j)) S) : wpO (gMod (.int i) (.int j) S) P := wpO_of (gMod_int h0) h
theorem wpO_div {i j : Int} (h0 : 0 < j) (h1 : j.natAbs.log2 < 9000) (h : P (.int (i / j)) S) : wpO (gDiv (.int i) (.int j) S) P := wpO_of (gDiv_int h0 h1) h
theorem wpO_mul {i j : Int} (h0 : i.natAbs.log2 + j.natAbs.log2 < 1000000) (h : P (.int (i * j)) S) : wpO (gMul (.int i) (.int j) S) P := wpO_of (gMul_int h0) h
theorem wpO_int {i : Int} (h : P (.int i) S) : wpO (gInt (.int i) S) P := h
theorem wpO_abs {i : Int} (h : P (.int (if i < 0 then -i else i)) S) : wpO (gAbs (.int i) S) P := h
theorem wpO_lenT {xs : List D} (h : P (.int (xs.length : Nat)) S) : wpO (gLen (.tup xs) S) P := h
theorem wpO_lenL {n : Nat} {xs : List D} (h0 : S[n]? = some (.lst xs)) (h : P (.int (xs.length : Nat)) S) : wpO (gLen (.ref n) S) P := wpO_of (len_at h0) h
def isNonB : D → Bool
  | .non => true
  | _ => false
theorem wpO_isN {d : D} (h : P (.bl (isNonB d)) S) : wpO (gIs d .non S) P := by cases d <;> exact h
theorem wpO_isNotN {d : D} (h : P (.bl (!isNonB d)) S) : wpO (gIsNot d .non S) P := by cases d <;> exact h
theorem wpO_isi {t : Bt} {d : D} {q : Kd} (h0 : kindD d S = some q) (h : P (.bl (isKd q t)) S) : wpO (gIsi t d S) P := wpO_of (by unfold gIsi; rw [h0]; rfl) h
theorem wpO_isiA {ts : List Bt} {d : D} {q : Kd} (h0 : kindD d S = some q) (h : P (.bl (ts.any (isKd q))) S) : wpO (gIsiA ts d S) P := wpO_of (by unfold gIsiA; rw [h0]; rfl) h
theorem wpO_subL {n : Nat} {xs : List D} {i : Int} {d : D} (h1 : S[n]? = some (.lst xs)) (h0 : L2.atI xs i = some d) (h : P d S) : wpO (gSubs (.ref n) (.int i) S) P := by
  refine wpO_of (d := d) (T := S) ?_ h
  unfold gSubs subD dctD
  dsimp only
  rw [h1]
  show (itemD (.ref n) (.int i) S).map _ = _
  unfold itemD
  dsimp only
  rw [h1]
  dsimp only
  rw [h0]
  rfl
theorem wpO_tupleT {xs : List D} (h : P (.tup xs) S) : wpO (gTuple (.tup xs) S) P := h
theorem wpO_listI {d : D} {xs : List D} (h0 : itemsD d S = some xs) (h : ∀ n U, Kp S U → S.length ≤ n → U[n]? = some (.lst xs) → P (.ref n) U) : wpO (gList d S) P := by
  refine wpO_of (d := .ref S.length) (T := S ++ [.lst xs]) (by unfold gList; rw [h0]; rfl) (h _ _ Kp.app (Nat.le_refl _) at_mid)
theorem wpO_all {n : Nat} {bs : List Bool} (h0 : S[n]? = some (.lst (bs.map D.bl))) (h : P (.bl (bs.all fun b => b)) S) : wpO (gAll (.ref n) S) P := wpO_of (all_at h0) h
theorem any_at {k : Nat} {bs : List Bool} (h : S[k]? = some (.lst (bs.map D.bl))) : gAny (.ref k) S = some (.bl (bs.any fun b => b), S) := by
  have e : ∀ l : List Bool, blsD (l.map D.bl) = some l := fun l => by
    induction l with
    | nil => rfl
    | cons a l ih => rw [List.map_cons, blsD, ih]; rfl
  unfold gAny lstD
  dsimp only
  rw [h]
  simp only [Option.bind_some]
  rw [e]
  rfl
theorem wpO_any {n : Nat} {bs : List Bool} (h0 : S[n]? = some (.lst (bs.map D.bl))) (h : P (.bl (bs.any fun b => b)) S) : wpO (gAny (.ref n) S) P := wpO_of (any_at h0) h
theorem wpO_addT {xs ys : List D} (h0 : xs.length + ys.length ≤ sizeLine) (h : P (.tup (xs ++ ys)) S) : wpO (gAdd (.tup xs) (.tup ys) S) P := by
  refine wpO_of (d := .tup (xs ++ ys)) (T := S) ?_ h
  unfold gAdd
  exact if_pos h0
theorem wpO_addL {m n : Nat} {xs ys : List D} (h1 : S[m]? = some (.lst xs)) (h2 : S[n]? = some (.lst ys)) (h0 : xs.length + ys.length ≤ sizeLine) (h : ∀ k U, Kp S U → S.length ≤ k → U[k]? = some (.lst (xs ++ ys)) → P (.ref k) U) : wpO (gAdd (.ref m) (.ref n) S) P := by
  refine wpO_of (d := .ref S.length) (T := S ++ [.lst (xs ++ ys)]) ?_ (h _ _ Kp.app (Nat.le_refl _) at_mid)
  unfold gAdd lstD
  dsimp only
  rw [h1, h2]
  exact if_pos h0
theorem wpO_eqI {i j : Int} (h : P (.bl (decide (i = j))) S) : wpO (gEq (.int i) (.int j) S) P := by
  refine wpO_of (d := .bl (decide (i = j))) (T := S) ?_ h
  show some (D.bl (PyData.eqv (.int i) (.int j)), S) = _
  rw [show PyData.eqv (.int i) (.int j) = decide (i = j) from by
    have : PyData.eqv (.int i) (.int j) = (i == j) := rfl
    rw [this, Bool.beq_eq_decide_eq]]
theorem wpO_neI {i j : Int} (h : P (.bl (!decide (i = j))) S) : wpO (gNe (.int i) (.int j) S) P := by
  refine wpO_of (d := .bl (!decide (i = j))) (T := S) ?_ h
  show some (D.bl (!PyData.eqv (.int i) (.int j)), S) = _
  rw [show PyData.eqv (.int i) (.int j) = decide (i = j) from by
    have : PyData.eqv (.int i) (.int j) = (i == j) := rfl
    rw [this, Bool.beq_eq_decide_eq]]
theorem wpO_eqS {x y : Str} (h : P (.bl (decide (x = y))) S) : wpO (gEq (.str x) (.str y) S) P := h
theorem wpO_neS {x y : Str} (h : P (.bl (!decide (x = y))) S) : wpO (gNe (.str x) (.str y) S) P := h
theorem wpO_neNil {n m : Nat} {xs : List D} (h0 : S[n]? = some (.lst xs)) (h1 : S[m]? = some (.lst [])) (h : P (.bl (!xs.isEmpty)) S) : wpO (gNe (.ref n) (.ref m) S) P := wpO_of (ne_nil' h0 h1) h
theorem wpO_app {n : Nat} {xs : List D} {y : D} (h0 : S[n]? = some (.lst xs)) (h1 : xs.length < sizeLine) (h : P .non (S.set n (.lst (xs ++ [y])))) : wpO (gApp (.ref n) [y] S) P := wpO_of (app_at h0 h1) h
theorem wpO_cutT {xs : List D} {lo hi : Option Int} (h : P (.tup (cutD xs lo hi)) S) : wpO (cutP (.tup xs) lo hi S) P := h
theorem wpO_cutL {n : Nat} {xs : List D} {lo hi : Option Int} (h0 : S[n]? = some (.lst xs)) (h : ∀ k U, Kp S U → S.length ≤ k → U[k]? = some (.lst (cutD xs lo hi)) → P (.ref k) U) : wpO (cutP (.ref n) lo hi S) P := by
  refine wpO_of (d := .ref S.length) (T := S ++ [.lst (cutD xs lo hi)]) ?_ (h _ _ Kp.app (Nat.le_refl _) at_mid)
  unfold cutP
  dsimp only
  rw [h0]
theorem wpO_reprS {d : D} {x : Str} (h0 : reprP d S = some x) (h : P (.str x) S) : wpO (gRepr d S) P := wpO_of (by unfold gRepr; rw [h0]; rfl) h
/-! slices -/
theorem wpE_sl {ma : ME} {ml mh : MO} (h : wpE (ma en S) (fun d T => wpE (ml en T) (fun lo U => wpE (mh en U) (fun hi V => wpO (cutP d lo hi V) P) E) E) E) : wpE (mSl ma ml mh en S) P E :=
  wpE_bind (wpE_mono h (fun d T q => wpE_bind (wpE_mono q (fun lo U q => wpE_bind (wpE_mono q (fun hi V q => wpE_o q) fun _ _ _ q => q)) fun _ _ _ q => q)) fun _ _ _ q => q)
theorem wpE_none {Q : Option Int → Store → Prop} (h : Q none S) : wpE (mNone en S) Q E := h
theorem wpE_some {m : ME} {Q : Option Int → Store → Prop} (h : wpE (m en S) (fun d T => ∃ i, d = .int i ∧ Q (some i) T) E) : wpE (mSome m en S) Q E :=
  wpE_bind (wpE_mono h (fun d T ⟨i, e, q⟩ => by subst e; exact q) fun _ _ _ q => q)
/-! what is walked -/
theorem wpE_iSeq {m : ME} {Q : MI → Store → Prop} (h : wpE (m en S) (fun d T => ∃ i, itD d T = some i ∧ Q i T) E) : wpE (iSeq m en S) Q E :=
  wpE_bind (wpE_mono h (fun d T ⟨i, e, q⟩ => by rw [e]; exact q) fun _ _ _ q => q)
theorem itD_ref {n : Nat} {xs : List D} (h : S[n]? = some (.lst xs)) : itD (.ref n) S = some (.lst n) := by
  unfold itD
  dsimp only
  rw [h]
theorem wpE_rng1 {m : MA} {Q : MI → Store → Prop} (h : wpE (m en S) (fun ds T => ∃ j, ds = [.int j] ∧ smallI j = true ∧ Q (.rng 0 j.toNat) T) E) : wpE (iRng1M m en S) Q E :=
  wpE_bind (wpE_mono h (fun ds T ⟨j, e, hj, q⟩ => by
    subst e
    show wpE (match rng1 [.int j] with | some i => .ok i T | none => .bad) Q E
    rw [show rng1 [.int j] = some (.rng 0 j.toNat) from if_pos hj]
    exact q) fun _ _ _ q => q)
theorem wpE_rng2 {m : MA} {Q : MI → Store → Prop} (h : wpE (m en S) (fun ds T => ∃ i j, ds = [.int i, .int j] ∧ smallI i = true ∧ smallI j = true ∧ Q (.rng i (j - i).toNat) T) E) : wpE (iRng2M m en S) Q E :=
  wpE_bind (wpE_mono h (fun ds T ⟨i, j, e, hi, hj, q⟩ => by
    subst e
    show wpE (match rng2 [.int i, .int j] with | some i => .ok i T | none => .bad) Q E
    rw [show rng2 [.int i, .int j] = some (.rng i (j - i).toNat) from if_pos ⟨hi, hj⟩]
    exact q) fun _ _ _ q => q)
theorem smallI_of {i : Int} (h1 : -(2 ^ 62) ≤ i) (h2 : i < 2 ^ 62) : smallI i = true := by unfold smallI; rw [decide_eq_true h1, decide_eq_true h2]; rfl
/-- a mirror that only adds to the store: a comprehension's list -/
theorem wp_compP {mi : MI} {g : Pat} {mt : MT} {me : ME} {n : Nat} (xs : List D) (f : D → Option D) (hx : ∀ (i : Nat) (T : Store), Kp S T → nextM mi i T = some xs[i]?) (hz : xs.length < n) (hz2 : xs.length < sizeLine)
    (step : ∀ (i : Nat) (d : D) (T : Store), xs[i]? = some d → Kp S T → ∃ ps, g d T = some ps ∧ wpE (mt (setsE en ps) T) (fun b U => Kp T U ∧ (b = false → f d = none) ∧ (b = true → wpE (me (setsE en ps) U) (fun z V => Kp U V ∧ f d = some z) (fun _ _ _ => False))) (fun _ _ _ => False))
    (fin : ∀ k T, Kp S T → S.length ≤ k → T[k]? = some (.lst (xs.filterMap f)) → P (.ref k) T) : wpE (compL mi g mt me S.length n 0 en (S ++ [.lst []])) P E := by
  refine wp_compL xs (fun i a T => Kp S T ∧ a = (xs.take i).filterMap f) (fun i a T h _ => hx i T h.1) (fun i d a T hd ⟨h1, h2⟩ ha hl => ?_) hz2 (fun a T ⟨h1, h2⟩ ha => ?_) xs.length n 0 [] _ (by omega) hz (Nat.le_refl _) ⟨Kp.app, rfl⟩ at_mid
  · obtain ⟨ps, e, w⟩ := step i d T hd h1
    have tk : xs.take (i + 1) = xs.take i ++ [d] := by rw [List.take_add_one, hd]; rfl
    refine ⟨ps, e, wpE_mono w (fun b U ⟨k1, q1, q2⟩ => ⟨fun hb => ⟨k1 _ _ ha, h1.trans k1, ?_⟩, fun hb => wpE_mono (q2 hb) (fun z V ⟨k2, q3⟩ => ⟨k2 _ _ (k1 _ _ ha), ?_, ?_⟩) fun _ _ _ q => q⟩) fun _ _ _ q => q⟩
    · rw [tk, List.filterMap_append, ← h2, List.filterMap_cons, q1 hb]; simp
    · have h3 := (h1.trans k1).trans k2
      refine h3.setN ?_
      exact Nat.le_refl _
    · rw [tk, List.filterMap_append, ← h2, List.filterMap_cons, q3]; simp
  · rw [List.take_length] at h2
    subst h2
    exact fin _ T h1 (Nat.le_refl _) ha
/-- without a test -/
theorem wp_compM {mi : MI} {g : Pat} {me : ME} {n : Nat} (xs : List D) (f : D → D) (hx : ∀ (i : Nat) (T : Store), Kp S T → nextM mi i T = some xs[i]?) (hz : xs.length < n) (hz2 : xs.length < sizeLine)
    (step : ∀ (i : Nat) (d : D) (T : Store), xs[i]? = some d → Kp S T → ∃ ps, g d T = some ps ∧ wpE (me (setsE en ps) T) (fun z V => Kp T V ∧ z = f d) (fun _ _ _ => False))
    (fin : ∀ k T, Kp S T → S.length ≤ k → T[k]? = some (.lst (xs.map f)) → P (.ref k) T) : wpE (compL mi g mYes me S.length n 0 en (S ++ [.lst []])) P E := by
  refine wp_compP xs (fun d => some (f d)) hx hz hz2 (fun i d T hd hk => ?_) (fun k T h1 h2 h3 => fin k T h1 h2 ?_)
  · obtain ⟨ps, e, w⟩ := step i d T hd hk
    exact ⟨ps, e, Kp.refl _, fun hb => (by cases hb), fun _ => wpE_mono w (fun z V ⟨q1, q2⟩ => ⟨q1, by rw [q2]⟩) fun _ _ _ q => q⟩
  · rw [List.filterMap_eq_map'] at h3
    exact h3
end
theorem brT {A B : Prop} (h : A) : (true = true → A) ∧ (true = false → B) := ⟨fun _ => h, fun z => Bool.noConfusion z⟩
theorem brF {A B : Prop} (h : B) : (false = true → A) ∧ (false = false → B) := ⟨fun z => Bool.noConfusion z, fun _ => h⟩
theorem brT2 {A B : Prop} (h : B) : (true = false → A) ∧ (true = true → B) := ⟨fun z => Bool.noConfusion z, fun _ => h⟩
theorem brF2 {A B : Prop} (h : A) : (false = false → A) ∧ (false = true → B) := ⟨fun _ => h, fun z => Bool.noConfusion z⟩
theorem brNT {A B : Prop} (h : B) : ((!true) = true → A) ∧ ((!true) = false → B) := ⟨fun z => Bool.noConfusion z, fun _ => h⟩
theorem brNF {A B : Prop} (h : A) : ((!false) = true → A) ∧ ((!false) = false → B) := ⟨fun _ => h, fun z => Bool.noConfusion z⟩
theorem exBl {b : Bool} {F : Bool → Prop} (h : F b) : ∃ k, D.bl b = D.bl k ∧ F k := ⟨b, rfl, h⟩
theorem exInt {i : Int} {F : Int → Prop} (h : F i) : ∃ k, D.int i = D.int k ∧ F k := ⟨i, rfl, h⟩
theorem exTrB {b : Bool} {S : Store} {F : Bool → Prop} (h : F b) : ∃ k, truD (.bl b) S = some k ∧ F k := ⟨b, rfl, h⟩
theorem exTrI {i : Int} {S : Store} {F : Bool → Prop} (h : F (i != 0)) : ∃ k, truD (.int i) S = some k ∧ F k := ⟨_, rfl, h⟩
theorem exTrN {S : Store} {F : Bool → Prop} (h : F false) : ∃ k, truD .non S = some k ∧ F k := ⟨_, rfl, h⟩
theorem exIt {xs : List D} {S : Store} {F : MI → Prop} (h : F (.vals xs)) : ∃ k, itD (.tup xs) S = some k ∧ F k := ⟨_, rfl, h⟩
theorem exPar {a b : D} {F : D → D → Prop} (h : F a b) : ∃ d e, [a, b] = [d, e] ∧ F d e := ⟨a, b, rfl, h⟩
theorem exName {i : Nat} {d : D} {S : Store} {F : List (Nat × D) → Prop} (h : F [(i, d)]) : ∃ ps, pName i d S = some ps ∧ F ps := ⟨_, rfl, h⟩
theorem exR1 {i : Int} {F : Int → Prop} (h0 : smallI i = true) (h : F i) : ∃ j, [D.int i] = [.int j] ∧ smallI j = true ∧ F j := ⟨i, rfl, h0, h⟩
theorem exR2 {i j : Int} {F : Int → Int → Prop} (h0 : smallI i = true) (h1 : smallI j = true) (h : F i j) : ∃ a b, [D.int i, D.int j] = [.int a, .int b] ∧ smallI a = true ∧ smallI b = true ∧ F a b := ⟨i, j, rfl, h0, h1, h⟩
theorem lenE {ds : List D} {n : Nat} {F : Prop} (h0 : ds.length = n) (h : F) : ds.length = n ∧ F := ⟨h0, h⟩
theorem lenS {ds : List D} {F : Prop} (h0 : ds.length ≤ sizeLine) (h : F) : ds.length ≤ sizeLine ∧ F := ⟨h0, h⟩
/-! ### data that shows -/
theorem mapM_kp {f g : D → Option PyData} (h : ∀ d p, f d = some p → g d = some p) : ∀ {xs : List D} {ps : List PyData}, xs.mapM f = some ps → xs.mapM g = some ps
  | [], ps, e => e
  | d :: xs, ps, e => by
    rw [List.mapM_cons] at e ⊢
    cases q : f d with
    | none => rw [q] at e; cases e
    | some p =>
      rw [q] at e
      cases q2 : xs.mapM f with
      | none => rw [q2] at e; cases e
      | some qs =>
        rw [q2] at e
        cases e
        rw [h d p q, mapM_kp h q2]
        rfl
theorem toPy_kp {S T : Store} (k : Kp S T) : ∀ (n : Nat) {d : D} {p : PyData}, toPy S n d = some p → toPy T n d = some p
  | 0, d, p, e => by cases d <;> exact e
  | n + 1, d, p, e => by
    have key : ∀ {xs : List D} {F : List PyData → PyData}, (xs.mapM (toPy S n)).map F = some p → (xs.mapM (toPy T n)).map F = some p := fun {xs F} e => by
      obtain ⟨ps, e1, e2⟩ := Option.map_eq_some_iff.mp e
      rw [mapM_kp (fun d p q => toPy_kp k n q) e1]
      exact congrArg some e2
    cases d with
    | tup xs => exact key e
    | kl xs =>
      have e : (if 63 ≤ n then (xs.mapM (toPy S n)).map PyData.list else none) = some p := e
      show (if 63 ≤ n then (xs.mapM (toPy T n)).map PyData.list else none) = some p
      by_cases hn : 63 ≤ n
      · rw [if_pos hn] at e ⊢
        exact key e
      · rw [if_neg hn] at e
        cases e
    | ref m =>
      unfold toPy at e ⊢
      cases q : S[m]? with
      | none => rw [q] at e; cases e
      | some o =>
        rw [q] at e
        rw [k _ _ q]
        cases o with
        | lst xs => exact key e
        | dct kvs => exact key e
        | _ => cases e
    | _ => exact e
end Q

namespace Q
open PySem PySem.Spec PyProof.Rows L2
/-! ### values of any kind, not too large -/
def okS (x : Str) : Prop := x.length ≤ 2000 ∧ ∀ c ∈ x.cps.toList, c < 16 ^ 8
mutual
def okP (b : Nat) : PyData → Prop
  | .none => True
  | .bool _ => True
  | .int i => i.natAbs < 2 ^ b
  | .str x => okS x
  | .list xs => okPs b xs
  | .tuple xs => okPs b xs
  | .dict kvs => okPk b kvs
def okPs (b : Nat) : List PyData → Prop
  | [] => True
  | x :: xs => okP b x ∧ okPs b xs
def okPk (b : Nat) : List (PyData × PyData) → Prop
  | [] => True
  | p :: r => okP b p.1 ∧ okP b p.2 ∧ okPk b r
end
mutual
def nd : PyData → Nat
  | .none => 1
  | .bool _ => 1
  | .int _ => 1
  | .str _ => 1
  | .list xs => 1 + nds xs
  | .tuple xs => 1 + nds xs
  | .dict kvs => 1 + ndk kvs
def nds : List PyData → Nat
  | [] => 0
  | x :: xs => nd x + nds xs
def ndk : List (PyData × PyData) → Nat
  | [] => 0
  | p :: r => nd p.1 + nd p.2 + ndk r
end
mutual
theorem okP.showable {b : Nat} (hb : b ≤ 1900) : ∀ {p : PyData}, okP b p → p.showable = true
  | .none, _ => by simp only [PyData.showable]
  | .bool _, _ => by simp only [PyData.showable]
  | .int i, h => by
    have h : i.natAbs < 2 ^ b := h
    have := log2_lt' h
    simp only [PyData.showable]
    exact decide_eq_true (by omega)
  | .str _, _ => by simp only [PyData.showable]
  | .list xs, h => by simp only [PyData.showable]; exact okPs.showable hb h
  | .tuple xs, h => by simp only [PyData.showable]; exact okPs.showable hb h
  | .dict kvs, h => by simp only [PyData.showable]; exact okPk.showable hb h
theorem okPs.showable {b : Nat} (hb : b ≤ 1900) : ∀ {p : List PyData}, okPs b p → PyData.showableAll p = true
  | [], _ => by simp only [PyData.showableAll]
  | x :: xs, ⟨h1, h2⟩ => by simp only [PyData.showableAll, okP.showable hb h1, okPs.showable hb h2, Bool.and_self]
theorem okPk.showable {b : Nat} (hb : b ≤ 1900) : ∀ {p : List (PyData × PyData)}, okPk b p → PyData.showableKv p = true
  | [], _ => by simp only [PyData.showableKv]
  | p :: xs, ⟨h1, h2, h3⟩ => by simp only [PyData.showableKv, okP.showable hb h1, okP.showable hb h2, okPk.showable hb h3, Bool.and_self]
end
theorem join_le : ∀ ts : List Str, (Str.join ", " ts).length ≤ (ts.map fun t => t.length + 2).sum
  | [] => by show (0 : Nat) ≤ _; exact Nat.zero_le _
  | t :: r => by
    have h := join_length_add (t :: r) (by simp)
    have e : ∀ l : List Str, piled l = (l.map fun t => t.length + 2).sum := fun l => by
      induction l with
      | nil => rfl
      | cons a l ih => simp only [piled, List.map_cons, List.sum_cons, ih]
    rw [← e]
    omega
mutual
theorem shown_len {b : Nat} (hb : b ≤ 1900) : ∀ {p : PyData}, okP b p → p.shown.length + 2 ≤ 20010 * nd p
  | .none, _ => by simp only [PyData.shown, nd]; decide
  | .bool c, _ => by simp only [PyData.shown, nd]; cases c <;> decide
  | .int i, h => by
    have h : i.natAbs < 2 ^ b := h
    have := log2_lt' h
    simp only [PyData.shown, nd]
    have := int_text_len_1921 (i := i) (by omega)
    show (Str.ofString (toString i)).length + 2 ≤ _
    omega
  | .str x, h => by
    obtain ⟨h1, h2⟩ := h
    simp only [PyData.shown, nd]
    have := PySem.StrLaws.reprText_len x h2
    omega
  | .list xs, h => by
    have ih := shown_lens hb h
    simp only [PyData.shown, nd]
    unfold listText
    rw [strLen_append]
    have h1 := textFrom_le (PyData.shownAll xs) 0 "["
    have e1 : (Str.ofString "[").length = 1 := rfl
    have e2 : (Str.ofString "]").length = 1 := rfl
    have h1 : (textFrom 0 (Str.ofString "[") (PyData.shownAll xs)).length ≤ _ := h1
    show (textFrom 0 (Str.ofString "[") (PyData.shownAll xs)).length + (Str.ofString "]").length + 2 ≤ _
    omega
  | .tuple xs, h => by
    have ih := shown_lens hb h
    simp only [PyData.shown, nd]
    unfold tupleText
    rw [strLen_append, strLen_append]
    have h1 := join_le (PyData.shownAll xs)
    have e1 : (Str.ofString "(").length = 1 := rfl
    have e2 : (Str.ofString (if ((PyData.shownAll xs).length == 1) = true then ",)" else ")")).length ≤ 2 := by split <;> decide
    show (Str.ofString "(").length + (Str.join (Str.ofString ", ") _).length + (Str.ofString _).length + 2 ≤ _
    have h1 : (Str.join (Str.ofString ", ") (PyData.shownAll xs)).length ≤ _ := h1
    omega
  | .dict kvs, h => by
    have ih := shown_lenk hb h
    simp only [PyData.shown, nd]
    unfold dictText
    rw [strLen_append, strLen_append]
    have h1 := join_le (PyData.shownKv kvs)
    have e1 : (Str.ofString "{").length = 1 := rfl
    have e2 : (Str.ofString "}").length = 1 := rfl
    show (Str.ofString "{").length + (Str.join (Str.ofString ", ") _).length + (Str.ofString "}").length + 2 ≤ _
    have h1 : (Str.join (Str.ofString ", ") (PyData.shownKv kvs)).length ≤ _ := h1
    omega
theorem shown_lens {b : Nat} (hb : b ≤ 1900) : ∀ {p : List PyData}, okPs b p → ((PyData.shownAll p).map fun t => t.length + 2).sum ≤ 20010 * nds p
  | [], _ => by simp [PyData.shownAll, nds]
  | x :: xs, ⟨h1, h2⟩ => by
    have a := shown_len hb h1
    have c := shown_lens hb h2
    have d : 1 ≤ nd x := by cases x <;> simp only [nd] <;> omega
    simp only [PyData.shownAll, nds, List.map_cons, List.sum_cons]
    omega
theorem shown_lenk {b : Nat} (hb : b ≤ 1900) : ∀ {p : List (PyData × PyData)}, okPk b p → ((PyData.shownKv p).map fun t => t.length + 2).sum ≤ 20010 * ndk p
  | [], _ => by simp [PyData.shownKv, ndk]
  | p :: xs, ⟨h1, h2, h3⟩ => by
    have a := shown_len hb h1
    have a' := shown_len hb h2
    have c := shown_lenk hb h3
    have d : ∀ x : PyData, 1 ≤ nd x := fun x => by cases x <;> simp only [nd] <;> omega
    have d1 := d p.1
    have d2 := d p.2
    obtain ⟨k, v⟩ := p
    simp only [PyData.shownKv, ndk, List.map_cons, List.sum_cons, strLen_append]
    have e : (Str.ofString ": ").length = 2 := rfl
    show _ + (Str.ofString ": ").length + _ + 2 + _ ≤ _
    simp only at a a' d1 d2
    omega
end

/-! ### on the mirror's values -/
mutual
theorem okP.up {b c : Nat} (h : b ≤ c) : ∀ {p : PyData}, okP b p → okP c p
  | .none, _ => trivial
  | .bool _, _ => trivial
  | .int i, q => Nat.lt_of_lt_of_le (show i.natAbs < 2 ^ b from q) (Nat.pow_le_pow_right (by decide) h)
  | .str _, q => q
  | .list xs, q => okPs.up h q
  | .tuple xs, q => okPs.up h q
  | .dict kvs, q => okPk.up h q
theorem okPs.up {b c : Nat} (h : b ≤ c) : ∀ {p : List PyData}, okPs b p → okPs c p
  | [], _ => trivial
  | _ :: _, ⟨h1, h2⟩ => ⟨okP.up h h1, okPs.up h h2⟩
theorem okPk.up {b c : Nat} (h : b ≤ c) : ∀ {p : List (PyData × PyData)}, okPk b p → okPk c p
  | [], _ => trivial
  | _ :: _, ⟨h1, h2, h3⟩ => ⟨okP.up h h1, okP.up h h2, okPk.up h h3⟩
end
theorem mapM_cons_some {f : D → Option PyData} {d : D} {xs : List D} {ps : List PyData} (h : (d :: xs).mapM f = some ps) : ∃ p qs, ps = p :: qs ∧ f d = some p ∧ xs.mapM f = some qs := by
  rw [List.mapM_cons] at h
  cases q : f d with
  | none => rw [q] at h; cases h
  | some p =>
    rw [q] at h
    cases q2 : xs.mapM f with
    | none => rw [q2] at h; cases h
    | some qs => rw [q2] at h; cases h; exact ⟨p, qs, rfl, rfl, rfl⟩
theorem mapM_cons_of {f : D → Option PyData} {d : D} {xs : List D} {p : PyData} {qs : List PyData} (h1 : f d = some p) (h2 : xs.mapM f = some qs) : (d :: xs).mapM f = some (p :: qs) := by
  rw [List.mapM_cons, h1, h2]
  rfl
theorem mapM_len {f : D → Option PyData} : ∀ {xs : List D} {ps : List PyData}, xs.mapM f = some ps → ps.length = xs.length
  | [], ps, h => by cases h; rfl
  | d :: xs, ps, h => by
    obtain ⟨p, qs, rfl, _, h2⟩ := mapM_cons_some h
    rw [List.length_cons, List.length_cons, mapM_len h2]
theorem toPy_up {S : Store} : ∀ (n : Nat) {d : D} {p : PyData}, toPy S n d = some p → toPy S (n + 1) d = some p
  | 0, d, p, e => by cases d <;> first | exact e | cases e
  | n + 1, d, p, e => by
    have key : ∀ {xs : List D} {F : List PyData → PyData}, (xs.mapM (toPy S n)).map F = some p → (xs.mapM (toPy S (n + 1))).map F = some p := fun {xs F} e => by
      obtain ⟨ps, e1, e2⟩ := Option.map_eq_some_iff.mp e
      rw [mapM_kp (fun d p q => toPy_up n q) e1]
      exact congrArg some e2
    cases d with
    | tup xs => exact key e
    | kl xs =>
      have e : (if 63 ≤ n then (xs.mapM (toPy S n)).map PyData.list else none) = some p := e
      show (if 63 ≤ n + 1 then (xs.mapM (toPy S (n + 1))).map PyData.list else none) = some p
      by_cases hn : 63 ≤ n
      · rw [if_pos hn] at e
        rw [if_pos (Nat.le_succ_of_le hn)]
        exact key e
      · rw [if_neg hn] at e
        cases e
    | ref m =>
      unfold toPy at e ⊢
      cases q : S[m]? with
      | none => rw [q] at e; cases e
      | some o =>
        rw [q] at e
        cases o with
        | lst xs => exact key e
        | dct kvs => exact key e
        | _ => cases e
    | _ => exact e
theorem toPy_le {S : Store} {n m : Nat} (h : n ≤ m) {d : D} {p : PyData} (e : toPy S n d = some p) : toPy S m d = some p := by
  obtain ⟨k, rfl⟩ : ∃ k, m = n + k := ⟨m - n, by omega⟩
  induction k with
  | zero => exact e
  | succ k ih => exact toPy_up _ (ih (by omega))
theorem depthAll_le {S : Store} {f : D → Option PyData} {n : Nat} (hf : ∀ d p, f d = some p → p.depth ≤ n) : ∀ {xs : List D} {ps : List PyData}, xs.mapM f = some ps → PyData.depthAll ps ≤ n
  | [], ps, h => by cases h; simp [PyData.depthAll]
  | d :: xs, ps, h => by
    obtain ⟨p, qs, rfl, h1, h2⟩ := mapM_cons_some h
    have a := hf d p h1
    have b := depthAll_le (S := S) hf h2
    simp only [PyData.depthAll]
    omega
theorem depthKv_le (n : Nat) : ∀ (ks : List Key) (ps : List PyData), PyData.depthAll ps ≤ n → PyData.depthKv ((ks.map keyPy).zip ps) ≤ n
  | [], ps, h => by simp [PyData.depthKv]
  | k :: ks, [], h => by simp [PyData.depthKv]
  | k :: ks, p :: ps, h => by
    simp only [PyData.depthAll] at h
    have ih := depthKv_le n ks ps (by omega)
    have e : (keyPy k).depth = 0 := by cases k <;> rfl
    simp only [List.map_cons, List.zip_cons_cons, PyData.depthKv, e]
    omega
theorem toPy_depth {S : Store} : ∀ (n : Nat) {d : D} {p : PyData}, toPy S n d = some p → p.depth ≤ n
  | 0, d, p, e => by cases d <;> first | (cases e; simp [PyData.depth]; done) | cases e
  | n + 1, d, p, e => by
    have key : ∀ {xs : List D} {F : List PyData → PyData}, (∀ ps, (F ps).depth = PyData.depthAll ps + 1) → (xs.mapM (toPy S n)).map F = some p → p.depth ≤ n + 1 := fun {xs F} hF e => by
      obtain ⟨ps, e1, e2⟩ := Option.map_eq_some_iff.mp e
      subst e2
      have := depthAll_le (S := S) (n := n) (fun d p q => toPy_depth n q) e1
      rw [hF]
      omega
    cases d with
    | tup xs => exact key (fun _ => by simp only [PyData.depth]) e
    | kl xs =>
      have e : (if 63 ≤ n then (xs.mapM (toPy S n)).map PyData.list else none) = some p := e
      by_cases hn : 63 ≤ n
      · rw [if_pos hn] at e
        exact key (fun _ => by simp only [PyData.depth]) e
      · rw [if_neg hn] at e
        cases e
    | ref m =>
      unfold toPy at e
      cases q : S[m]? with
      | none => rw [q] at e; cases e
      | some o =>
        rw [q] at e
        cases o with
        | lst xs => exact key (fun _ => by simp only [PyData.depth]) e
        | dct kvs =>
          obtain ⟨ps, e1, e2⟩ := Option.map_eq_some_iff.mp e
          subst e2
          have h1 : PyData.depthAll ps ≤ n := depthAll_le (S := S) (n := n) (fun d p q => toPy_depth n q) e1
          have h2 := depthKv_le n (kvs.map (·.1)) ps h1
          rw [List.map_map] at h2
          simp only [PyData.depth]
          have h3 : PyData.depthKv ((kvs.map fun kv => keyPy kv.1).zip ps) ≤ n := h2
          omega
        | _ => cases e
    | non => cases e; simp [PyData.depth]
    | bl c => cases e; simp [PyData.depth]
    | int i => cases e; simp [PyData.depth]
    | str i => cases e; simp [PyData.depth]
    | _ => cases e
/-- a value: at most n deep, of at most m parts, ints below 2 ^ b -/
structure Nc (n m b : Nat) (S : Store) (d : D) : Prop where
  ex : ∃ p, toPy S n d = some p ∧ okP b p ∧ nd p ≤ m
structure NcL (n m b : Nat) (S : Store) (xs : List D) : Prop where
  ex : ∃ ps, xs.mapM (toPy S n) = some ps ∧ okPs b ps ∧ nds ps ≤ m
section
variable {n m b n' m' b' : Nat} {S T : Store} {d : D} {xs ys : List D}
theorem Nc.kp (h : Nc n m b S d) (k : Kp S T) : Nc n m b T d := let ⟨p, h1, h2, h3⟩ := h.ex; ⟨p, toPy_kp k n h1, h2, h3⟩
theorem NcL.kp (h : NcL n m b S xs) (k : Kp S T) : NcL n m b T xs := let ⟨p, h1, h2, h3⟩ := h.ex; ⟨p, mapM_kp (fun _ _ q => toPy_kp k n q) h1, h2, h3⟩
theorem Nc.up (h : Nc n m b S d) (h1 : n ≤ n') (h2 : m ≤ m') (h3 : b ≤ b') : Nc n' m' b' S d := let ⟨p, q1, q2, q3⟩ := h.ex; ⟨p, toPy_le h1 q1, okP.up h3 q2, by omega⟩
theorem NcL.up (h : NcL n m b S xs) (h1 : n ≤ n') (h2 : m ≤ m') (h3 : b ≤ b') : NcL n' m' b' S xs := let ⟨p, q1, q2, q3⟩ := h.ex; ⟨p, mapM_kp (fun _ _ q => toPy_le h1 q) q1, okPs.up h3 q2, by omega⟩
theorem NcL.nil : NcL n m b S [] := ⟨[], rfl, trivial, by simp [nds]⟩
theorem NcL.cons (h1 : Nc n m b S d) (h2 : NcL n m' b S xs) : NcL n (m + m') b S (d :: xs) := by
  obtain ⟨p, a1, a2, a3⟩ := h1.ex
  obtain ⟨ps, b1, b2, b3⟩ := h2.ex
  exact ⟨p :: ps, mapM_cons_of a1 b1, ⟨a2, b2⟩, by simp only [nds]; omega⟩
theorem NcL.uncons (h : NcL n m b S (d :: xs)) : Nc n m b S d ∧ NcL n m b S xs := by
  obtain ⟨ps, h1, h2, h3⟩ := h.ex
  obtain ⟨p, qs, rfl, a1, a2⟩ := mapM_cons_some h1
  simp only [nds] at h3
  exact ⟨⟨p, a1, h2.1, by omega⟩, ⟨qs, a2, h2.2, by omega⟩⟩
theorem NcL.append : ∀ {xs ys : List D} {m m' : Nat}, NcL n m b S xs → NcL n m' b S ys → NcL n (m + m') b S (xs ++ ys)
  | [], ys, m, m', _, h => h.up (Nat.le_refl _) (by omega) (Nat.le_refl _)
  | d :: xs, ys, m, m', h, h' => by
    obtain ⟨ps, h1, h2, h3⟩ := h.ex
    obtain ⟨p, qs, rfl, a1, a2⟩ := mapM_cons_some h1
    simp only [nds] at h3
    have ih := NcL.append (m := nds qs) ⟨qs, a2, h2.2, Nat.le_refl _⟩ h'
    have := NcL.cons (m := nd p) ⟨p, a1, h2.1, Nat.le_refl _⟩ ih
    exact this.up (Nat.le_refl _) (by omega) (Nat.le_refl _)
theorem NcL.split : ∀ {xs ys : List D} {m : Nat}, NcL n m b S (xs ++ ys) → ∃ m1 m2, m1 + m2 ≤ m ∧ NcL n m1 b S xs ∧ NcL n m2 b S ys
  | [], ys, m, h => ⟨0, m, by omega, NcL.nil, h⟩
  | d :: xs, ys, m, h => by
    obtain ⟨ps, h1, h2, h3⟩ := h.ex
    obtain ⟨p, qs, rfl, a1, a2⟩ := mapM_cons_some h1
    simp only [nds] at h3
    obtain ⟨m1, m2, q1, q2, q3⟩ := NcL.split (xs := xs) (ys := ys) (m := nds qs) ⟨qs, a2, h2.2, Nat.le_refl _⟩
    exact ⟨nd p + m1, m2, by omega, NcL.cons ⟨p, a1, h2.1, Nat.le_refl _⟩ q2, q3⟩
theorem NcL.get {i : Nat} (h : NcL n m b S xs) (e : xs[i]? = some d) : Nc n m b S d := by
  induction xs generalizing i with
  | nil => simp at e
  | cons x xs ih =>
    obtain ⟨h1, h2⟩ := h.uncons
    cases i with
    | zero => simp at e; subst e; exact h1
    | succ i => exact ih h2 (by simpa using e)
theorem Nc.of_tup (h : Nc (n + 1) m b S (.tup xs)) : NcL n (m - 1) b S xs := by
  obtain ⟨p, h1, h2, h3⟩ := h.ex
  obtain ⟨ps, e1, e2⟩ := Option.map_eq_some_iff.mp (show (xs.mapM (toPy S n)).map .tuple = some p from h1)
  subst e2
  simp only [nd] at h3
  exact ⟨ps, e1, h2, by omega⟩
theorem Nc.tup (h : NcL n m b S xs) : Nc (n + 1) (m + 1) b S (.tup xs) := by
  obtain ⟨ps, h1, h2, h3⟩ := h.ex
  refine ⟨.tuple ps, ?_, h2, by simp only [nd]; omega⟩
  show (xs.mapM (toPy S n)).map PyData.tuple = _
  rw [h1]
  rfl
theorem Nc.lst {k : Nat} (e : S[k]? = some (.lst xs)) (h : NcL n m b S xs) : Nc (n + 1) (m + 1) b S (.ref k) := by
  obtain ⟨ps, h1, h2, h3⟩ := h.ex
  refine ⟨.list ps, ?_, h2, by simp only [nd]; omega⟩
  unfold toPy
  rw [e]
  show (xs.mapM (toPy S n)).map PyData.list = _
  rw [h1]
  rfl
theorem Nc.dct {k : Nat} {kvs : List (Key × D)} (e : S[k]? = some (.dct kvs)) (hk : ∀ p ∈ kvs, okP b (keyPy p.1)) (h : NcL n m b S (kvs.map (·.2))) : Nc (n + 1) (m + kvs.length + 1) b S (.ref k) := by
  obtain ⟨ps, h1, h2, h3⟩ := h.ex
  have key : ∀ (l : List (Key × D)) (ps : List PyData), (∀ p ∈ l, okP b (keyPy p.1)) → okPs b ps → okPk b ((l.map fun kv => keyPy kv.1).zip ps) ∧ ndk ((l.map fun kv => keyPy kv.1).zip ps) ≤ l.length + nds ps := fun l => by
    induction l with
    | nil => intro ps _ _; exact ⟨trivial, by simp [ndk]⟩
    | cons a l ih =>
      intro ps q1 q2
      cases ps with
      | nil => exact ⟨trivial, by simp [ndk]⟩
      | cons p ps =>
        obtain ⟨a1, a2⟩ := ih ps (fun x hx => q1 x (List.mem_cons_of_mem _ hx)) q2.2
        have e1 : nd (keyPy a.1) = 1 := by cases a.1 <;> rfl
        refine ⟨⟨q1 a List.mem_cons_self, q2.1, a1⟩, ?_⟩
        simp only [List.map_cons, List.zip_cons_cons, ndk, nds, List.length_cons, e1]
        omega
  obtain ⟨k1, k2⟩ := key kvs ps hk h2
  refine ⟨.dict ((kvs.map fun kv => keyPy kv.1).zip ps), ?_, (show okPk b _ from k1), by simp only [nd]; omega⟩
  unfold toPy
  rw [e]
  show ((kvs.map (·.2)).mapM (toPy S n)).map _ = _
  rw [h1]
  rfl
theorem Nc.non : Nc n 1 b S .non := ⟨.none, by cases n <;> rfl, trivial, by simp [nd]⟩
theorem Nc.bl {c : Bool} : Nc n 1 b S (.bl c) := ⟨.bool c, by cases n <;> rfl, trivial, by simp [nd]⟩
theorem Nc.int {i : Int} (h : i.natAbs < 2 ^ b) : Nc n 1 b S (.int i) := ⟨.int i, by cases n <;> rfl, h, by simp [nd]⟩
theorem Nc.str {x : Str} (h : okS x) : Nc n 1 b S (.str x) := ⟨.str x, by cases n <;> rfl, h, by simp [nd]⟩
/-- it shows, and shows the same wherever it stands -/
theorem Nc.repr (h : Nc n m b S d) (hn : n ≤ 64) (hm : m ≤ 800) (hb : b ≤ 1900) : ∃ x, ∀ T, Kp S T → reprP d T = some x := by
  obtain ⟨p, h1, h2, h3⟩ := h.ex
  have a := shown_len hb h2
  have sm : 20010 * 800 ≤ sizeLine := by decide
  refine ⟨p.shown, fun T k => ?_⟩
  unfold reprP
  have e : pyD T d = some p := toPy_le hn (toPy_kp k n h1)
  rw [e]
  have e2 := toPy_depth n h1
  exact if_pos ⟨okP.showable hb h2, by omega, by omega⟩
/-- its kind -/
theorem Nc.kind (h : Nc n m b S d) : ∃ q, kindD d S = some q := by
  obtain ⟨p, h1, _, _⟩ := h.ex
  cases d with
  | non => exact ⟨_, rfl⟩
  | bl c => exact ⟨_, rfl⟩
  | int i => exact ⟨_, rfl⟩
  | str i => exact ⟨_, rfl⟩
  | tup xs => exact ⟨_, rfl⟩
  | kl xs => exact ⟨_, rfl⟩
  | ref k =>
    cases n with
    | zero => cases h1
    | succ n =>
      unfold toPy at h1
      cases q : S[k]? with
      | none => rw [q] at h1; cases h1
      | some o =>
        rw [q] at h1
        cases o with
        | lst xs => exact ⟨.lst, by unfold kindD; dsimp only; rw [q]⟩
        | dct xs => exact ⟨.dct, by unfold kindD; dsimp only; rw [q]⟩
        | _ => cases h1
  | _ => cases n <;> cases h1
end
theorem kindD_tup {S : Store} {d : D} (h : kindD d S = some .tup) : ∃ xs, d = .tup xs := by
  cases d with
  | tup xs => exact ⟨xs, rfl⟩
  | ref k =>
    unfold kindD at h
    dsimp only at h
    cases q : S[k]? with
    | none => rw [q] at h; cases h
    | some o => rw [q] at h; cases o <;> cases h
  | _ => cases h
theorem kindD_int {S : Store} {d : D} (h : kindD d S = some .int) : ∃ i, d = .int i := by
  cases d with
  | int i => exact ⟨i, rfl⟩
  | ref k =>
    unfold kindD at h
    dsimp only at h
    cases q : S[k]? with
    | none => rw [q] at h; cases h
    | some o => rw [q] at h; cases o <;> cases h
  | _ => cases h
end Q

namespace Q
open PySem PySem.Spec PyProof.Rows L2
/-! ### bounds of numbers -/
def Bd (k : Nat) (i : Int) : Prop := i.natAbs < 2 ^ k
theorem Bd.up {k l : Nat} {i : Int} (h : Bd k i) (hl : k ≤ l) : Bd l i := Nat.lt_of_lt_of_le h (Nat.pow_le_pow_right (by decide) hl)
theorem Bd.add {k l : Nat} {i j : Int} (h1 : Bd k i) (h2 : Bd l j) : Bd (k + l + 1) (i + j) := by
  have a : i.natAbs < 2 ^ (k + l) := h1.up (Nat.le_add_right k l)
  have b : j.natAbs < 2 ^ (k + l) := h2.up (Nat.le_add_left l k)
  have c := Int.natAbs_add_le i j
  show (i + j).natAbs < 2 ^ (k + l + 1)
  rw [Nat.pow_succ]
  omega
theorem Bd.mul {k l : Nat} {i j : Int} (h1 : Bd k i) (h2 : Bd l j) : Bd (k + l) (i * j) := by
  show (i * j).natAbs < 2 ^ (k + l)
  rw [Int.natAbs_mul, Nat.pow_add]
  exact Nat.mul_lt_mul'' h1 h2
theorem Bd.mod {k : Nat} {i j : Int} (h0 : 0 < j) (h : Bd k j) : Bd k (i % j) := Nat.lt_trans (natAbs_mod_lt h0) h
theorem Bd.lit {k : Nat} {i : Int} (h : i.natAbs < 2 ^ k := by decide) : Bd k i := h
theorem Bd.prod {k l : Nat} {i j : Int} (h1 : Bd k i) (h2 : Bd l j) (h : k + l < 1000000 := by decide) : i.natAbs.log2 + j.natAbs.log2 < 1000000 := by
  have a := log2_lt' h1
  have b := log2_lt' h2
  omega
section
variable {S : Store} {E : EK} {P : D → Store → Prop} {p c : Nat} {t ρ : Int}
theorem Pen.lt {p c n : Nat} {S : Store} (P : Pen p c n S) : p < S.length ∧ c < S.length := by
  obtain ⟨ns, t, ρ, q1, q2, _⟩ := P.ex
  exact ⟨lt_of_at q1, lt_of_at q2⟩
theorem wpO_cells (h0 : S[p]? = some (.dct (penK c t ρ))) (h : P (.ref c) S) : wpO (gSubs (.ref p) (.str "cells") S) P := wpO_of (sub_cells h0) h
theorem wpO_turn (h0 : S[p]? = some (.dct (penK c t ρ))) (h : P (.int t) S) : wpO (gSubs (.ref p) (.str "turn") S) P := wpO_of (sub_turn h0) h
theorem wpO_rest (h0 : S[p]? = some (.dct (penK c t ρ))) (h : P (.int ρ) S) : wpO (gSubs (.ref p) (.str "rest") S) P := wpO_of (sub_rest h0) h
theorem st_turn {v : Int} {F : Store → Prop} (h0 : S[p]? = some (.dct (penK c t ρ))) (h : F (S.set p (.dct (penK c v ρ)))) : ∃ W, storD (.ref p) (.str "turn") (.int v) S = some W ∧ F W := ⟨_, stor_turn h0 v, h⟩
theorem st_rest {v : Int} {F : Store → Prop} (h0 : S[p]? = some (.dct (penK c t ρ))) (h : F (S.set p (.dct (penK c t v)))) : ∃ W, storD (.ref p) (.str "rest") (.int v) S = some W ∧ F W := ⟨_, stor_rest h0 v, h⟩
theorem wpO_neSame {x : Str} (h : P (.bl false) S) : wpO (gNe (.str x) (.str x) S) P := by
  refine wpO_neS ?_
  rw [decide_eq_true rfl]
  exact h
theorem wpO_pow18 (h : P (.int (10 ^ 18)) S) : wpO (gPow (.int 10) (.int 18) S) P := wpO_of pow18 h
end
theorem KpX.set {p : Nat} {S : Store} {o : O} : KpX p S (S.set p o) := ⟨fun n q h e => by rw [List.getElem?_set_ne (Ne.symm h)]; exact e, by rw [List.length_set]; exact Nat.le_refl _⟩
/-- the pen's parts -/
theorem Pen.open {p c n : Nat} {S : Store} (P : Pen p c n S) : ∃ (ns : List Int) (t ρ : Int), S[p]? = some (.dct (penK c t ρ)) ∧ S[c]? = some (.lst (ns.map D.int)) ∧ ns.length ≤ 63 ∧ (∀ z ∈ ns, z.natAbs < 2 ^ 1048577) ∧ 0 ≤ t ∧ t ≤ n ∧ 0 ≤ ρ ∧ ρ.natAbs < 2 ^ 1048577 ∧ c ≠ p := by
  obtain ⟨⟨ns, t, ρ, h1, h2, h3, h4, h5, h6, h7, h8⟩, hn⟩ := P
  exact ⟨ns, t, ρ, h1, h2, h3, h4, h5, h6, h7, h8, hn⟩
theorem Pen.mk' {p c n : Nat} {S : Store} {ns : List Int} {t ρ : Int} (h1 : S[p]? = some (.dct (penK c t ρ))) (h2 : S[c]? = some (.lst (ns.map D.int))) (h3 : ns.length ≤ 63) (h4 : ∀ z ∈ ns, z.natAbs < 2 ^ 1048577) (h5 : 0 ≤ t) (h6 : t ≤ n) (h7 : 0 ≤ ρ) (h8 : ρ.natAbs < 2 ^ 1048577) (hn : c ≠ p) : Pen p c n S :=
  ⟨⟨ns, t, ρ, h1, h2, h3, h4, h5, h6, h7, h8⟩, hn⟩
theorem rest_small {i q : Int} (h : i.natAbs < 2 ^ 1048577) (h2 : 10 ^ 18 ≤ (if i < 0 then -i else i)) (h0 : 0 < q) : 0 ≤ ((if i < 0 then -i else i) - 10 ^ 18) / q ∧ (((if i < 0 then -i else i) - 10 ^ 18) / q).natAbs < 2 ^ 1048577 := by
  have a : ((if i < 0 then -i else i) - 10 ^ 18) ≥ 0 := by omega
  have b : (((if i < 0 then -i else i) - 10 ^ 18) / q) ≤ ((if i < 0 then -i else i) - 10 ^ 18) := Int.ediv_le_self _ a
  have d : 0 ≤ (((if i < 0 then -i else i) - 10 ^ 18) / q) := Int.ediv_nonneg a (by omega)
  refine ⟨d, ?_⟩
  generalize (((if i < 0 then -i else i) - 10 ^ 18) / q) = y at b d
  generalize (2 : Nat) ^ 1048577 = M at h
  have : (10 : Int) ^ 18 = 1000000000000000000 := by decide
  split at b <;> omega
theorem atI_in {xs : List Int} {i : Int} (h0 : 0 ≤ i) (h1 : i < xs.length) : ∃ z ∈ xs, L2.atI (xs.map D.int) i = some (.int z) := by
  have hk : i.toNat < xs.length := by omega
  refine ⟨xs[i.toNat], List.getElem_mem hk, ?_⟩
  have : L2.atI (xs.map D.int) ((i.toNat : Nat) : Int) = some (.int xs[i.toNat]) := L2.atI_nat (by rw [List.getElem?_map, List.getElem?_eq_getElem hk]; rfl)
  rw [show ((i.toNat : Nat) : Int) = i by omega] at this
  exact this

section
variable {N J : En → Store → Prop} {R R' : D → Store → Prop} {B C B' C' : En → Store → Prop} {X X' : XKs}
theorem wpS_mono {m : SRes} (h : wpS m J R' B' C' X') (n : ∀ e T, J e T → N e T) (r : ∀ d T, R' d T → R d T) (b : ∀ e T, B' e T → B e T) (c : ∀ e T, C' e T → C e T) (x : ∀ a i e T, X' a i e T → X a i e T) : wpS m N R B C X := by
  cases m with
  | nx e T => exact n _ _ h
  | rt d T => exact r _ _ h
  | bk e T => exact b _ _ h
  | ct e T => exact c _ _ h
  | err a i e T => exact x _ _ _ _ h
  | bad => exact h
/-- two ways that meet again -/
theorem wp_split {k : Bool} {a b : SRes} (J : En → Store → Prop) (h : ∀ e T, J e T → N e T) (q : (k = true → wpS a J R B C X) ∧ (k = false → wpS b J R B C X)) : (k = true → wpS a N R B C X) ∧ (k = false → wpS b N R B C X) :=
  ⟨fun e => wpS_mono (q.1 e) h (fun _ _ z => z) (fun _ _ z => z) (fun _ _ z => z) fun _ _ _ _ z => z, fun e => wpS_mono (q.2 e) h (fun _ _ z => z) (fun _ _ z => z) (fun _ _ z => z) fun _ _ _ _ z => z⟩
theorem wpS_seqJ {a b : MS} {en : En} {S : Store} (J : En → Store → Prop) (h1 : wpS (a en S) J R B C X) (h2 : ∀ e T, J e T → wpS (b e T) N R B C X) : wpS (mSeq a b en S) N R B C X := wpS_seq (wpS_mono h1 h2 (fun _ _ z => z) (fun _ _ z => z) (fun _ _ z => z) fun _ _ _ _ z => z)
end

/-! ### values beside the things that change (f says which) -/
def mask (f : Nat → Bool) (S : Store) : Store := S.mapIdx fun i o => if f i = true then .xd [] else o
theorem mask_at {f : Nat → Bool} {k : Nat} {S : Store} {o : O} (h : f k = false) (e : S[k]? = some o) : (mask f S)[k]? = some o := by
  unfold mask
  rw [List.getElem?_mapIdx, e, Option.map_some, if_neg (by rw [h]; decide)]
theorem mask_yes {f : Nat → Bool} {k : Nat} {S : Store} (h : f k = true) (l : k < S.length) : (mask f S)[k]? = some (.xd []) := by
  unfold mask
  rw [List.getElem?_mapIdx, List.getElem?_eq_getElem l, Option.map_some, if_pos h]
theorem mask_len {f : Nat → Bool} {S : Store} : (mask f S).length = S.length := by unfold mask; rw [List.length_mapIdx]
theorem mask_inv {f : Nat → Bool} {S : Store} {k : Nat} {o : O} (e : (mask f S)[k]? = some o) (h : o ≠ .xd []) : f k = false ∧ S[k]? = some o := by
  have hl := lt_of_at e
  rw [mask_len] at hl
  by_cases hk : f k = true
  · rw [mask_yes hk hl] at e; exact absurd (Option.some.inj e).symm h
  · have hk : f k = false := by cases z : f k <;> first | rfl | exact absurd z hk
    refine ⟨hk, ?_⟩
    rw [mask_at hk (List.getElem?_eq_getElem hl)] at e
    rw [List.getElem?_eq_getElem hl]
    exact e
/-- all but the things that change stand -/
structure KpF (f : Nat → Bool) (S T : Store) : Prop where
  k : ∀ (n : Nat) (o : O), f n = false → S[n]? = some o → T[n]? = some o
  len : S.length ≤ T.length
theorem KpX.f {f : Nat → Bool} {p : Nat} {S T : Store} (k : KpX p S T) (h : f p = true) : KpF f S T := ⟨fun n o hn e => k.k n o (fun z => by rw [z, h] at hn; cases hn) e, k.len⟩
theorem KpF.set {f : Nat → Bool} {v : Nat} {S : Store} {o : O} (h : f v = true) : KpF f S (S.set v o) := ⟨fun n q hn e => by rw [List.getElem?_set_ne (fun z => by rw [← z, h] at hn; cases hn)]; exact e, by rw [List.length_set]; exact Nat.le_refl _⟩
theorem Kp.f {f : Nat → Bool} {S T : Store} (k : Kp S T) : KpF f S T := ⟨fun n o _ e => k n o e, k.len⟩
theorem KpF.trans {f : Nat → Bool} {S T U : Store} (a : KpF f S T) (b : KpF f T U) : KpF f S U := ⟨fun n o h e => b.k n o h (a.k n o h e), Nat.le_trans a.len b.len⟩
theorem Pen.st {p c n v : Nat} {S : Store} {o : O} (P : Pen p c n S) (h1 : v ≠ p) (h2 : v ≠ c) : Pen p c n (S.set v o) := by
  obtain ⟨⟨ns, t, ρ, q1, q2, q⟩, ne⟩ := P
  exact ⟨⟨ns, t, ρ, by rw [List.getElem?_set_ne h1]; exact q1, by rw [List.getElem?_set_ne h2]; exact q2, q⟩, ne⟩
theorem toPy_mask {f : Nat → Bool} {S : Store} : ∀ (n : Nat) {d : D} {q : PyData}, toPy (mask f S) n d = some q → toPy S n d = some q
  | 0, d, q, e => by cases d <;> exact e
  | n + 1, d, q, e => by
    have key : ∀ {xs : List D} {F : List PyData → PyData}, (xs.mapM (toPy (mask f S) n)).map F = some q → (xs.mapM (toPy S n)).map F = some q := fun {xs F} e => by
      obtain ⟨ps, e1, e2⟩ := Option.map_eq_some_iff.mp e
      rw [mapM_kp (fun d r z => toPy_mask n z) e1]
      exact congrArg some e2
    cases d with
    | tup xs => exact key e
    | kl xs =>
      have e : (if 63 ≤ n then (xs.mapM (toPy (mask f S) n)).map PyData.list else none) = some q := e
      show (if 63 ≤ n then (xs.mapM (toPy S n)).map PyData.list else none) = some q
      by_cases hn : 63 ≤ n
      · rw [if_pos hn] at e ⊢
        exact key e
      · rw [if_neg hn] at e
        cases e
    | ref m =>
      unfold toPy at e ⊢
      cases z : (mask f S)[m]? with
      | none => rw [z] at e; cases e
      | some o =>
        rw [z] at e
        cases o with
        | lst xs => rw [(mask_inv z (fun w => nomatch w)).2]; exact key e
        | dct kvs => rw [(mask_inv z (fun w => nomatch w)).2]; exact key e
        | _ => cases e
    | _ => exact e
section
variable {f : Nat → Bool} {p n m b : Nat} {S T : Store} {d : D} {xs : List D}
theorem Nc.un (h : Nc n m b (mask f S) d) : Nc n m b S d := let ⟨q, h1, h2, h3⟩ := h.ex; ⟨q, toPy_mask n h1, h2, h3⟩
end
/-! ### a dict display -/
section
variable {en : En} {S : Store} {E : EK} {P : D → Store → Prop} {Q : List (D × D) → Store → Prop}
theorem wpE_psN (h : Q [] S) : wpE (mPsN en S) Q E := h
theorem wpE_psC {mk mv : ME} {m : MP} (h : wpE (mk en S) (fun k T => wpE (mv en T) (fun v U => wpE (m en U) (fun ps V => Q ((k, v) :: ps) V) E) E) E) : wpE (mPsC mk mv m en S) Q E :=
  wpE_bind (wpE_mono h (fun _ _ q => wpE_bind (wpE_mono q (fun _ _ q => wpE_bind q) fun _ _ _ q => q)) fun _ _ _ q => q)
theorem wpE_disp {m : MP} (h : ∀ n T, Kp S T → S.length ≤ n → T[n]? = some (.dct []) → wpE (m en T) (fun ps U => U[n]? = some (.dct []) ∧ ∃ kvs, keysD ps = some kvs ∧ kvs.length ≤ 15 ∧ ∀ V, KpX n U V → V[n]? = some (.dct (mergeD [] kvs)) → P (.ref n) V) E) : wpE (mDisp m en S) P E := by
  refine wpE_bind (wpE_mono (h S.length (S ++ [.dct []]) Kp.app (Nat.le_refl _) at_mid) (fun ps U ⟨h1, kvs, h2, h3, h4⟩ => ?_) fun _ _ _ q => q)
  refine wpE_o (wpO_of (d := .ref S.length) (T := U.set S.length (.dct (mergeD [] kvs))) ?_ (h4 _ KpX.set (List.getElem?_set_self (lt_of_at h1))))
  unfold mDispE
  rw [h1]
  dsimp only
  rw [h2]
  exact if_pos h3
theorem Kp.disp {S T V : Store} {n : Nat} (k : Kp S T) (l : S.length ≤ n) (x : KpX n T V) : Kp S V := fun m o e => x.k m o (by have := lt_of_at e; omega) (k m o e)
end
end Q

namespace Q
open PySem PySem.Spec PyProof.Rows L2
variable [Gh : Ghost]
/-! ### errors of the text over any built-in one, each with an __init__ of its own -/
structure EB (B newId initId : String) (bb : List Value) : Prop where
  f : ExcBaseFacts B newId initId bb
  st : StoreFacts B bb "object.__setattr__" "object"
  ob : bb.contains (.type "object") = true
  nr : ∀ a, bb.contains (.ref a) = false
  ty : typeOf (.type B) = pure (.type "type")
  stub : Manifest.isStub B = false
  hand : PySem.W.handedIn (.builtin initId) = true
theorem eb_ValueError : EB "ValueError" "ValueError.__new__" "ValueError.__init__" [.type "ValueError", .type "Exception", .type "BaseException", .type "object"] :=
  ⟨F.excBase_ValueError, F.store_ValueError, by decide +kernel, fun a => by simp, by kernel_rfl, by decide +kernel, by decide +kernel⟩
/-- what the written part says of such a class -/
structure EcOk (K : PySem.W.Frag) (B newId initId : String) (bb : List Value) (C : Addr) : Prop where
  eb : EB B newId initId bb
  cls : ∃ nm q N bs sn sub ab col dd k0 k1 k2 k3 k5, K.lookup C = some (excClassObj nm q C N bs bb true sn sub ab col dd k0 k1 k2 k3 k5 newId)
  sa : PySem.W.findIn K (.ref C) "__setattr__" = some (some (.builtin "object.__setattr__"))
  exC : PySem.W.subIn K (.ref C) (.type "BaseException") = some true
  tyC : PySem.W.typeIn K (.ref C) = some (.type "type")
  kC : PySem.W.keepIn K (.ref C) = true
  ga : PySem.W.findIn K (.ref C) "__getattribute__" = some (some (.builtin "BaseException.__getattribute__"))
  gg : PySem.W.findIn K (.ref C) "__getattr__" = some none
  ca : PySem.W.findIn K (.ref C) "__class__" = some (some (.builtin "object.__class__"))
  cn : PySem.W.specialIn K (.builtin "object.__class__") "__get__" = some (some (.builtin "getset_descriptor.__get__"))
  ct : PySem.W.takesIn K (.builtin "object.__class__") = some true
variable {K : PySem.W.Frag} {B newId initId : String} {bb : List Value} {C : Addr}
theorem EcOk.cd (T : EcOk K B newId initId bb C) : ∃ cd : ClassData, PySem.W.clsIn K C = some cd ∧ cd.mro = .ref C :: bb ∧ cd.hasDict = true := by
  obtain ⟨nm, q, N, bs, sn, sub, ab, col, dd, k0, k1, k2, k3, k5, h⟩ := T.cls
  refine ⟨{ name := nm, bases := bs, mro := .ref C :: bb, ns := N, qualname := q, hasDict := true, slotNames := sn, subclasses := sub, abstract := ab, collection := col, hasDel := false }, ?_, rfl, rfl⟩
  unfold PySem.W.clsIn
  rw [h] <;> rfl
theorem EcOk.hd (T : EcOk K B newId initId bb C) : PySem.W.hasDictIn K C = true := by
  obtain ⟨cd, h1, _, h3⟩ := T.cd
  unfold PySem.W.hasDictIn
  rw [h1]
  exact h3
/-- one of two such classes below the other: only itself -/
theorem EcOk.sub {B' newId' initId' : String} {bb' : List Value} {C' : Addr} (T : EcOk K B newId initId bb C) (T' : EcOk K B' newId' initId' bb' C') : PySem.W.subIn K (.ref C) (.ref C') = some (decide (C = C')) := by
  obtain ⟨cd, h1, h2, _⟩ := T.cd
  show PySem.W.mroIn K C (.ref C') = _
  unfold PySem.W.mroIn
  rw [h1, Option.bind_some, h2]
  rw [if_neg (by simp)]
  congr 1
  rw [List.contains_cons, T.eb.nr, Bool.or_false]
  by_cases e : C = C'
  · subst e
    simp
  · rw [decide_eq_false e]
    simpa using fun z => e z.symm
theorem EcOk.exm {B' newId' initId' : String} {bb' : List Value} {C' : Addr} (T : EcOk K B newId initId bb C) (T' : EcOk K B' newId' initId' bb' C') : PySem.W.exmOne K (.ref C) (.ref C') = some (decide (C = C')) :=
  PySem.W.exm_ref T'.exC T'.hd T'.tyC (T.sub T')
theorem EcOk.mro (T : EcOk K B newId initId bb C) (v : Value) : PySem.W.mroIn K C v = some ((Value.ref C :: bb).contains v) := by
  obtain ⟨cd, h1, h2, _⟩ := T.cd
  unfold PySem.W.mroIn
  rw [h1, Option.bind_some, h2]
  rw [if_neg (by simp)]
theorem EcOk.raises {X : Cx} (T : EcOk X.K B newId initId bb C) : Raises X (.ref C) := raises_own T.exC T.tyC
/-! #### storing a field -/
section
open PySem.W PySem.Calls PySem.HandSPX Builtin Builtin.ObjectAttr
variable {prog : Program} {w : World} {A : Around} {E : Value → Shared → Prop} {R : Result → Shared → Prop} {hp : Heap} {g : Array GenState} {d : Drawn} {t : Nat} {os : OsState}
/-- an error's first field -/
theorem put_first {e0 : Addr} {fv : Array Value} {fld : Str} {tk : Tok} {v : Value} (T : EcOk K B newId initId bb C) (KI : K.In hp) (he0 : hp.get? e0 = some { cls := .ref C, data := .fields fv }) (hno : W.findIn K (.ref C) fld = some none)
    (fin : ∀ h2 tk2 dx, (∀ b o, b ≠ e0 → hp.get? b = some o → h2.get? b = some o) → hp.objs.size ≤ dx → dx ≠ e0 → h2.get? e0 = some { cls := .ref C, dict := some dx, data := .fields fv } → h2.Ns1 dx (fun y => if y = fld then some v else none) → R (.ok (.ret .none)) ⟨h2, g, d, tk2, os⟩) :
    codeAny (model prog w) A (.call (.builtin "object.__setattr__") ⟨[.ref e0, .str fld tk, v], []⟩) R ⟨hp, g, d, t, os⟩ := by
  obtain ⟨cd, hcd, hmr, hdt⟩ := T.cd
  have IA : W.InstAt hp e0 { cls := .ref C, data := .fields fv } C none := ⟨he0, rfl, rfl, trivial⟩
  have S0 := F.store_object
  have isObj : W.mroIn K C (.type "object") = some true := by
    unfold W.mroIn
    rw [hcd, Option.bind_some, hmr, if_neg (by simp), List.contains_cons, T.eb.ob, Bool.or_true]
  have apart : e0 ≠ hp.objs.size := Nat.ne_of_lt (Heap.lt_size he0)
  refine codeAny_call_builtin S0.slot.plain S0.entry (@W.check_slot (model prog w) _ _ ⟨hp, g, d, t, os⟩ "object.__setattr__" "object" "__setattr__" (.ref e0) [.str fld tk, v] [] _ S0.kind S0.split (IA.type.andThen (W.looks_mroIn KI isObj)) (S0.args (.ref e0) (.str fld tk) v) ?_)
  have lMro : W.Looks (model prog w) hp (mroOf (.ref C)) (.ref C :: bb) := by
    rw [← hmr]
    exact (W.looks_clsIn KI hcd).andThen .now
  have lTake : W.Looks (model prog w) hp (storeTaker? none) none := .now
  have lCls : W.Looks (model prog w) hp (classData C) cd := W.looks_clsIn KI hcd
  rw [W.osa_eq, refuse_eq]
  refine wpAny_bind (wpAny_bind (IA.type.at (wpAny_bind (lMro.at ?_))))
  rw [refuseLoop_ref, T.eb.st.passes]
  refine wpAny_pure (wpAny_bind (IA.type.at (wpAny_bind ((W.looks_findIn KI hno).at (wpAny_bind (lTake.at ?_))))))
  show wpAny _ _ (storeInOwnDict (.ref e0) (.ref C) (.str fld tk) fld v false) _ _ _
  obtain ⟨n1, n2, n3, n4, n5, n6, n7, n8, n9, n10, n11⟩ := cd
  dsimp only at hdt
  subst hdt
  unfold storeInOwnDict ownDictForStores
  repeat (first | with_reducible refine store_in_new ?_ ?_ | with_reducible refine wpAny_loadPart_at he0 ?_ | with_reducible refine lCls.at ?_ | wp_step)
  · exact ⟨_, #[], _, (Heap.get?_update_ne _ _ _ _ apart.symm).trans (Heap.get?_push_at rfl rfl), rfl, fun z hz => absurd hz (by simp), fun _ => rfl⟩
  · intro h2 tk2 ns sb
    have p1 : (hp.push { cls := .type "dict", data := .dict #[] }).get? e0 = some { cls := .ref C, data := .fields fv } := Heap.get?_push_of_some _ he0
    refine fin h2 tk2 hp.objs.size (fun b o hb ho => ?_) (Nat.le_refl _) apart.symm ?_ ns
    · exact (sb.2 b (Nat.ne_of_lt (Heap.lt_size ho))).trans ((Heap.get?_update_ne _ _ _ _ hb).trans (Heap.get?_push_of_some _ ho))
    · exact (sb.2 e0 apart).trans (Heap.get?_update_self _ p1 rfl)
/-- .. a further one -/
theorem put_more {e0 dx : Addr} {fv : Array Value} {fld : Str} {tk : Tok} {v : Value} {m0 : Str → Option Value} {nl : List Str} (T : EcOk K B newId initId bb C) (KI : K.In hp) (he0 : hp.get? e0 = some { cls := .ref C, dict := some dx, data := .fields fv })
    (hns : hp.Ns1 dx m0) (hw : Within m0 nl) (hz : nl.length ≤ 1000) (hno : W.findIn K (.ref C) fld = some none)
    (fin : ∀ h2 tk2, (∀ b o, b ≠ dx → hp.get? b = some o → h2.get? b = some o) → h2.Ns1 dx (fun y => if y = fld then some v else m0 y) → R (.ok (.ret .none)) ⟨h2, g, d, tk2, os⟩) :
    codeAny (model prog w) A (.call (.builtin "object.__setattr__") ⟨[.ref e0, .str fld tk, v], []⟩) R ⟨hp, g, d, t, os⟩ := by
  obtain ⟨cd, hcd, hmr, hdt⟩ := T.cd
  obtain ⟨oD, eD, pD, hoD, dD, _⟩ := hns.count hw
  have IA : W.InstAt hp e0 { cls := .ref C, dict := some dx, data := .fields fv } C (some oD) := ⟨he0, rfl, rfl, hoD⟩
  have S0 := F.store_object
  have isObj : W.mroIn K C (.type "object") = some true := by
    unfold W.mroIn
    rw [hcd, Option.bind_some, hmr, if_neg (by simp), List.contains_cons, T.eb.ob, Bool.or_true]
  refine codeAny_call_builtin S0.slot.plain S0.entry (@W.check_slot (model prog w) _ _ ⟨hp, g, d, t, os⟩ "object.__setattr__" "object" "__setattr__" (.ref e0) [.str fld tk, v] [] _ S0.kind S0.split (IA.type.andThen (W.looks_mroIn KI isObj)) (S0.args (.ref e0) (.str fld tk) v) ?_)
  have lMro : W.Looks (model prog w) hp (mroOf (.ref C)) (.ref C :: bb) := by
    rw [← hmr]
    exact (W.looks_clsIn KI hcd).andThen .now
  have lTake : W.Looks (model prog w) hp (storeTaker? none) none := .now
  have lCls : W.Looks (model prog w) hp (classData C) cd := W.looks_clsIn KI hcd
  rw [W.osa_eq, refuse_eq]
  refine wpAny_bind (wpAny_bind (IA.type.at (wpAny_bind (lMro.at ?_))))
  rw [refuseLoop_ref, T.eb.st.passes]
  refine wpAny_pure (wpAny_bind (IA.type.at (wpAny_bind ((W.looks_findIn KI hno).at (wpAny_bind (lTake.at ?_))))))
  show wpAny _ _ (storeInOwnDict (.ref e0) (.ref C) (.str fld tk) fld v false) _ _ _
  obtain ⟨n1, n2, n3, n4, n5, n6, n7, n8, n9, n10, n11⟩ := cd
  dsimp only at hdt
  subst hdt
  unfold storeInOwnDict ownDictForStores
  repeat (first | with_reducible refine PySem.OEX.store_in_old hns hw hz ?_ | with_reducible refine wpAny_loadPart_at he0 ?_ | with_reducible refine lCls.at ?_ | wp_step)
  intro h2 tk2 ns sb
  exact fin h2 tk2 (fun b o hb ho => (sb.2 b hb).trans ho) ns
end
end Q

namespace Q
open PySem PySem.Spec PyProof.Rows L2
variable [Gh : Ghost]
/-! ### an error of the text being made -/
variable {B newId initId : String} {bb : List Value} {C : Addr}
section
variable {X : Cx} {pins : List (Addr × Obj)} {σ : L2.St} {H : Hp} {s : Shared} {a dx : Addr} {fl : Str} {y : V} {u : Value} {fs : List (Str × V)} {Q : Unit → Shared → Prop} {E : Value → Shared → Prop} {A : Around}
theorem fld_first (T : EcOk X.K B newId initId bb C) (I : Inv X pins σ H s) (ha : H a = some (exo a C none)) (hno : PySem.W.findIn X.K (.ref C) fl = some none) (ry : RelV y u)
    (go : ∀ dx s', H dx = none → dx ≠ a → Inv X pins σ (upd (upd H dx (exd dx [(fl, y)])) a (exo a C (some dx))) s' → Q () s') : wpAny (model X.prog X.w) A (setAttr (.ref a) fl u) Q E s := by
  obtain ⟨t1, ob⟩ := exo_at I.hok ha
  obtain ⟨hp, g, d, t, os⟩ := s
  refine PySem.W.set_plain I.kIn (ox := { cls := .ref C, dict := none, data := .fields #[.ref t1, .none, .none, .none, .bool false, .none] }) (od := none) ⟨ob, rfl, rfl, trivial⟩ T.sa ?_
  refine put_first T I.kIn ob hno fun h2 tk2 dx kept new far at2 ns => ?_
  have free : H dx = none := I.hok.fresh new
  have old : ∀ {b : Addr} {o : Obj}, hp.get? b = some o → b ≠ dx := fun {b o} z => Nat.ne_of_lt (Nat.lt_of_lt_of_le (Heap.lt_size z) new)
  have nota : ∀ {b : Addr}, H b = none → b ≠ a := fun {b} n z => by
    rw [z, ha] at n
    cases n
  have U : Un X.fs [] H (upd (upd H dx (exd dx [(fl, y)])) a (exo a C (some dx))) hp h2 := {
    keep := fun b o z n _ _ => kept b o (nota n) z
    slot := fun b o z n _ _ => ⟨o.slots, kept b o (nota n) z⟩
    free := fun b o z n _ => by rw [upd_ne (nota n), upd_ne (old z)]; exact n
    there := fun b o z _ => by
      by_cases hb : b = a
      · exact ⟨_, by rw [hb]; exact at2⟩
      · exact ⟨o, kept b o hb z⟩
    tups := fun b xs z => by rw [upd_ne (at_ne ha z exo_tup), upd_ne (ne_of_none z free)]; exact z
    frzs := fun b o v z => by rw [upd_ne (at_ne ha z exo_frz), upd_ne (ne_of_none z free)]; exact z
    tbls := fun b ps z => ⟨#[], by rw [upd_ne (at_ne ha z exo_tbl), upd_ne (ne_of_none z free), z]; simp⟩ }
  refine go dx _ free far (I.un (t' := tk2) U fun b o z => ?_)
  by_cases hb : b = a
  · subst hb
    rw [upd_same] at z
    cases z
    exact exo_ok at2
  · rw [upd_ne hb] at z
    by_cases hd : b = dx
    · subst hd
      rw [upd_same] at z
      cases z
      exact exd_ok ns (relO_put (fs := []) ry fun _ => True.intro)
    · rw [upd_ne hd] at z
      exact (I.hok b o z).stay (fun c v hc q => kept c v (by
          rcases hc with hc | hc
          · rw [hc]
            exact hb
          · exact at_ne ha hc exo_own) q)
        (fun c hc => by rw [upd_ne (at_ne ha hc exo_own), upd_ne (ne_of_none hc free)]; exact hc) (fun c xs hc => by rw [upd_ne (at_ne ha hc exo_tup), upd_ne (ne_of_none hc free)]; exact hc)
theorem fld_more (T : EcOk X.K B newId initId bb C) (I : Inv X pins σ H s) (ha : H a = some (exo a C (some dx))) (hd : H dx = some (exd dx fs)) (hl : fs.length ≤ 900) (hno : PySem.W.findIn X.K (.ref C) fl = some none) (ry : RelV y u)
    (go : ∀ s', Inv X pins σ (upd H dx (exd dx ((fl, y) :: fs))) s' → Q () s') : wpAny (model X.prog X.w) A (setAttr (.ref a) fl u) Q E s := by
  obtain ⟨t1, ob⟩ := exo_at I.hok ha
  obtain ⟨mA, ns, rel⟩ := exd_at I.hok hd
  have wi := within_of rel
  obtain ⟨hp, g, d, t, os⟩ := s
  obtain ⟨oD, _, _, hoD, _, _⟩ := ns.count wi
  refine PySem.W.set_plain I.kIn (ox := { cls := .ref C, dict := some dx, data := .fields #[.ref t1, .none, .none, .none, .bool false, .none] }) (od := some oD) ⟨ob, rfl, rfl, hoD⟩ T.sa ?_
  refine put_more T I.kIn ob ns wi (by rw [List.length_map]; omega) hno fun h2 tk2 kept ns2 => ?_
  have there : ∃ o, h2.get? dx = some o := by
    obtain ⟨o, _, _, z, _⟩ := ns2
    exact ⟨o, z⟩
  exact go _ (I.write (t' := tk2) (x := dx) (e := dx) (o := exd dx ((fl, y) :: fs)) (by rw [hd]; exact True.intro) (.inl rfl) kept there (exd_ok ns2 (relO_put ry rel)))
/-- the built-in __init__ -/
theorem base_init {us : List Value} {Q : Value → Shared → Prop} (T : EcOk X.K B newId initId bb C) (I : Inv X pins σ H s) (ha : H a = some (exo a C none)) (hl : us.length ≤ sizeLine) (go : ∀ s', Inv X pins σ H s' → Q .none s') :
    wpAny (model X.prog X.w) A (call (.builtin initId) (.ref a :: us)) Q E s := by
  obtain ⟨nm, q, N, bs, sn, sub, ab, col, dd, k0, k1, k2, k3, k5, hC⟩ := T.cls
  obtain ⟨t1, ob⟩ := exo_at I.hok ha
  obtain ⟨hp, g, d, t, os⟩ := s
  refine wpAny_call (PySem.HandSPX.init_base T.eb.f (fun _ => rfl) (I.kIn _ _ hC) ob hl fun h2 t2 kept at2 => ?_)
  have J := I.write (t' := t) (x := a) (e := a) (o := exo a C none) (by rw [ha]; exact True.intro) (.inl rfl) kept ⟨_, at2⟩ (exo_ok at2)
  have same : upd H a (exo a C none) = H := by
    funext b
    by_cases hb : b = a
    · rw [hb, upd_same, ha]
    · rw [upd_ne hb]
  rw [same] at J
  exact go _ J
end
/-! #### as rules -/
/-- the first argument stands for itself; none is starred -/
abbrev Heads (X : Cx) (e : Expr) (es : List Expr) : Prop := starEach (e :: es) X.env = (false, eval e X.env) :: starEach es X.env
abbrev Plain_ (X : Cx) (es : List Expr) (pos : Pos) : Prop := (backTo pos (starEach es X.env)).any (fun a => a.1) = false
/-- B.__init__(self, ..) -/
def tBI (K : PySem.W.Frag) (B newId initId : String) (bb : List Value) (ta : TA) : TE := fun σ H Q => ta σ H fun vs H1 => ∃ (a C : Addr) (ws : List V), vs = .ref a :: ws ∧ ws.length ≤ 1000 ∧ EcOk K B newId initId bb C ∧ H1 a = some (exo a C none) ∧ Q .non H1
/-- the error has no fields yet: it gets a dict of this one -/
def FldNew (D : Ends) (σ : L2.St) (H : Hp) (a C : Addr) (f : Str) (y : V) : Prop := H a = some (exo a C none) ∧ ∀ n, n ≠ a → H n = none → D.nx σ (upd (upd H n (exd n [(f, y)])) a (exo a C (some n)))
/-- it has some -/
def FldMore (D : Ends) (σ : L2.St) (H : Hp) (a C : Addr) (f : Str) (y : V) : Prop := ∃ (n : Addr) (l : List (Str × V)), l.length ≤ 900 ∧ H a = some (exo a C (some n)) ∧ H n = some (exd n l) ∧ D.nx σ (upd H n (exd n ((f, y) :: l)))
/-- self.f = e -/
def tFl (K : PySem.W.Frag) (B newId initId : String) (bb : List Value) (f : Str) (to te : TE) : TS := fun D σ H => te σ H fun y H1 => to σ H1 fun x H2 => ∃ a C : Addr, x = .ref a ∧ EcOk K B newId initId bb C ∧ PySem.W.findIn K (.ref C) f = some none ∧
  (FldNew D σ H2 a C f y ∨ FldMore D σ H2 a C f y)
section
variable {X : Cx} {o e : Expr} {es : List Expr} {to te : TE} {ta : TA} {f x : Str} {p p' p1 p2 pos : Pos}
theorem pe_bi {pl : Sem Bool} (eb : EB B newId initId bb) (hg : Gl X x) (hm : X.mg x = none) (hbo : bootBuiltins x = some (.type B)) (vV : PySem.W.findCls X.K (.type B) (.type "type") "__init__" = some (.val (.builtin initId)))
    (ha : PA X (e :: es) ta) (hdb : (x == ("__debug__" : Str)) = false := by decide) (hnn : x ≠ "__name__" := by decide)
    (hc : eval (.Call (.Attribute (.Name x p1) "__init__" p2) (e :: es) [] pos) X.env = (do let ov ← eval (.Name x p1) X.env; standAt p2.atName; let (f, first) ← holding [ov] (getMethod ov "__init__" pl); callWith pos f first (backTo pos (starEach (e :: es) X.env)) (backToKw pos (keywordEach [] X.env))) := by rfl)
    (he : Heads X e es := by rfl) (hpl : Plain_ X es pos := by rfl) :
    PE X (.Call (.Attribute (.Name x p1) "__init__" p2) (e :: es) [] pos) (tBI X.K B newId initId bb ta) := by
  refine ⟨fun pins s σ H Q I h => ?_⟩
  refine PySem.W.methodCall_KW (ld_blt I hg hm hbo ?_ hnn hdb) hc
  obtain ⟨m, fr⟩ := I.fr
  refine PySem.W.method_type fr I.ok.mod.kin eb.ty eb.stub vV eb.hand ?_
  show wpAny _ _ (callWith pos (Value.builtin initId) [] (backTo pos (starEach (e :: es) X.env)) []) _ _ _
  refine PyProof.Rows.callWith_method1 (thn (ha.run pos pins _ σ H _ (I.tok _) h) fun us s1 ⟨vs, H1, I1, rs, a, C, ws, ev, hl, T, ea, q⟩ => ?_) he hpl
  subst ev
  cases rs with
  | @cons _ u0 _ ur ra rw' =>
    obtain rfl : u0 = Value.ref a := ra
    have small : ur.length ≤ sizeLine := by
      rw [← Paired.length rw', sizeLine_eq]
      omega
    exact base_init T I1 ea small fun s' J => ⟨.non, H1, J, rfl, q⟩
theorem ps_fl (ho : PE X o to) (he : PE X e te) (hs : swapsWith e (some (.Attribute o f p')) pos.line X.env = pure false := by rfl) : PS X (.Assign [.Attribute o f p'] e pos) (tFl X.K B newId initId bb f to te) := by
  refine ⟨fun pins s σ H D I h => ?_⟩
  refine plainObj_wpAny_Assign_Attribute (wpAny_mono (he.run pins s σ H _ I h) (fun v s1 got => ?_) fun _ _ z => z) hs
  obtain ⟨y, H1, I1, r1, q1⟩ := got
  refine wpAny_mono (ho.run pins s1 σ H1 _ I1 q1) (fun u s2 got => ?_) fun _ _ z => z
  obtain ⟨x, H2, I2, r2, a, C, ex, T, hno, q⟩ := got
  subst ex
  obtain rfl : u = Value.ref a := r2
  rcases q with ⟨ea, q⟩ | ⟨dx, fs, hl, ea, ed, q⟩
  · exact fld_first T I2 ea hno r1 fun dx s' n far J => ⟨σ, _, J, q dx far n⟩
  · exact fld_more T I2 ea ed hl hno r1 fun s' J => ⟨σ, _, J, q⟩
end
/-- what such an __init__ does: the fields are the arguments (the last one first) -/
def spI (C : Addr) (fs : List Str) : Sp := fun vs H Q _ => ∃ (a : Addr) (ws : List V), vs = .ref a :: ws ∧ ws.length = fs.length ∧ H a = some (exo a C none) ∧
  (fs = [] → Q .non H) ∧ (fs ≠ [] → ∀ (d : Addr) (H2 : Hp), H d = none → d ≠ a → H2 a = some (exo a C (some d)) → H2 d = some (exd d (fs.zip ws).reverse) → (∀ b, b ≠ a → b ≠ d → H2 b = H b) → Q .non H2)
/-- C(e, ..) -/
def tMkC (C : Addr) (fs : List Str) (ta : TA) : L2.St → Hp → XK → Prop := fun σ H Q => ta σ H fun vs H1 => vs.length = fs.length ∧ vs.length ≤ 1000 ∧ (fs = [] → Q (.ref C) none H1) ∧ (fs ≠ [] → ∀ d, H1 d = none → Q (.ref C) (some d) (upd H1 d (.xd (fs.zip vs).reverse)))
theorem pmk_ec {X : Cx} {e : Expr} {es : List Expr} {ta : TA} {x : Str} {fI : Addr} {k : Nat} {fd : FuncData} {ps fs : List Str} {p pos : Pos} (T : EcOk X.K B newId initId bb C) (iC : PySem.W.findIn X.K (.ref C) "__init__" = some (some (.ref fI))) (tI : PySem.W.typeIn X.K (.ref fI) = some (.type "function"))
    (F1 : FnOk X.prog X.w X.K X.mg X.base (fun _ _ _ _ _ _ => False) k fI fd ps (spI C fs)) (hr : Room (k + 1) X.A) (hb : Binds X.K fd ps []) (hg : Gl X x) (hm : X.mg x = some (.ref C)) (ha : PA X (e :: es) ta) (h0 : fs ≠ [])
    (hdb : (x == ("__debug__" : Str)) = false := by decide) (he : Heads X e es := by rfl) (hpl : Plain_ X es pos := by rfl) :
    PMk X (.Call (.Name x p) (e :: es) [] pos) (tMkC C fs ta) := by
  intro pins s σ H Q I h
  obtain ⟨nm, q, N, bs, sn, sub, ab, col, dd, k0, k1, k2, k3, k5, hC⟩ := T.cls
  refine wpAny_Call_Name_kw (ld_glob I hg hm ?_ hdb)
  refine PySem.W.callWith_K (h₀ := X.base) I.ok.mod.kin T.kC (thn (ha.run pos pins s σ H _ I h) fun us s1 ⟨vs, H1, I1, rv, hlen, hz, _, q1⟩ => ⟨I1.kIn, ?_⟩) he hpl
  show wpAny _ _ (call (.ref C) us) _ _ _
  obtain ⟨hp, g, dr, tk, os⟩ := s1
  have above : hp.objs.size ≤ hp.objs.size + 1 := Nat.le_succ _
  have hn : H1 (hp.objs.size + 1) = none := I1.hok.fresh above
  have kk : ∀ b o, hp.get? b = some o → ((hp.push (PySem.W.kdv_tup us)).push (PySem.HandSPX.excO C hp.objs.size)).get? b = some o := fun b o z => Heap.get?_push_of_some _ (Heap.get?_push_of_some _ z)
  have at0 : ((hp.push (PySem.W.kdv_tup us)).push (PySem.HandSPX.excO C hp.objs.size)).get? (hp.objs.size + 1) = some (PySem.HandSPX.excO C hp.objs.size) := by heap_get
  have I2 := I1.laid (t' := tk) (a := hp.objs.size + 1) (o := exo (hp.objs.size + 1) C none) (h' := (hp.push (PySem.W.kdv_tup us)).push (PySem.HandSPX.excO C hp.objs.size)) kk above (exo_ok at0)
  have r2 : Vals (V.ref (hp.objs.size + 1) :: vs) (Value.ref (hp.objs.size + 1) :: us) := .cons rfl rv
  -- what the __init__ is asked for
  have hq : spI C fs (.ref (hp.objs.size + 1) :: vs) (upd H1 (hp.objs.size + 1) (exo (hp.objs.size + 1) C none))
      (fun v H2 => v = .non ∧ ∃ (d : Addr) (l : List (Str × V)), H2 (hp.objs.size + 1) = some (exo (hp.objs.size + 1) C (some d)) ∧ H2 d = some (exd d l) ∧ H1 d = none ∧ Q (.ref C) (some d) (upd (del H2 (hp.objs.size + 1)) d (.xd l))) (fun _ _ _ => False) := by
    refine ⟨_, vs, rfl, hlen, upd_same, fun z => absurd z h0, fun _ d H2 hd far e1 e2 e3 => ⟨rfl, d, _, e1, e2, by rw [upd_ne far] at hd; exact hd, ?_⟩⟩
    rw [upd_ne far] at hd
    have same : upd (del H2 (hp.objs.size + 1)) d (.xd (fs.zip vs).reverse) = upd H1 d (.xd (fs.zip vs).reverse) := by
      funext b
      by_cases hb : b = d
      · rw [hb, upd_same, upd_same]
      · rw [upd_ne hb, upd_ne hb]
        by_cases hb2 : b = hp.objs.size + 1
        · rw [hb2, del_same, hn]
        · rw [del_ne hb2, e3 b hb2 hb, upd_ne hb2]
    rw [same]
    exact q1 h0 d hd
  have hl := F1.len _ _ _ _ hq
  rw [r2.length, ← List.append_nil (Value.ref (hp.objs.size + 1) :: us)] at hl
  have hus : us.length ≤ sizeLine := by
    rw [← Paired.length rv, sizeLine_eq]
    omega
  refine wpAny_call (PySem.HandSPX.call_own T.eb.f (fun _ => rfl) (I1.kIn _ _ hC) (PySem.W.looks_findIn I1.kIn iC) (fun self => PySem.W.bind_fn I1.kIn self tI) hus
    (codeAny_mono (F1.run _ X.stack _ _ ⟨Value.ref (hp.objs.size + 1) :: us, []⟩ (Value.ref (hp.objs.size + 1) :: us ++ []) _ _ (fun _ _ _ => False) (hr.make C us []) (I2.env0.make C us []) (hb _ (Value.ref (hp.objs.size + 1) :: us) I2.kIn hl) (by rw [List.append_nil]; exact r2) hq) fun r s' hq' => ?_))
  cases r with
  | error er => exact False.elim hq'
  | ok fl =>
    cases fl with
    | ret u =>
      obtain ⟨v, H2, os2, bare2, un2, hok2, rv2, ev, d, l, ea, ed, hd1, q2⟩ := hq'
      subst ev
      obtain ⟨h2, g2, d2, t2, os'⟩ := s'
      exact ⟨rv2, mk_end T.raises I1 above kk un2 hok2 os2 bare2 ea ed hd1 q2⟩
    | next => exact False.elim hq'
    | brk => exact False.elim hq'
    | cont => exact False.elim hq'
end Q

namespace Q
open PySem PySem.Spec PyProof.Rows L2
variable [Gh : Ghost]
/-! ### try with several clauses, each «except C as e» -/
/-- a clause's wish: its class, its name's slot, its suite's reading -/
structure Clause where
  c : Value
  i : Nat
  ts : Addr → Value → Option Addr → TS
def Ends.less (D : Ends) (i : Nat) : Ends := { nx := fun σ H => D.nx (σ.set i none) H, rt := D.rt, bk := fun σ H => D.bk (σ.set i none) H, ct := fun σ H => D.ct (σ.set i none) H }
section
variable {X : Cx} {body : List Stmt} {h0 : ExceptHandler} {hds : List ExceptHandler} {l : List Clause} {pos : Pos} {tb : WX → TS} {Wo : WX}
end
end Q

namespace Q
open PySem PySem.Spec PyProof.Rows L2
variable [Gh : Ghost]
/-! ### raise C(..), within the mirror -/
def mRaise (C : Addr) (fs : List Str) (m : MA) : MS := fun en S => (m en S).stm en fun ds S1 => if ds.length = fs.length ∧ ds.length ≤ 1000 then .err C (some S1.length) en (S1 ++ [.xd (fs.zip ds).reverse]) else .bad
theorem FR_append {K : PySem.W.Frag} {r : List Addr} {H : Hp} : ∀ {ds es : List (Str × D)} {vs ws : List (Str × V)}, FR K r H ds vs → FR K r H es ws → FR K r H (ds ++ es) (vs ++ ws)
  | [], _, _, _, h, k => by subst h; exact k
  | _ :: _, _, _, _, ⟨v, us, h1, h2, h3⟩, k => by subst h1; exact ⟨v, us ++ _, rfl, h2, FR_append h3 k⟩
theorem FR_reverse {K : PySem.W.Frag} {r : List Addr} {H : Hp} : ∀ {ds : List (Str × D)} {vs : List (Str × V)}, FR K r H ds vs → FR K r H ds.reverse vs.reverse
  | [], _, h => by subst h; rfl
  | p :: ds, _, ⟨v, us, h1, h2, h3⟩ => by
    subst h1
    rw [List.reverse_cons, List.reverse_cons]
    exact FR_append (FR_reverse h3) ⟨v, [], rfl, h2, rfl⟩
theorem FR_zip {K : PySem.W.Frag} {r : List Addr} {H : Hp} : ∀ (fs : List Str) {ds : List D} {vs : List V}, VRs K r H ds vs → FR K r H (fs.zip ds) (fs.zip vs)
  | [], _, _, _ => by simp [FR]
  | f :: fs, [], _, h => by subst h; simp [FR]
  | f :: fs, d :: ds, _, ⟨v, us, h1, h2, h3⟩ => by subst h1; exact ⟨v, _, rfl, h2, FR_zip fs h3⟩
section
variable {X : Cx} {B newId initId : String} {bb : List Value} {C : Addr} {e : Expr} {es : List Expr} {x : Str} {fI : Addr} {k : Nat} {fd : FuncData} {ps fs : List Str} {p pos pos' : Pos} {m : MA}
theorem s_raise (T : EcOk X.K B newId initId bb C) (iC : PySem.W.findIn X.K (.ref C) "__init__" = some (some (.ref fI))) (tI : PySem.W.typeIn X.K (.ref fI) = some (.type "function"))
    (F1 : FnOk X.prog X.w X.K X.mg X.base (fun _ _ _ _ _ _ => False) k fI fd ps (spI C fs)) (g : Gd X (k + 1)) (hb : Binds X.K fd ps []) (hg : Gl X x) (hm : X.mg x = some (.ref C)) (ha : SndA X (e :: es) m) (h0 : fs ≠ [])
    (hdb : (x == ("__debug__" : Str)) = false := by decide) (he : starEach (e :: es) X.env = (false, eval e X.env) :: starEach es X.env := by rfl) (hpl : (backTo pos (starEach es X.env)).any (·.1) = false := by rfl) :
    SndS X (.Raise (some (.Call (.Name x p) (e :: es) [] pos)) none pos') (mRaise C fs m) := by
  refine ⟨?_⟩
  intro W tk en σ r H S D er ro dn
  refine wS_of (ps_raise g.calm tk (pmk_ec T iC tI F1 g.room hb hg hm (pa_wA X (e :: es)) h0 hdb he hpl)) ?_
  refine ha.run W tk en σ r H S _ er ro (Dn.imp (DnS.stm (R := VRs X.K) er dn) fun vs H1 ⟨ds, S1, r1, e1, s1, o1, k1, er1, d1⟩ => ?_)
  by_cases hc : ds.length = fs.length ∧ ds.length ≤ 1000
  · rw [if_pos hc] at d1
    have hl := k1.length
    refine ⟨by rw [← hl]; exact hc.1, by rw [← hl]; exact hc.2, fun z => absurd z h0, fun _ q hq => ?_⟩
    have fr : FR X.K r1 H1 (fs.zip ds).reverse (fs.zip vs).reverse := FR_reverse (FR_zip fs k1)
    have st : Stp r1 H1 (r1 ++ [q]) (upd H1 q (.xd (fs.zip vs).reverse)) := Stp.new hq
    have o2 : ROk X.K (r1 ++ [q]) (upd H1 q (.xd (fs.zip vs).reverse)) (S1 ++ [.xd (fs.zip ds).reverse]) := o1.new hq ⟨_, upd_same, fr.mono st⟩
    exact d1 _ _ σ _ st o2 (er1.mono st) ⟨q, by rw [← o1.len, List.getElem?_append_right (Nat.le_refl _), Nat.sub_self]; rfl, rfl⟩
  · rw [if_neg hc] at d1
    exact d1.elim
end
/-! ### try, within the mirror -/
/-- a clause: its class, its name's slot, its suite (of the error's address and its dict's, and the dict's number) -/
structure Hd where
  C : Addr
  i : Nat
  ms : Addr → Addr → Option Nat → MS
def excV (a d : Addr) : Option Nat → D
  | some n => .exc a d n
  | none => .adr a
theorem ER.noneAt {K : PySem.W.Frag} {r : List Addr} {H : Hp} {e : En} {σ : L2.St} (er : ER K r H e σ) (i : Nat) : ER K r H (e.set i none) (σ.set i none) := by
  refine ⟨by rw [List.length_set, List.length_set]; exact er.len, fun j d q => ?_⟩
  by_cases h : j = i
  · subst h
    by_cases hl : j < e.length
    · rw [List.getElem?_set_self hl] at q; cases q
    · rw [List.getElem?_eq_none (by rw [List.length_set]; omega)] at q; cases q
  · rw [List.getElem?_set_ne (Ne.symm h)] at q ⊢
    exact er.at_ j d q
theorem noTakes {X : Cx} : Takes X (fun _ _ _ _ => False) := fun _ _ ⟨_, _, _, _, _, _, _, _, _, _, _, _, _, _, _, _, z⟩ => z.elim
section
variable {X : Cx} {body : List Stmt} {h0 : ExceptHandler} {hds : List ExceptHandler} {l : List Hd} {cs : List Addr} {pos : Pos} {mb : MS}
end
end Q

/-! ### the class of a caught error -/
namespace Q
open PySem PySem.Spec PySem.Calls PyProof.Rows PySem.W L2
variable [Gh : Ghost]
section
variable {prog : Program} {w : World} {A : Around} {E : Value → Shared → Prop} {s : Shared} {K : Frag} {B newId initId : String} {bb : List Value} {C e0 : Addr} {ob : Obj} {od : Option Obj}
theorem bound_attr {nm : Str} {a g : Value} (hc : (clsIn K C).isSome = true) (ha : findIn K (.ref C) nm = some (some a)) (hg : specialIn K a "__get__" = some (some g)) (ht : takesIn K a = some true) : findObj K C od nm = some (.bind g a) := by
  obtain ⟨cd, hc⟩ := Option.isSome_iff_exists.mp hc
  unfold findObj
  rw [hc]
  simp [ha, hg, ht]
theorem err_class {Q : Option Value → Shared → Prop} (T : EcOk K B newId initId bb C) (KI : K.In s.heap) (J : PySem.W.InstAt s.heap e0 ob C od) (h : Q (some (.ref C)) { s with toks := s.toks + 1 }) : wpAny (model prog w) A (getAttr? (.ref e0) "__class__") Q E s := by
  have fo : findObj K C od "__class__" = some (.bind (.builtin "getset_descriptor.__get__") (.builtin "object.__class__")) := bound_attr (by obtain ⟨cd, hc, _⟩ := T.cd; rw [hc]; rfl) T.ca T.cn T.ct
  obtain ⟨hp, g, d, t, os⟩ := s
  have lT := J.type (M := model prog w)
  have lG := looks_findIn (M := model prog w) KI T.ga
  have lA := looks_findIn (M := model prog w) KI T.gg
  have lF := looks_find (M := model prog w) KI J fo
  have isE : Looks (model prog w) hp (isInstance (.ref e0) (.type "BaseException")) true := lT.andThen (looks_subIn KI T.exC)
  have apart : (Value.builtin "BaseException.__getattribute__" == Value.builtin "object.__getattribute__") = false := by decide +kernel
  unfold getAttr? getAttrBy? getAttrBy
  refine wpAny_bind (wpAny_mkText (wpAny_bind (wpAny_attempt (wpAny_holding (wpAny_bind (lT.at (wpAny_bind (lG.at ?_))))))))
  show wpAny _ _ (if (onTheHeap (Value.ref C) && Value.builtin "BaseException.__getattribute__" == Value.builtin "object.__getattribute__") = true then _ else _) _ _ _
  rw [apart, Bool.and_false, if_neg Bool.false_ne_true]
  unfold getAttrByItsOwn hookBefore
  refine wpAny_bind ?_
  rw [if_pos (show onTheHeap (Value.ref C) = true from rfl)]
  refine lA.at ?_
  refine wpAny_bind (wpAny_attempt (wpAny_holding ?_))
  unfold callGetattribute
  rw [show (false && onTheHeap (Value.builtin "BaseException.__getattribute__")) = false from rfl, if_neg Bool.false_ne_true]
  unfold boundAndCalled
  rw [PySem.F.excAttr_ValueError.ga.bind (.ref e0)]
  refine wpAny_bind (wpAny_pure ?_)
  show wpAny _ _ (call (.builtin "BaseException.__getattribute__") [.ref e0, .str "__class__" t]) _ _ _
  refine wpAny_call (codeAny_call_builtin PySem.F.excAttr_ValueError.ga.plain PySem.F.entry_bexc_ga ?_)
  refine @check_slot (model prog w) _ _ ⟨hp, g, d, t + 1, os⟩ "BaseException.__getattribute__" "BaseException" "__getattribute__" (.ref e0) [.str "__class__" t] [] _ (by decide +kernel) (by decide +kernel) isE (PySem.F.args_bexc_ga (.ref e0) (.str "__class__" t)) ?_
  unfold Builtin.«object.__getattribute__»
  refine wpAny_bind (wpAny_of_eq (a := ((Value.ref e0 : Value), [Value.str "__class__" t])) (by first | rfl | (simp only [slotArgs]; rfl)) ?_)
  refine wpAny_bind (wpAny_pure (wpAny_bind (lT.at (wpAny_bind (lF.at ?_)))))
  show wpAny _ _ (holding [Value.builtin "object.__class__"] (call (.builtin "getset_descriptor.__get__") [.builtin "object.__class__", .ref e0, .ref C]) >>= ret) _ _ _
  have mo : mroIn K C (.type "object") = some true := by rw [T.mro, List.contains_cons, T.eb.ob, Bool.or_true]
  refine wpAny_bind (wpAny_holding (wpAny_call (class_get (s := ⟨hp, g, d, t + 1, os⟩) (ox := ob) (od := od) KI J mo ?_)))
  refine wpAny_pure ?_
  show wpAny _ _ (handedOut (.ref C)) _ _ _
  rw [handedOut_of (v := .ref C) rfl]
  first
    | exact wpAny_pure (wpAny_pure h)
    | exact wpAny_pure h
    | exact wpAny_pure (wpAny_bind (wpAny_pure (wpAny_pure h)))
theorem err_kit (T : EcOk K B newId initId bb C) : KitX K (.ref e0) (.ref C) (fun h => ∃ od, PySem.W.InstAt h e0 ob C od) where
  ty := fun _ _ _ ⟨_, J⟩ => J.type
  it := fun _ _ KI _ => by
    obtain ⟨nm, q, N, bs, sn, sub, ab, col, dd, k0, k1, k2, k3, k5, ho⟩ := T.cls
    intro A' Q' E' s' k z
    unfold isType loadHead
    exact wpAny_bind (wpAny_loadPart (k _ _ (KI _ _ ho)) (wpAny_pure z))
  ne := fun h tp dd its n sl KI htp => by
    obtain ⟨nm, q, N, bs, sn, sub, ab, col, dd', k0, k1, k2, k3, k5, ho⟩ := T.cls
    refine Bool.eq_false_iff.mpr fun z => ?_
    have e : C = tp := Value.ref.inj (beq_iff_eq.mp z)
    subst e
    have z2 := (KI _ _ ho).symm.trans htp
    have z3 : Value.type "type" = Value.type "tuple" := congrArg (fun o : Obj => o.cls) (Option.some.inj z2)
    injection z3 with z4
    exact absurd z4 (by decide)
  ca := fun KI ⟨_, J⟩ k => err_class T KI J k
end
theorem obj_there {P : Program} {w : World} {H : Hp} {h : Heap} {a : Addr} {o : HO} (x : ObjOk P w H h a o) : ∃ y, h.get? a = some y := by
  cases o with
  | lst xs => obtain ⟨_, its, n, _, e⟩ := x; exact ⟨_, e⟩
  | tup xs => obtain ⟨_, its, _, o, e, _⟩ := x; exact ⟨_, e⟩
  | dK kvs => obtain ⟨_, _, _, _, y, _, _, e, _⟩ := x; exact ⟨y, e⟩
  | dT kvs => obtain ⟨_, _, _, _, y, _, _, e, _⟩ := x; exact ⟨y, e⟩
  | set S n => obtain ⟨y, _, _, _, e, _⟩ := x; exact ⟨y, e⟩
  | ins C dx fs => obtain ⟨_, _, _, e, _⟩ := x; exact ⟨_, e⟩
  | own y => exact x
  | xd fs => obtain ⟨_, ⟨y, _, _, e, _⟩, _⟩ := x; exact ⟨y, e⟩
  | rng lo hi => obtain ⟨_, _, _, e⟩ := x; exact ⟨_, e⟩
  | frz ob u => exact ⟨ob, x.1⟩
  | tbl ps => exact ⟨_, x⟩
  | met f y => exact ⟨_, x⟩
  | ext φ => exact x.2.1
/-! ### e.f and isinstance(e, T) in a suite -/
def mXf (a d : Addr) (n : Option Nat) (f : Str) (m : ME) : ME := fun en S => (m en S).bind fun v S1 => match v, n with
  | .exc a' d' k, some _ => if a' = a ∧ d' = d then (match S1[k]? with
    | some (.xd fs) => (match fs.lookup f with
      | some z => .ok z S1
      | none => .bad)
    | _ => .bad) else .bad
  | _, _ => .bad
def isX (a d : Addr) (n : Option Nat) (S : Store) (v : D) : Bool := match v, n with
  | .exc a' d' k, some _ => decide (a' = a) && decide (d' = d) && (S[k]?).isSome
  | .adr a', none => decide (a' = a)
  | _, _ => false
def mIsX (a d : Addr) (n : Option Nat) (b : Bool) (m : ME) : ME := fun en S => (m en S).bind fun v S1 => if isX a d n S1 v = true then .ok (.bl b) S1 else .bad
theorem FR_lookup {K : PySem.W.Frag} {r : List Addr} {H : Hp} {f : Str} : ∀ {fs : List (Str × D)} {vs : List (Str × V)} {z : D}, FR K r H fs vs → fs.lookup f = some z → ∃ v, vs.lookup f = some v ∧ VR K r H z v
  | [], _, _, _, e => by cases e
  | (g, d) :: fs, _, z, ⟨v, ws, h1, h2, h3⟩, e => by
    subst h1
    rw [List.lookup_cons] at e ⊢
    by_cases hg : (f == g) = true
    · rw [hg] at e ⊢
      cases e
      exact ⟨v, rfl, h2⟩
    · have hg : (f == g) = false := by cases z : (f == g) <;> first | rfl | exact absurd z hg
      rw [hg] at e ⊢
      exact FR_lookup h3 e
section
variable {Y : Cx} {a d C : Addr} {n : Option Nat} {oe : Obj} {od : Option Addr} {pn : List (Addr × Obj)} {e t : Expr} {m : ME} {B newId initId : String} {bb : List Value} {f x : Str} {p pos : Pos}
/-- isinstance's rule -/
def rIsX (K : PySem.W.Frag) (C a : Addr) (od : Option Addr) : List V → Hp → VK → Prop := fun xs H Q => ∃ (c : V) (cv : Value) (b : Bool), xs = [.ref a, c] ∧ (∀ u, RelV c u → u = cv) ∧ PySem.W.kitOne K (.ref C) cv = some b ∧ (∀ z, od = some z → H z ≠ none) ∧ Q (.bl b) H
end
end Q

namespace Q
open PySem PySem.Spec PyProof.Rows L2
variable [Gh : Ghost]
/-! ### an error's class in the text -/
def clsDef (s : Stmt) (j : Nat) : Stmt := match s with
  | .ClassDef _ _ _ body _ _ _ _ _ _ _ => body.getD j (.Pass ⟨0, 0, 0, 0⟩)
  | _ => .Pass ⟨0, 0, 0, 0⟩
section
variable {K : PySem.W.Frag} {B newId initId : String} {bb : List Value} {C : Addr} {f1 f2 f3 x0 x1 x2 x3 : Str} {vs : List V} {H : Hp} {Q : VK} {E : XK} {z : V}
/-- the end of such an __init__ -/
theorem rd0 (T : EcOk K B newId initId bb C) (h : spI C [] vs H Q E) :
    tDrop (tBI K B newId initId bb (tCons (tVar 0) (tCons (tC z) tNil))) { nx := fun _ H' => Q .non H', rt := Q } (L2.start [x0] vs) H := by
  obtain ⟨a, ws, rfl, hl, ha, go, _⟩ := h
  obtain rfl : ws = [] := List.eq_nil_of_length_eq_zero hl
  exact ⟨.ref a, rfl, a, C, [z], rfl, by simp, T, ha, go rfl⟩
theorem rd1 (T : EcOk K B newId initId bb C) (n1 : PySem.W.findIn K (.ref C) f1 = some none) (h : spI C [f1] vs H Q E) :
    tSeq (tDrop (tBI K B newId initId bb (tCons (tVar 0) (tCons (tC z) tNil)))) (tFl K B newId initId bb f1 (tVar 0) (tVar 1)) { nx := fun _ H' => Q .non H', rt := Q } (L2.start [x0, x1] vs) H := by
  obtain ⟨a, ws, rfl, hl, ha, _, go⟩ := h
  match ws, hl with
  | [y], _ =>
    refine ⟨.ref a, rfl, a, C, [z], rfl, by simp, T, ha, y, rfl, .ref a, rfl, a, C, rfl, T, n1, .inl ⟨ha, fun dx far hd => ?_⟩⟩
    refine go (by simp) dx _ hd far upd_same ?_ fun b h1 h2 => ?_
    · rw [upd_ne far, upd_same]; rfl
    · rw [upd_ne h1, upd_ne h2]
theorem rd3 (T : EcOk K B newId initId bb C) (n1 : PySem.W.findIn K (.ref C) f1 = some none) (n2 : PySem.W.findIn K (.ref C) f2 = some none) (n3 : PySem.W.findIn K (.ref C) f3 = some none) (h : spI C [f1, f2, f3] vs H Q E) :
    tSeq (tDrop (tBI K B newId initId bb (tCons (tVar 0) (tCons (tC z) tNil)))) (tSeq (tFl K B newId initId bb f1 (tVar 0) (tVar 1)) (tSeq (tFl K B newId initId bb f2 (tVar 0) (tVar 2)) (tFl K B newId initId bb f3 (tVar 0) (tVar 3)))) { nx := fun _ H' => Q .non H', rt := Q } (L2.start [x0, x1, x2, x3] vs) H := by
  obtain ⟨a, ws, rfl, hl, ha, _, go⟩ := h
  match ws, hl with
  | [y1, y2, y3], _ =>
    refine ⟨.ref a, rfl, a, C, [z], rfl, by simp, T, ha, y1, rfl, .ref a, rfl, a, C, rfl, T, n1, .inl ⟨ha, fun dx far hd => ?_⟩⟩
    have e1 : upd (upd H dx (exd dx [(f1, y1)])) a (exo a C (some dx)) dx = some (exd dx [(f1, y1)]) := by rw [upd_ne far, upd_same]
    have far' : a ≠ dx := Ne.symm far
    refine ⟨y2, rfl, .ref a, rfl, a, C, rfl, T, n2, .inr ⟨dx, _, by simp, upd_same, e1, ?_⟩⟩
    refine ⟨y3, rfl, .ref a, rfl, a, C, rfl, T, n3, .inr ⟨dx, _, by simp, by rw [upd_ne far']; exact upd_same, upd_same, ?_⟩⟩
    refine go (by simp) dx _ hd far (by rw [upd_ne far', upd_ne far']; exact upd_same) (by rw [upd_same]; rfl) fun b h1 h2 => ?_
    rw [upd_ne h2, upd_ne h2, upd_ne h1, upd_ne h2]
theorem spI_len {n : Nat} {fs : List Str} (hn : n = fs.length + 1) (h : spI C fs vs H Q E) : vs.length = n := by
  obtain ⟨a, ws, rfl, hl, _⟩ := h
  rw [List.length_cons, hl, hn]
end
end Q

namespace Q
open PySem PySem.Spec PyProof.Rows L2
variable [Gh : Ghost]
/-! ### in a suite -/
structure GdW (X : Cx) : Prop where
  un : X.A.units + 200 < cLine
  gd : X.A.guards = some []
theorem GdW.eq {X : Cx} (g : GdW X) : X.A.units + 64 < cLine := by have := g.un; omega
theorem Gd.suite {X : Cx} {k : Nat} {a : Addr} {pn : List (Addr × Obj)} (g : Gd X k) : GdW (X.suite a pn) := ⟨by have := g.room.un; show X.A.units + 200 < cLine; omega, g.gd⟩
theorem Gd.tr {X : Cx} {k : Nat} {pn : List (Addr × Obj)} {xe : Value → Shared → Prop} (g : Gd X k) : Gd (X.tr pn xe) k := ⟨g.calm, g.room, g.gd⟩
section
variable {X : Cx}
end
/-! ### all the classes of a text -/
/-- two classes of unlike names -/
theorem cls_ne {K : PySem.W.Frag} {C C' : Addr} {nm nm' q q' : Str} {N N' : Addr} {bs bs' bm bm' : List Value} {hdct hdct' : Bool} {sn sn' : List Str} {sub sub' : List Value} {ab ab' : Bool} {col col' : Option Bool} {dd dd' : Option Addr} {k0 k1 k2 k3 k5 k0' k1' k2' k3' k5' : Option Value} {n n' : String}
    (h : K.lookup C = some (excClassObj nm q C N bs bm hdct sn sub ab col dd k0 k1 k2 k3 k5 n)) (h' : K.lookup C' = some (excClassObj nm' q' C' N' bs' bm' hdct' sn' sub' ab' col' dd' k0' k1' k2' k3' k5' n')) (ne : nm ≠ nm') : C ≠ C' := by
  intro e
  subst e
  rw [h] at h'
  have z := Option.some.inj h'
  have z2 : Data.cls _ = Data.cls _ := congrArg (fun o : Obj => o.data) z
  injection z2 with z3
  have z4 : nm = nm' := congrArg (fun c : ClassData => c.name) z3
  exact ne z4
section
open PySem.W
variable {K : PySem.W.Frag} {B newId initId : String} {bb : List Value} {C : Addr}
theorem EcOk.kitT (T : EcOk K B newId initId bb C) {t : String} {b : Bool} (hm : kitMeta t = true) (hb : bb.contains (.type t) = b) : kitOne K (.ref C) (.type t) = some b := by
  unfold kitOne
  rw [if_neg (by simp)]
  show (if kitMeta t = true then subIn K (.ref C) (.type t) else none) = _
  rw [if_pos hm]
  show PySem.W.mroIn K C (.type t) = _
  rw [T.mro, List.contains_cons, hb]
  simp
theorem EcOk.kitC {B' newId' initId' : String} {bb' : List Value} {C' : Addr} (T : EcOk K B newId initId bb C) (T' : EcOk K B' newId' initId' bb' C') (ne : C ≠ C') : kitOne K (.ref C) (.ref C') = some false := by
  unfold kitOne
  rw [if_neg (by simpa using ne)]
  obtain ⟨cd, h1, _, _⟩ := T'.cd
  show (if ((clsIn K C').isSome && typeIn K (.ref C') == some (.type "type")) = true then subIn K (.ref C) (.ref C') else none) = _
  rw [h1, T'.tyC, if_pos (by simp), T.sub T', decide_eq_false ne]
end
end Q

namespace Q
open PySem PySem.Spec PyProof.Rows L2
variable [Gh : Ghost]
/-! ### def f(a, .., *v) -/
structure FnS (P : Program) (w : World) (K : PySem.W.Frag) (mg : Str → Option Value) (base : Heap) (k : Nat) (f : Addr) (n : Nat) (M : MF) : Prop where
  run : ∀ (A : Around) (outer : List Env) (s : Shared) (H : Hp) (us : List Value) (vs : List V) (r : List Addr) (ds : List D) (S : Store) (Q : VK) (E : XK),
    Room k A → A.guards = some [] → Env0 P w K mg base A outer s H → Vals vs us → n ≤ ds.length → ds.length ≤ sizeLine → VRs K r H ds vs → ROk K r H S → Dn K r H (VR K) (M ds S) Q E →
    codeAny (model P w) A (.call (.ref f) ⟨us, []⟩) (CR (CX P w) outer P w H s Q E) s
theorem FnS.mono {P : Program} {w : World} {K : PySem.W.Frag} {mg : Str → Option Value} {base : Heap} {j k n : Nat} {f : Addr} {M : MF} (F : FnS P w K mg base j f n M) (h : j ≤ k) : FnS P w K mg base k f n M :=
  ⟨fun A outer s H us vs r ds S Q E hr => F.run A outer s H us vs r ds S Q E (hr.mono h)⟩
section
variable {P : Program} {w : World} {K : PySem.W.Frag} {mg : Str → Option Value} {base : Heap}
end
section
variable {X : Cx} {k n : Nat} {f : Addr} {M : MF} {x : Str} {p pos : Pos} {e : Expr} {es : List Expr} {m : MA}
end
end Q

namespace Q
open PySem PySem.Spec PyProof.Rows L2
/-! ### errors, and defs with a star, in what is wished -/
section
variable {α : Type} {en : En} {S : Store} {E : EK} {P : D → Store → Prop} {N : En → Store → Prop} {R : D → Store → Prop} {B C : En → Store → Prop} {X : XKs}
theorem wpS_raise {c : Addr} {fs : List Str} {m : MA} (h : wpE (m en S) (fun ds T => (ds.length = fs.length ∧ ds.length ≤ 1000) ∧ ∀ q U, Kp T U → T.length ≤ q → U[q]? = some (.xd (fs.zip ds).reverse) → X c (some q) en U) (fun c n T => X c n en T)) : wpS (mRaise c fs m en S) N R B C X :=
  wpS_stm (wpE_mono h (fun ds T q => by
    rw [if_pos q.1]
    exact q.2 _ _ Kp.app (Nat.le_refl _) at_mid) fun _ _ _ q => q)
end
/-! ### a suite's result, term by term -/
section
variable {en : En} {S T U : Store} {d z : D} {ds : List D} {a x : Addr} {n i : Nat} {fs : List (Str × D)} {f r : Str} {m y : ME} {q : MA}
theorem mXf_at (h : S[n]? = some (.xd fs)) (hz : fs.lookup f = some z) (he : en[i]? = some (some (.exc a x n))) : mXf a x (some n) f (mVar i) en S = .ok z S := by
  unfold mXf
  rw [mVar_at he, bind_ok]
  dsimp only
  rw [if_pos ⟨rfl, rfl⟩, h]
  dsimp only
  rw [hz]
theorem mIsX_at {b : Bool} (h : S[n]? = some (.xd fs)) (he : en[i]? = some (some (.exc a x n))) : mIsX a x (some n) b (mVar i) en S = .ok (.bl b) S := by
  unfold mIsX
  rw [mVar_at he, bind_ok, if_pos (by unfold isX; simp [h])]
end
end Q

namespace Q
open PySem PySem.W PySem.SeqAt PyProof.Rows
/-! ### sorting of tuples of which some are empty -/
section
variable {prog : Program} {s : Shared} {A : Around} {w : World}
/-- a tuple's object, written out -/
theorem tup_obj {h : Heap} {o : Obj} {a : Addr} {vs : Array Value} {n : Nat} (g : h.get? a = some o) (c : o.cls = .type "tuple") (d : o.data = .seq vs n) : h.get? a = some { cls := .type "tuple", dict := o.dict, data := .seq vs n, slots := o.slots } := by
  rw [g, ← c, ← d]
/-- two tuples of alike data held against each other by the type's own `<` -/
theorem tup_below {xs ys : List PyData} {p q : Value} {as bs : List Addr} {E : Value → Shared → Prop} {Q : Value → Shared → Prop} (rp : Reads s.heap p (.tuple xs) as) (rq : Reads s.heap q (.tuple ys) bs) (al : alikeAll xs ys = true)
    (rm : A.in1.units + min (PyData.depthAll xs) (PyData.depthAll ys) < cLine) (h : Q (.bool (dataLt (.tuple xs) (.tuple ys))) s) : wpAny (model prog w) A (call (.builtin "tuple.__lt__") [p, q]) Q E s := by
  cases rp with
  | tuple p1 p2 p3 p4 =>
    cases rq with
    | tuple q1 q2 q3 q4 =>
      rename_i l o vs n l' o' vs' n'
      have same := eqAt_alikeAll xs ys A.in1 s _ _ _ _ p4 q4 al rm
      have less := rcLt_alikeAll xs ys A.in1 s _ _ _ _ p4 q4 al rm
      have lens : xs.length = vs.size ∧ ys.length = vs'.size := ⟨by rw [← ReadsAll.length _ _ _ p4, Array.length_toList], by rw [← ReadsAll.length _ _ _ q4, Array.length_toList]⟩
      rw [dataLt_tuple, ← firstLt_toks xs ys al, lens.1, lens.2] at h
      refine call_meets F.slot_tuple_lt ⟨o, p1, p2⟩ F.entry_tuple_lt (F.args_tuple_lt_2 _ _) (tuple_ltAt l l' vs vs' n n' o.dict o'.dict o.slots o'.slots (pairEq xs ys) (fun j => dataLt (xs.getD j .none) (ys.getD j .none))) ⟨tup_obj p1 p2 p3, tup_obj q1 q2 q3, ?_, ?_, h⟩
      · exact fun j a b => same j a b
      · exact fun j a b ne => less j a b ne
theorem tup_ref {v : Value} {xs : List PyData} {as : List Addr} (r : Reads s.heap v (.tuple xs) as) : s.TypeIs v "tuple" := by
  cases r with
  | tuple g c _ _ => exact ⟨_, g, c⟩
/-- a key that is a tuple, empty or not, against another -/
theorem oneLt_tup {xs : List PyData} {db : PyData} {a b : Value} {as bs : List Addr} {E : Value → Shared → Prop} {Q : Bool → Shared → Prop} (ra : Reads s.heap a (.tuple xs) as) (rb : Reads s.heap b db bs) (h : alike (.tuple xs) db = true)
    (hu : A.units + min (PyData.tuple xs).depth db.depth < cLine) (hq : Q (dataLt (.tuple xs) db) s) : wpAny (model prog w) A (oneLt' true a b) Q E s := by
  obtain ⟨ys, rfl⟩ : ∃ ys, db = .tuple ys := by
    cases db <;> first | exact ⟨_, rfl⟩ | (simp [alike] at h)
  have al : alikeAll xs ys = true := by rw [alike] at h; exact h
  have below := tup_below (prog := prog) (w := w) (A := A) (E := E) (Q := fun v s' => v = .bool (dataLt (.tuple xs) (.tuple ys)) ∧ s' = s) ra rb al (room_in hu) ⟨rfl, rfl⟩
  rw [oneLt'_eq]
  rw [if_pos rfl]
  refine wpAny_bind (wpAny_cRoomFor (room_here hu) (wpAny_bind (wpAny_callSpecialIfBound?_slot (tup_ref ra) F.slot_tuple_lt (wpAny_mono below (fun v s' z => ?_) fun _ _ z => z))))
  rw [z.1, z.2]
  exact wpAny_truthy_bool hq
theorem keyLt_general (x y : Value) : keyLt' general' x y = oneLt' false x y := rfl
/-- all are tuples -/
def AllTup (ds : List PyData) : Prop := ∀ d, d ∈ ds → ∃ xs, d = .tuple xs
def neT : PyData → Bool
  | .tuple (_ :: _) => true
  | _ => false
theorem first_tup {M : Model} {E : Value → Shared → Prop} {v : Value} {xs : List PyData} {as : List Addr} {Q : Option Value → Shared → Prop} (r : Reads s.heap v (.tuple xs) as) (hq : ∀ o : Option Value, o.isSome = neT (.tuple xs) → Q o s) : wpAny M A (firstOfTuple' v) Q E s := by
  cases r with
  | @tuple l o vs n _ as₁ h1 h2 h3 h4 =>
    rw [kas_first_eq]
    refine wpAny_bind (Looks.here (show Looks M s.heap (typeOf (.ref l)) o.cls from (Looks.ld h1).andThen .now) ?_)
    rw [h2, if_neg (by first | decide | simp)]
    refine wpAny_bind (listItems_at h1 h3 (wpAny_pure ?_))
    refine hq _ ?_
    have n1 : vs.size = xs.length := by simpa using ReadsAll.length _ _ _ h4
    cases xs with
    | nil =>
      have : vs[0]? = none := by rw [Array.getElem?_eq_none_iff]; simp at n1; simp [n1]
      rw [this]; rfl
    | cons x xs =>
      have h0 : 0 < vs.size := by rw [n1]; simp
      rw [Array.getElem?_eq_getElem h0]; rfl
theorem firsts_tup {M : Model} {E : Value → Shared → Prop} : ∀ {vs : List Value} {ds : List PyData} {Q : List (Option Value) → Shared → Prop}, EachIs (fun v d => ∃ as, Reads s.heap v d as) vs ds → AllTup ds →
    (∀ os : List (Option Value), os.map (fun o => o.isSome) = ds.map neT → Q os s) → wpAny M A (vs.mapM firstOfTuple') Q E s
  | _, _, _, .nil, _, h => by rw [List.mapM_nil]; exact wpAny_pure (h [] rfl)
  | _, _, _, .cons (b := d) ⟨as, r⟩ t, ht, h => by
    obtain ⟨xs, rfl⟩ := ht d (List.mem_cons_self ..)
    rw [List.mapM_cons]
    refine wpAny_bind (first_tup r fun o ho => ?_)
    refine wpAny_bind (firsts_tup t (fun d hd => ht d (List.mem_cons_of_mem _ hd)) fun os hos => wpAny_pure ?_)
    exact h (o :: os) (by rw [List.map_cons, List.map_cons, hos, ho])
theorem isSome_bind_id (os : List (Option Value)) : (os.toArray[0]?.bind id).isSome = (os.map fun o => o.isSome).headD false := by
  cases os with
  | nil => rfl
  | cons o os => simp
theorem kind_tups {M : Model} {E : Value → Shared → Prop} {vs : List Value} {ds : List PyData} {Q : SortKind → Shared → Prop} (e : EachIs (fun v d => ∃ as, Reads s.heap v d as) vs ds) (ht : AllTup ds) (hn : (ds.map neT).all id = false) (h2 : 2 ≤ vs.length)
    (h : Q (if (ds.map neT).headD false = true then general' else oneType') s) : wpAny M A (keyKind' vs.toArray) Q E s := by
  rw [kat_kind_eq, List.mapM_toArray, map_eq_pure_bind]
  refine wpAny_bind (wpAny_bind (firsts_tup e ht fun os hos => wpAny_pure ?_))
  have hall : (os.toArray.all fun x => x.isSome) = false := by
    rw [List.all_toArray]
    have : os.all (fun x => x.isSome) = (os.map fun o => o.isSome).all id := by rw [List.all_map]; rfl
    rw [this, hos]; exact hn
  rw [hall, isSome_bind_id, hos]
  simp only [Bool.false_eq_true, if_false]
  by_cases hb : (ds.map neT).headD false = true
  · rw [if_pos hb] at h ⊢
    exact wpAny_pure h
  · rw [if_neg hb] at h ⊢
    rw [oneTypeOnly'_eq, List.mapM_toArray, map_eq_pure_bind]
    refine wpAny_bind (wpAny_bind (wpAny_bind (kas_mapM (r := Value.type "tuple") _ (fun v hv Q' hq => ?_) (wpAny_pure ?_))))
    · obtain ⟨d, hd, as, r⟩ := e.left v hv
      obtain ⟨xs, rfl⟩ := ht d hd
      exact (looks_reads r).here hq
    · obtain ⟨v₁, rest, rfl⟩ : ∃ v₁ rest, vs = v₁ :: rest := by
        match vs, h2 with
        | v₁ :: rest, _ => exact ⟨v₁, rest, rfl⟩
      have hall : ((List.map (fun _ => Value.type "tuple") (v₁ :: rest)).toArray.all fun x => x == Value.type "tuple") = true := by
        rw [List.all_toArray]
        exact List.all_eq_true.mpr fun x hx => by
          obtain ⟨_, _, rfl⟩ := List.mem_map.mp hx
          rfl
      have h0 : (List.map (fun _ => Value.type "tuple") (v₁ :: rest)).toArray[0]? = some (Value.type "tuple") := by simp
      rw [h0]
      simp only [hall, if_true]
      exact wpAny_pure (wpAny_pure h)
/-- tuples, also empty ones, can be sorted -/
theorem sortsAt_tups {vs : List Value} {ds : List PyData} (e : EachIs (fun v d => ∃ as, Reads s.heap v d as) vs ds) (hal : AllAlike ds) (ht : AllTup ds) (hu : ∀ d, d ∈ ds → A.units + d.depth < cLine) : SortsAt prog w A s (dataKind s.heap ds) vs := by
  cases hn : (ds.map neT).all id with
  | true =>
    refine SortsAt.data e hal (.inl fun d hd => ?_) hu
    have hz := List.all_eq_true.mp hn (neT d) (List.mem_map.mpr ⟨d, hd, rfl⟩)
    obtain ⟨xs, rfl⟩ := ht d hd
    cases xs with
    | nil => cases hz
    | cons x r => exact ⟨x, r, rfl⟩
  | false =>
    have room : ∀ {d d' : PyData}, d ∈ ds → A.units + min d.depth d'.depth < cLine := fun {d d'} hd => by
      have := hu d hd
      omega
    refine ⟨fun v hv => ?_, if (ds.map neT).headD false = true then general' else oneType', ?_, fun h2 E Q hq => kind_tups e ht hn h2 hq⟩
    · obtain ⟨d, hd, as, r⟩ := e.left v hv
      exact ⟨_, dataKind_some hal hd r⟩
    · intro E x y a b Q ha hb hq
      obtain ⟨d, as, hd, ra, rfl⟩ := dataKind_inv ha
      obtain ⟨d', as', hd', rb, rfl⟩ := dataKind_inv hb
      obtain ⟨xs, rfl⟩ := ht d hd
      by_cases hb : (ds.map neT).headD false = true
      · rw [if_pos hb, keyLt_general]
        exact oneLt_alike (fun z => Bool.noConfusion z) ra rb (hal _ hd d' hd') (fun z => by cases z) (room hd) hq
      · rw [if_neg hb, keyLt'_oneType]
        exact oneLt_tup ra rb (hal _ hd d' hd') (room hd) hq
end
section
variable {β : Type} {enc : β → PyData} {R : Value → β → Prop} {bs : List β} {vs : List Value} {E : Value → Shared → Prop} {prog : Program} {s : Shared} {w : World} {A : Around}
end
end Q

namespace Q
open PySem PySem.Spec PyProof.Rows L2
variable [Gh : Ghost]
/-! ### sorted(..) of data that can be compared -/
section
variable {X : Cx} {k : Nat} {pins : List (Addr × Obj)} {σ : L2.St} {H : Hp} {s : Shared} {r : List Addr} {S : Store}
theorem reads_one (I : Inv X pins σ H s) (ro : ROk X.K r H S) {d : D} {p : PyData} {v : V} {u : Value} (h : pyD S d = some p) (k : VR X.K r H d v) (ru : RelV v u) : ∃ as, Reads s.heap u p as := by
  obtain ⟨as, rd, _⟩ := toPy_reads I ro 64 d p v u h k ru
  exact ⟨as, rd⟩
end
end Q

namespace Q
open PySem PySem.Spec PyProof.Rows L2
variable [Gh : Ghost]
/-! ### more methods of lists -/
theorem VRs.reverse {K : PySem.W.Frag} {r : List Addr} {H : Hp} : ∀ {ds : List D} {vs : List V}, VRs K r H ds vs → VRs K r H ds.reverse vs.reverse
  | [], _, h => by subst h; rfl
  | d :: ds, _, ⟨v, ws, h1, h2, h3⟩ => by
    subst h1
    rw [List.reverse_cons, List.reverse_cons]
    exact (VRs.reverse h3).append (VRs.one h2)
section
variable {X : Cx}
end
end Q

namespace Q
open PySem PySem.Spec PyProof.Rows L2
variable [Gh : Ghost]
/-! ### x in xs, xs a list or a tuple of data -/
def inD (d e : D) (S : Store) : Option Bool := (pyD S d).bind fun p => (pyD S e).bind fun q => match q with
  | .list ds => if SeqAt.shaped p = true ∧ SeqAt.shaped (.list ds) = true then some (ds.any fun z => PyData.eqv z p) else none
  | .tuple ds => if SeqAt.shaped p = true ∧ SeqAt.shaped (.tuple ds) = true then some (ds.any fun z => PyData.eqv z p) else none
  | _ => none
def gIn : G2 := fun d e S => (inD d e S).map fun b => (.bl b, S)
def gNotIn : G2 := fun d e S => (inD d e S).map fun b => (.bl (!b), S)
theorem inD_ok {d e : D} {S : Store} {b : Bool} (h : inD d e S = some b) : ∃ p ds, pyD S d = some p ∧ SeqAt.shaped p = true ∧ b = (ds.any fun z => PyData.eqv z p) ∧ ((pyD S e = some (.list ds) ∧ SeqAt.shaped (.list ds) = true) ∨ (pyD S e = some (.tuple ds) ∧ SeqAt.shaped (.tuple ds) = true)) := by
  unfold inD at h
  obtain ⟨p, h1, h⟩ := Option.bind_eq_some_iff.mp h
  obtain ⟨q, h2, h⟩ := Option.bind_eq_some_iff.mp h
  split at h
  · rename_i ds
    split at h
    · rename_i hc
      cases h
      exact ⟨p, ds, h1, hc.1, rfl, .inl ⟨h2, hc.2⟩⟩
    · cases h
  · rename_i ds
    split at h
    · rename_i hc
      cases h
      exact ⟨p, ds, h1, hc.1, rfl, .inr ⟨h2, hc.2⟩⟩
    · cases h
  · cases h
theorem Gd.in_ {X : Cx} {k : Nat} (g : Gd X k) : X.A.units + 65 < cLine := by have := g.room.un; omega
theorem GdW.in_ {X : Cx} (g : GdW X) : X.A.units + 65 < cLine := by have := g.un; omega
section
variable {X : Cx}
theorem o_in (hu : X.A.units + 65 < cLine) : OpD X (compareOp .In) gIn := by
  refine ⟨?_⟩
  intro d e z x y r H S S' Q q k1 k2 ro ed
  obtain ⟨b, h, q⟩ := Option.map_eq_some_iff.mp q
  cases q
  obtain ⟨p, ds, h1, s1, rfl, ⟨h2, s2⟩ | ⟨h2, s2⟩⟩ := inD_ok h
  · intro pins s σ v u I rx ry
    obtain ⟨as, r1⟩ := reads_one I ro h1 k1 rx
    obtain ⟨bs, r2⟩ := reads_one I ro h2 k2 ry
    exact SeqAt.in_list_reads r2 r1 (SeqAt.canLay_of_shaped s2) (SeqAt.canLay_of_shaped s1) (room_in_shaped s1 hu) ⟨.bl _, H, I, rfl, ed.flat ro rfl⟩
  · intro pins s σ v u I rx ry
    obtain ⟨as, r1⟩ := reads_one I ro h1 k1 rx
    obtain ⟨bs, r2⟩ := reads_one I ro h2 k2 ry
    exact SeqAt.in_tuple_reads r2 r1 (SeqAt.canLay_of_shaped s2) (SeqAt.canLay_of_shaped s1) (room_in_shaped s1 hu) ⟨.bl _, H, I, rfl, ed.flat ro rfl⟩
theorem o_nin (hu : X.A.units + 65 < cLine) : OpD X (compareOp .NotIn) gNotIn := by
  refine ⟨?_⟩
  intro d e z x y r H S S' Q q k1 k2 ro ed
  obtain ⟨b, h, q⟩ := Option.map_eq_some_iff.mp q
  cases q
  obtain ⟨p, ds, h1, s1, rfl, ⟨h2, s2⟩ | ⟨h2, s2⟩⟩ := inD_ok h
  · intro pins s σ v u I rx ry
    obtain ⟨as, r1⟩ := reads_one I ro h1 k1 rx
    obtain ⟨bs, r2⟩ := reads_one I ro h2 k2 ry
    exact SeqAt.notIn_list_reads r2 r1 (SeqAt.canLay_of_shaped s2) (SeqAt.canLay_of_shaped s1) (room_in_shaped s1 hu) ⟨.bl _, H, I, rfl, ed.flat ro rfl⟩
  · intro pins s σ v u I rx ry
    obtain ⟨as, r1⟩ := reads_one I ro h1 k1 rx
    obtain ⟨bs, r2⟩ := reads_one I ro h2 k2 ry
    exact SeqAt.notIn_tuple_reads r2 r1 (SeqAt.canLay_of_shaped s2) (SeqAt.canLay_of_shaped s1) (room_in_shaped s1 hu) ⟨.bl _, H, I, rfl, ed.flat ro rfl⟩
/-! ### xs.index(y) -/
end
end Q

namespace Q
open PySem PySem.Spec PyProof.Rows L2
variable [Gh : Ghost]
/-! ### max(xs), min(xs) of ints -/
section
variable {X : Cx} {k : Nat}
end
/-! ### xs[::-1], xs a list or a tuple -/
section
variable {prog : Program} {w : World} {A : Around} {E : Value → Shared → Prop} {s : Shared}
end
section
variable {X : Cx} {k : Nat} {p1 p2 p3 pos : Pos} {pins : List (Addr × Obj)} {s : Shared} {σ : L2.St} {H : Hp} {Q : Value → Shared → Prop}
end
section
variable {X : Cx} {e : Expr} {m : ME} {k : Nat} {p1 p2 p3 pos : Pos}
end
end Q

namespace Q
open PySem PySem.Spec PyProof.Rows L2
variable [Gh : Ghost]
/-! ### raise C(), C without fields -/
section
variable {X : Cx}
variable {B newId initId : String} {bb : List Value} {C : Addr} {x : Str} {fI : Addr} {k : Nat} {fd : FuncData} {ps : List Str} {p pos pos' : Pos}
end
end Q

namespace Q
open PySem PySem.Spec PyProof.Rows L2
variable [Gh : Ghost]
/-! ### o[i], p[j] = a, b -/
section
variable {X : Cx} {k : Nat} {pos : Pos}
end
end Q

namespace Q
open PySem PySem.Spec PyProof.Rows L2
variable [Gh : Ghost]
/-! ### xs.index(y), ints -/
end Q

namespace Q
open PySem PySem.Spec PyProof.Rows L2
variable [Gh : Ghost]
/-! ### list(range(n)) -/
end Q

namespace Q
open PySem PySem.Spec PyProof.Rows L2
variable [Gh : Ghost]
/-! ### objects of own classes -/
def insD (d : D) (S : Store) : Option (Addr × List (Str × D)) := match d with
  | .ref n => match S[n]? with
    | some (.ins C fs) => some (C, fs)
    | _ => none
  | _ => none
theorem insD_ok {K : PySem.W.Frag} {r : List Addr} {H : Hp} {S : Store} {d : D} {x : V} {C : Addr} {fs : List (Str × D)} (ro : ROk K r H S) (k : VR K r H d x) (h : insD d S = some (C, fs)) : ∃ n a dx vs, d = .ref n ∧ S[n]? = some (.ins C fs) ∧ r[n]? = some a ∧ x = .ref a ∧ H a = some (.ins C dx vs) ∧ FR K r H fs vs ∧ OwnOk K C := by
  cases d with
  | ref n =>
    obtain ⟨a, ha, rfl⟩ := k
    unfold insD at h
    dsimp only at h
    cases q : S[n]? with
    | none => rw [q] at h; cases h
    | some o =>
      rw [q] at h
      cases o with
      | ins C' fs' =>
        cases h
        obtain ⟨dx, vs, h1, h2, h3⟩ := ro.ob n _ a q ha
        exact ⟨n, a, dx, vs, rfl, q, ha, rfl, h1, h2, h3⟩
      | _ => cases h
  | _ => cases h
theorem FR.look {K : PySem.W.Frag} {r : List Addr} {H : Hp} {f : Str} {d : D} : ∀ {fs : List (Str × D)} {vs : List (Str × V)}, FR K r H fs vs → fs.lookup f = some d → ∃ v, vs.lookup f = some v ∧ VR K r H d v
  | [], _, _, e => by cases e
  | (g, x) :: fs, _, ⟨v, ws, rfl, h2, h3⟩, e => by
    rw [List.lookup_cons] at e ⊢
    cases q : f == g with
    | true => rw [q] at e; cases e; exact ⟨v, rfl, h2⟩
    | false => rw [q] at e; exact FR.look h3 e
theorem FR.no {K : PySem.W.Frag} {r : List Addr} {H : Hp} {f : Str} : ∀ {fs : List (Str × D)} {vs : List (Str × V)}, FR K r H fs vs → fs.lookup f = none → vs.lookup f = none
  | [], _, h, _ => by obtain rfl := h; rfl
  | (g, x) :: fs, _, ⟨v, ws, rfl, h2, h3⟩, e => by
    rw [List.lookup_cons] at e ⊢
    cases q : f == g with
    | true => rw [q] at e; cases e
    | false => rw [q] at e; exact FR.no h3 e
theorem FR.length {K : PySem.W.Frag} {r : List Addr} {H : Hp} : ∀ {fs : List (Str × D)} {vs : List (Str × V)}, FR K r H fs vs → fs.length = vs.length
  | [], _, h => by obtain rfl := h; rfl
  | (g, x) :: fs, _, ⟨v, ws, rfl, h2, h3⟩ => by rw [List.length_cons, List.length_cons, FR.length h3]
def putFD (f : Str) (v : D) : List (Str × D) → List (Str × D)
  | [] => [(f, v)]
  | (g, x) :: r => if g = f then (g, v) :: r else (g, x) :: putFD f v r
theorem FR.put {K : PySem.W.Frag} {r : List Addr} {H : Hp} {f : Str} {d : D} {v : V} (hv : VR K r H d v) : ∀ {fs : List (Str × D)} {vs : List (Str × V)}, FR K r H fs vs → FR K r H (putFD f d fs) (putF f v vs)
  | [], _, h => by obtain rfl := h; exact ⟨v, [], rfl, hv, rfl⟩
  | (g, x) :: fs, _, ⟨w, ws, rfl, h2, h3⟩ => by
    unfold putFD putF
    by_cases e : g = f
    · rw [if_pos e, if_pos e]; exact ⟨v, ws, rfl, hv, h3⟩
    · rw [if_neg e, if_neg e]; exact ⟨w, _, rfl, h2, FR.put hv h3⟩
theorem own_kit {K : PySem.W.Frag} {C : Addr} {t : String} {b : Bool} (hm : PySem.W.kitMeta t = true) (h : PySem.W.mroIn K C (.type t) = some b) : PySem.W.kitOne K (.ref C) (.type t) = some b := by
  unfold PySem.W.kitOne
  rw [if_neg (by simp)]
  show (if PySem.W.kitMeta t = true then PySem.W.subIn K (.ref C) (.type t) else none) = _
  rw [if_pos hm]
  exact h
theorem own_nT {K : PySem.W.Frag} {C : Addr} (h0 : PySem.W.mroIn K C (.type "int") = some false) (h1 : PySem.W.mroIn K C (.type "bool") = some false) (h2 : PySem.W.mroIn K C (.type "tuple") = some false) (h3 : PySem.W.mroIn K C (.type "list") = some false) (h4 : PySem.W.mroIn K C (.type "str") = some false) (h5 : PySem.W.mroIn K C (.type "dict") = some false) :
    ∀ T : String, T = "int" ∨ T = "bool" ∨ T = "tuple" ∨ T = "list" ∨ T = "str" ∨ T = "dict" → PySem.W.kitOne K (.ref C) (.type T) = some false := fun T h => by
  rcases h with rfl | rfl | rfl | rfl | rfl | rfl
  · exact own_kit (by decide +kernel) h0
  · exact own_kit (by decide +kernel) h1
  · exact own_kit (by decide +kernel) h2
  · exact own_kit (by decide +kernel) h3
  · exact own_kit (by decide +kernel) h4
  · exact own_kit (by decide +kernel) h5
theorem call_guards {A : Around} {C : Addr} {us : List Value} {kw : List (Str × Value)} : (A.under (.builtin "type.__call__" ⟨.ref C :: us, kw⟩)).guards = A.guards := by
  first | rfl | simp [Around.under, Code.weight, Code.isCreation, Code.isGuard, Code.isCaller, Code.frames, Code.isFrame, guardIds]
/-! e.f -/
def gFld (Cs : List Addr) (f : Str) : G1 := fun d S => (insD d S).bind fun p => if p.1 ∈ Cs then (p.2.lookup f).map fun v => (v, S) else none
section
variable {X : Cx} {e o value : Expr} {f : Str} {pos pos' apos : Pos} {m mo mv : ME} {Cs : List Addr} {k : Nat}
theorem e_fld (hC : ∀ C ∈ Cs, NoAttr X.K C f) (ha : SndE X e m) (hb : attributeBase e f X.env (eval e X.env) = eval e X.env := by rfl) : SndE X (.Attribute e f pos) (m1 (gFld Cs f) m) := by
  refine ⟨?_⟩
  intro W tk en σ r H S Q er ro dn
  refine wE_of (pe_fld (pe_wE X e) hb) ?_
  refine ha.run W tk en σ r H S _ er ro (Dn.imp (Dn.bind dn) fun x H1 ⟨d, S1, r1, e1, s1, o1, k1, d1⟩ => ?_)
  obtain ⟨z, S', g1, ed⟩ := dn_ofOpt d1
  obtain ⟨⟨C, fs⟩, h1, g1⟩ := Option.bind_eq_some_iff.mp g1
  by_cases hm : C ∈ Cs
  · rw [if_pos hm] at g1
    obtain ⟨v, h2, g1⟩ := Option.map_eq_some_iff.mp g1
    cases g1
    obtain ⟨n, a, dx, vs, rfl, hS, hr, rfl, hH, hf, ow⟩ := insD_ok o1 k1 h1
    obtain ⟨w, h3, h4⟩ := hf.look h2
    exact ⟨a, C, dx, vs, w, rfl, hH, ow.cl, hC C hm, h3, ed.flat o1 h4⟩
  · rw [if_neg hm] at g1; cases g1
/-! o.f = value -/
def setFD (Cs : List Addr) (f : Str) (d z : D) (S : Store) : Option Store := match d with
  | .ref n => match S[n]? with
    | some (.ins C fs) => if C ∈ Cs ∧ fs.length < 1000 then some (S.set n (.ins C (putFD f z fs))) else none
    | _ => none
  | _ => none
def mSetF (Cs : List Addr) (f : Str) (mo mv : ME) : MS := fun en S => (mv en S).stm en fun z S1 => (mo en S1).stm en fun d S2 => mStoreP (setFD Cs f d z S2) en
theorem s_setF (hC : ∀ C ∈ Cs, NoAttr X.K C f) (ho : SndE X o mo) (hv : SndE X value mv) (hs : swapsWith value (some (.Attribute o f pos')) pos.line X.env = pure false := by rfl) :
    SndS X (.Assign [.Attribute o f pos'] value pos) (mSetF Cs f mo mv) := by
  refine ⟨?_⟩
  intro W tk en σ r H S D er ro dn pins s I
  refine plainObj_wpAny_Assign_Attribute (thn (hv.run W tk en σ r H S _ er ro (DnS.stm (R := VR X.K) er dn) pins s I) fun rv s1 ⟨v, H1, I1, rr, z, S1, r1, e1, t1, o1, k1, er1, d1⟩ => thn (ho.run W tk en σ r1 H1 S1 _ er1 o1 (DnS.stm (R := VR X.K) er1 d1) pins s1 I1) fun ov s2 ⟨x, H2, I2, rx, d, S2, r2, e2, t2, o2, k2, er2, d2⟩ => ?_) hs
  have k1 := k1.mono t2
  cases q : setFD Cs f d z S2 with
  | none => rw [q] at d2; exact d2.elim
  | some S3 =>
    rw [q] at d2
    cases d with
    | ref n =>
      obtain ⟨p, hp, rfl⟩ := k2
      cases rx
      unfold setFD at q
      dsimp only at q
      cases q' : S2[n]? with
      | none => rw [q'] at q; cases q
      | some ob =>
        rw [q'] at q
        have oo := o2.ob n ob p q' hp
        cases ob with
        | ins C fs =>
          dsimp only at q
          by_cases hc : C ∈ Cs ∧ fs.length < 1000
          · rw [if_pos hc] at q
            cases q
            obtain ⟨dx, vs, h1, h2, h3⟩ := oo
            have ss : Stp r2 H2 r2 (upd H2 p (.ins C dx (putF f v vs))) := Stp.mut h1 trivial
            refine setattr_ok I2 h1 h3.cl (hC C hc.1) (by rw [← h2.length]; exact hc.2) rr fun s3 I3 => ⟨σ, _, I3, ?_⟩
            exact d2 r2 _ σ ss (o2.mut hp h1 trivial ⟨dx, _, upd_same, (h2.mono ss).put (k1.mono ss), h3⟩) (er2.mono ss)
          · rw [if_neg hc] at q; cases q
        | _ => cases q
    | _ => cases q
end
/-! o.m(args): a method of the object's class -/
section
variable {X : Cx} {k : Nat} {f : Addr} {fd : FuncData} {ps : List Str} {M : MF} {dvs : List V} {dds : List D} {dsv : List Value} {x nm : Str} {p pos apos : Pos} {o e : Expr} {es : List Expr} {m : MA} {mo : ME} {Cs : List Addr} {C : Addr}
/-! C(args) -/
def mkR (C : Addr) (M : MF) (n : Nat) (ds : List D) (S : Store) : Res D := if (D.ref S.length :: ds).length = n then (M (.ref S.length :: ds) (S ++ [.ins C []])).bind fun z S2 => match z with
  | .non => .ok (.ref S.length) S2
  | _ => .bad else .bad
def mMake (C : Addr) (M : MF) (n : Nat) (dds : List D) (m : MA) : ME := fun en S => (m en S).bind fun ds S1 => mkR C M n (ds ++ dds) S1
theorem run_mkA {W : WX} {pins : List (Addr × Obj)} {σ : L2.St} {H : Hp} {s : Shared} {Q : VK} {as us : List Value} {kw : List (Str × Value)} {vs : List V} {ds : List D} {r : List Addr} {S : Store} (mk : Mk X.K C f) (ow : OwnOk X.K C) (F : FnM X.prog X.w X.K X.mg X.base k f fd ps M) (g : Gd X (k + 1))
    (hb : ps.length = us.length + 1 → ∀ (s : Shared) (self : Value), X.K.In s.heap → BindsTo s fd ⟨self :: as, kw⟩ (ps.zip (self :: us))) (tk : Takes X W)
    (I : Inv X pins σ H s) (rv : Vals vs us) (kv : VRs X.K r H ds vs) (ro : ROk X.K r H S) (dn : Dn X.K r H (VR X.K) (mkR C M ps.length ds S) Q (WE W σ)) :
    wpAny (model X.prog X.w) X.A (call (.ref C) as kw) (EP X pins σ Q) X.xe s := by
  obtain ⟨hl, dn⟩ := dn_if dn
  -- the new object's address and its dict's
  let dx := s.heap.objs.size
  let a := s.heap.objs.size + 1
  let G := upd (upd H dx (.own a)) a (.ins C dx [])
  have hx : H a = none := I.hok.fresh (Nat.le_succ _)
  have hdx : H dx = none := I.hok.fresh (Nat.le_refl _)
  have hx2 : (upd H dx (.own a)) a = none := by rw [upd_ne (Nat.succ_ne_self dx)]; exact hx
  have I2 := Inv.made (C := C) I
  have st : Stp r H (r ++ [a]) G := (Stp.loose hdx).trans (Stp.new hx2)
  have ro2 : ROk X.K (r ++ [a]) G (S ++ [.ins C []]) := (ro.loose hdx).new hx2 ⟨dx, [], upd_same, rfl, ow⟩
  have hr2 : (r ++ [a])[S.length]? = some a := by rw [← ro.len, List.getElem?_append_right (Nat.le_refl _), Nat.sub_self]; rfl
  have kk : VRs X.K (r ++ [a]) G (D.ref S.length :: ds) (V.ref a :: vs) := ⟨_, _, rfl, ⟨_, hr2, rfl⟩, kv.mono st⟩
  have rr : Vals (V.ref a :: vs) (Value.ref a :: us) := .cons rfl rv
  have hlen : ps.length = us.length + 1 := by
    have e1 := rr.length
    have e2 := kk.length
    rw [← hl, e2, e1]
    rfl
  have dn2 : Dn X.K (r ++ [a]) G (VR X.K) (M (.ref S.length :: ds) (S ++ [.ins C []])) (fun v H2 => v = .non ∧ Q (.ref a) H2) (WE W σ) := by
    cases q : M (.ref S.length :: ds) (S ++ [.ins C []]) with
    | ok z S2 =>
      rw [q] at dn
      intro r' H' v s' o' kz
      cases z with
      | non =>
        refine ⟨kz, ?_⟩
        exact dn r' H' (.ref a) (st.trans s') o' ⟨_, s'.pre _ _ hr2, rfl⟩
      | _ => exact dn.elim
    | err c n S2 =>
      rw [q] at dn
      exact fun r' H' x s' o' kx => dn r' H' x (st.trans s') o' kx
    | bad => rw [q] at dn; exact dn.elim
  have run := F.run _ X.stack _ _ ⟨Value.ref a :: as, kw⟩ (Value.ref a :: us) _ _ _ _ (fun v H2 => v = .non ∧ Q (.ref a) H2) (WE W σ) (g.room.make C as kw) (call_guards.trans g.gd) (I2.env0.make C as kw) (hb hlen _ (Value.ref a) I2.kIn) rr hl kk ro2 dn2
  refine wpAny_call (make_map (f := f) I.kIn mk.makes mk.init (beq_iff_eq.mp mk.fn) (codeAny_mono run fun res s' hq => ?_))
  match res, hq with
  | .error e, hq => exact tk e s' (XE.of_call I2 (fun _ _ _ h => h) hq)
  | .ok (.ret u), hq =>
    obtain ⟨v, H', I3, rv, ev, q3⟩ := I2.after hq
    subst ev
    exact ⟨rv, ⟨V.ref a, H', I3, rfl, q3⟩⟩
  | .ok .next, hq => exact hq.elim
  | .ok .brk, hq => exact hq.elim
  | .ok .cont, hq => exact hq.elim
theorem run_mk {W : WX} {pins : List (Addr × Obj)} {σ : L2.St} {H : Hp} {s : Shared} {Q : VK} {us : List Value} {vs : List V} {ds : List D} {r : List Addr} {S : Store} (mk : Mk X.K C f) (ow : OwnOk X.K C) (F : FnM X.prog X.w X.K X.mg X.base k f fd ps M) (g : Gd X (k + 1)) (hb : Binds X.K fd ps dsv) (hd : Vals dvs dsv) (tk : Takes X W)
    (I : Inv X pins σ H s) (rv : Vals vs us) (kv : VRs X.K r H ds vs) (kd : VRs X.K r H dds dvs) (ro : ROk X.K r H S) (dn : Dn X.K r H (VR X.K) (mkR C M ps.length (ds ++ dds) S) Q (WE W σ)) :
    wpAny (model X.prog X.w) X.A (call (.ref C) us) (EP X pins σ Q) X.xe s :=
  run_mkA mk ow F g (fun hl s self kin => by
    have := hb s (self :: us) kin (by rw [List.cons_append, List.length_cons]; exact hl.symm)
    exact this) tk I (rv.append hd) (kv.append kd) ro dn
theorem e_make (mk : Mk X.K C f) (ow : OwnOk X.K C) (F : FnM X.prog X.w X.K X.mg X.base k f fd ps M) (g : Gd X (k + 1)) (hg : Gl X x) (hm : X.mg x = some (.ref C)) (hb : Binds X.K fd ps dsv) (hd : Vals dvs dsv) (kd : ∀ r H, VRs X.K r H dds dvs)
    (ha : SndA X (e :: es) m) (hdb : (x == ("__debug__" : Str)) = false := by decide) (he : starEach (e :: es) X.env = (false, eval e X.env) :: starEach es X.env := by rfl) (hpl : (backTo pos (starEach es X.env)).any (·.1) = false := by rfl) :
    SndE X (.Call (.Name x p) (e :: es) [] pos) (mMake C M ps.length dds m) := by
  refine ⟨?_⟩
  intro W tk en σ r H S Q er ro dn pins s I
  refine wpAny_Call_Name_kw (ld_glob I hg hm ?_ hdb)
  refine PySem.W.callWith_K (h₀ := X.base) I.ok.mod.kin mk.kp (thn (ha.run W tk en σ r H S _ er ro (Dn.bind dn) pos pins s I) fun us s1 ⟨vs, H1, I1, rv, ds, S1, r1, e1, st1, o1, k1, d1⟩ => ⟨I1.kIn, ?_⟩) he hpl
  exact run_mk mk ow F g hb hd tk I1 rv k1 (kd r1 H1) o1 d1
/-! e.f, a property: nothing is raised there -/
end
end Q

namespace Q
open PySem PySem.Spec PyProof.Rows L2
variable [Gh : Ghost]
/-! ### isinstance(e, C), C an own class -/
structure KitO (K : PySem.W.Frag) (C : Addr) : Prop where
  cls : (PySem.W.clsIn K C).isSome = true
  ty : PySem.W.typeIn K (.ref C) = some (.type "type")
theorem sub_bt {K : PySem.W.Frag} {C : Addr} {q : Kd} (n : ∀ C', q ≠ .ins C') : PySem.W.subIn K q.ty (.ref C) = some false := by
  cases q with
  | ins C' => exact absurd rfl (n C')
  | _ => with_unfolding_all rfl
theorem KitO.bt {K : PySem.W.Frag} {C : Addr} {q : Kd} (h : KitO K C) (n : ∀ C', q ≠ .ins C') : PySem.W.kitOne K q.ty (.ref C) = some false := by
  have ne : (q.ty == Value.ref C) = false := by
    cases q with
    | ins C' => exact absurd rfl (n C')
    | _ => rfl
  unfold PySem.W.kitOne PySem.W.kitCls
  rw [ne]
  simp only [Bool.false_eq_true, if_false, h.cls, h.ty, beq_self_eq_true, Bool.and_self, if_true]
  exact sub_bt n
section
variable {X : Cx} {p p1 pos : Pos} {e : Expr} {m : ME} {C : Addr}
end
/-! ### a == b, a != b where a is an object of a class with its own __eq__ -/
section
variable {prog : Program} {w : World} {A : Around} {E : Value → Shared → Prop} {s : Shared} {K : PySem.W.Frag} {a C f : Addr} {ox : Obj} {od : Option Obj} {b tb : Value}
end
section
variable {X : Cx} {k : Nat} {f C : Addr} {fd : FuncData} {M : MF} {a b : Expr} {ma mb : ME} {g : G2} {pos : Pos} {x1 x2 : Str}
end
end Q

namespace Q
open PySem PySem.Spec PyProof.Rows L2
variable [Gh : Ghost]
/-! ### C(k = e, ..): a new object, all arguments by name and in the parameters' order -/
section
variable {X : Cx} {e : Expr} {kws : List Keyword} {nm : Option Str} {me : ME} {mr : MA} {kp : Pos}
end
section
variable {X : Cx} {k : Nat} {f C : Addr} {fd : FuncData} {ps ks : List Str} {M : MF} {x : Str} {p pos : Pos} {kws : List Keyword} {m : MA}
end
end Q

namespace Q
open PySem PySem.Spec PyProof.Rows L2 NdefX
variable [Gh : Ghost]
/-! ### a method that asks super(): its class stands in a cell -/
/-- statements of a body, run at the body's own code -/
structure SndB (X : Cx) (c : Code) (body : List Stmt) (m : MS) : Prop where
  run : ∀ (W : WX), Takes X W → ∀ (en : En) (σ : L2.St) (r : List Addr) (H : Hp) (S : Store) (D : Ends), ER X.K r H en σ → ROk X.K r H S → DnS X.K r H (m en S) D W → ∀ (pins : List (Addr × Obj)) (s : Shared), Inv X pins σ H s →
    _root_.PySem.wpAt (model X.prog X.w) X.A c (execs body X.env) (SP X pins D) X.xe s
structure SndU (X : Cx) (c : Code) (st : Stmt) (m : MS) : Prop where
  run : ∀ (W : WX), Takes X W → ∀ (en : En) (σ : L2.St) (r : List Addr) (H : Hp) (S : Store) (D : Ends), ER X.K r H en σ → ROk X.K r H S → DnS X.K r H (m en S) D W → ∀ (pins : List (Addr × Obj)) (s : Shared), Inv X pins σ H s →
    _root_.PySem.wpAt (model X.prog X.w) X.A c (exec st X.env) (SP X pins D) X.xe s
section
variable {X : Cx} {c : Code} {st : Stmt} {body rest : List Stmt} {m ms mr : MS} {k : Nat}
theorem b_of (h : SndSs X body m) : SndB X c body m := ⟨fun W tk en σ r H S D er ro dn pins s I => PySem.wpAt_of_wpAny (h.run W tk en σ r H S D er ro dn pins s I)⟩
theorem b_cons (h : SndU X c st ms) (hr : SndB X c rest mr) : SndB X c (st :: rest) (mSeq ms mr) := by
  refine ⟨?_⟩
  intro W tk en σ r H S D er ro dn pins s I
  refine PySem.ks_wpAt_execs_cons ?_
  have dn : DnS X.K r H ((ms en S).seq mr) D W := dn
  let N : L2.St → Hp → Prop := fun σ' H' => ∀ (pins : List (Addr × Obj)) (s : Shared), Inv X pins σ' H' s → _root_.PySem.wpAt (model X.prog X.w) X.A c (execs rest X.env) (SP X pins D) X.xe s
  have go : DnS X.K r H (ms en S) { D with nx := N } W := by
    cases q : ms en S with
    | nx e S1 =>
      rw [q] at dn
      exact fun r' H' σ' st' o' er' pins' s' I' => hr.run W tk e σ' r' H' S1 D er' o' (DnS.mono st' dn) pins' s' I'
    | rt d S1 => rw [q] at dn; exact dn
    | bk e S1 => rw [q] at dn; exact dn
    | ct e S1 => rw [q] at dn; exact dn
    | err C n e S1 => rw [q] at dn; exact dn
    | bad => rw [q] at dn; exact dn
  refine PySem.wpAt_mono (h.run W tk en σ r H S _ er ro go pins s I) (fun f s' hs => ?_) fun _ _ z => z
  cases f with
  | next => obtain ⟨σ', H', I', hn⟩ := hs; exact hn pins s' I'
  | brk => exact hs
  | cont => exact hs
  | ret u => exact hs
/-- what is known of super() in a method of the class D, asked at objects of the class C -/
structure SupOk (K : PySem.W.Frag) (C D cc : Addr) (f2 : Addr) : Prop where
  any : PySem.W.nsIn K cStatics "thirdparty.any" = some none
  cls : ∃ cd, PySem.W.clsIn K D = some cd
  clsC : ∃ cd, PySem.W.clsIn K C = some cd
  sub : PySem.W.mroIn K C (.ref D) = some true
  sup : PySem.W.ks_superIn K C D "__init__" = some (some (.ref f2))
  ty : PySem.W.typeIn K (.ref f2) = some (.type "function")
  fn : PySem.W.fnIn K f2 = true
  cell : ∃ cl cld csl, K.lookup cc = some ⟨cl, cld, .cell (some (.ref D)), csl⟩
/-- the program's own words that super() looks at -/
class ProgOk (P : Program) : Prop where
  top : (P.main.scope.names.lookup ("super" : Str)).isSome = false
def mSupE (Cs : List Addr) (M : MF) (n : Nat) (m : MA) : ME := fun en S => (mVar 0 en S).bind fun d S1 => match insD d S1 with
  | some p => if p.1 ∈ Cs then (m en S1).bind fun ds S2 => if (d :: ds).length = n then M (d :: ds) S2 else .bad else .bad
  | none => .bad
theorem u_sup {Cs : List Addr} {D0 cc f f2 cda : Addr} {fd fd2 : FuncData} {ps : List Str} {M : MF} {m : MA} {p0 p1 apos pos spos : Pos} {e : Expr} {es : List Expr} {self : Str} {pl : Sem Bool} {ar : Arg} {oc od0 : Value} {odx cdd : Option Addr} {osl ccs : Array (Option Value)} {vs0 : Array Value} {file : Str} {tf : Tok} {ccl : Value} {bd : List Stmt} [po : ProgOk X.prog]
    (hC : ∀ C ∈ Cs, SupOk X.K C D0 cc f2) (F : FnM X.prog X.w X.K X.mg X.base k f2 fd2 ps M) (g : Gd X k) (hb : Binds X.K fd2 ps [])
    (hks : X.env.kindOf "super" = some .globalImplicit) (hkc : X.env.kindOf "__class__" = some .free) (hcl : X.env.cells.lookup ("__class__" : Str) = some cc) (hfu : X.env.func = some f) (hco : X.env.code = .ref cda) (hms : X.mg "super" = none) (hbs : bootBuiltins "super" = some (.type "super"))
    (hf : X.K.lookup f = some ⟨oc, odx, .func fd, osl⟩) (hp : (fd.params.posonlyargs ++ fd.params.args).head? = some ar) (har : ar.arg = self) (hN : X.N[0]? = some self) (hka : X.env.kindOf self = some .local)
    (hcode : X.K.lookup cda = some ⟨ccl, cdd, .fields vs0, ccs⟩) (hvs : vs0[2]? = some (.str file tf)) (hfile : ((X.prog.main.file : Str) == file) = true)
    (ha : SndA X (e :: es) m) (hi : interactive X.env = false := by rfl) (hsw : swapsWith (.Call (.Attribute (.Call (.Name "super" p0) [] [] p1) "__init__" apos) (e :: es) [] pos) none spos.line X.env = pure false := by rfl)
    (hst : starEach (e :: es) X.env = (false, eval e X.env) :: starEach es X.env := by rfl) (hpl : (backTo pos (starEach es X.env)).any (·.1) = false := by rfl)
    (he : eval (.Call (.Attribute (.Call (.Name "super" p0) [] [] p1) "__init__" apos) (e :: es) [] pos) X.env = (do
      let ov ← attributeBase (.Call (.Name "super" p0) [] [] p1) "__init__" X.env (eval (.Call (.Name "super" p0) [] [] p1) X.env)
      standAt apos.atName
      let (f, first) ← holding [ov] (getMethod ov "__init__" pl)
      callWith pos f first (backTo pos (starEach (e :: es) X.env)) []) := by rfl) :
    SndU X (.func bd X.env) (.Expr (.Call (.Attribute (.Call (.Name "super" p0) [] [] p1) "__init__" apos) (e :: es) [] pos) spos) (mExpr (mSupE Cs M ps.length m)) := by
  refine ⟨?_⟩
  intro W tk en σ r H S D er ro dn pins s I
  refine PySem.ks_wpAt_Expr_any ?_ hi hsw
  refine PySem.ks_wpAt_MethodCall (pl := pl) ?_ he
  -- self
  have dn := DnS.stm (R := VR X.K) er dn
  unfold mSupE at dn
  have dn0 := Dn.bind (R := VR X.K) dn
  cases q0 : en[0]? with
  | none =>
    have z : mVar 0 en S = .bad := by unfold mVar; rw [q0]
    rw [z] at dn0
    exact dn0.elim
  | some od1 =>
    cases od1 with
    | none =>
      have z : mVar 0 en S = .bad := by unfold mVar; rw [q0]
      rw [z] at dn0
      exact dn0.elim
    | some d =>
      have z : mVar 0 en S = .ok d S := by unfold mVar; rw [q0]
      rw [z] at dn0
      obtain ⟨v0, hv0, kv0⟩ := er.at_ 0 d q0
      obtain ⟨d', S1, r1, e1, st1, o1, k1, d1⟩ := dn0 r H v0 (Stp.refl _ _) ro kv0
      cases e1
      cases qi : insD d S with
      | none => rw [qi] at d1; exact d1.elim
      | some p =>
        rw [qi] at d1
        obtain ⟨C, fs⟩ := p
        dsimp only at d1
        obtain ⟨hc, d1⟩ := dn_if d1
        obtain ⟨n, a, dx, fvs, rfl, hS, hr, rfl, hH, hfr, ow⟩ := insD_ok o1 k1 qi
        have so := hC C hc
        have k1x := k1
        obtain ⟨mA, O, _, _, _, _⟩ := ins_get I.hok hH
        obtain ⟨od, J, _⟩ := O.look
        obtain ⟨cdD, hcD⟩ := so.cls
        obtain ⟨cdC, hcC⟩ := so.clsC
        have KX := I.kIn
        obtain ⟨hh, gg, dd, tt, os⟩ := s
        have hD : ∃ oD, hh.get? D0 = some oD ∧ oD.data = .cls cdD := by
          unfold PySem.W.clsIn at hcD
          split at hcD
          · rename_i ho
            cases hcD
            exact ⟨_, KX _ _ ho, rfl⟩
          · cases hcD
        obtain ⟨oD, hD1, hD2⟩ := hD
        obtain ⟨cl, cld, csl, hcell⟩ := so.cell
        obtain ⟨mb, hb1, hb2⟩ := I.mod.blt
        refine PySem.ks_wpAt_super_base (fd := fd) hks hkc (by decide) hfu (KX _ _ hf) rfl hp hco (KX _ _ hcode) rfl hvs hfile po.top ?_
        refine PySem.W.ks_loadName_global I.ok.kind hks (Calls.loadGlobal_builtin (by rw [I.ok.glob]; exact I.mod.glob.keeps I.bk) hms (by rw [I.ok.blt]; exact hb1.keeps I.bk) ((hb2 _ (by decide +kernel)).trans hbs) ⟨rfl, ?_⟩)
        refine wpAny_loadName_free I.ok.kind hkc hcl ⟨_, KX _ _ hcell, rfl⟩ ?_
        rw [har]
        obtain ⟨mL, hns, hloc⟩ := I.loc
        obtain ⟨u, ru, lk⟩ := hloc 0 self (.ref a) hN hv0 (.inl hka)
        obtain rfl : u = Value.ref a := ru
        have hm : mL self = some (.ref a) := by
          rcases lk with ⟨_, z⟩ | ⟨z, _⟩
          · exact z
          · rw [hka] at z; rcases z with z | z <;> cases z
        refine wpAny_loadName_local I.ok.kind hka hns hm ?_
        refine PySem.ks_wpAny_isType_cls hD1 hD2 ⟨rfl, ?_⟩
        refine PySem.ks_wpAny_call_super hD1 hD2 J.at_ J.cls (fun c' e' => ?_) (PySem.W.looks_mroIn KX so.sub) fun h1 hso k1 => ?_
        · have z := J.no
          unfold PySem.W.notCls at z
          rw [e'] at z
          exact Bool.noConfusion z
        have I1 : Inv X pins σ H ⟨h1, gg, dd, tt, os⟩ := I.kept (t' := tt) k1
        have KX1 := I1.kIn
        obtain ⟨of, hof, hofc⟩ : ∃ of, h1.get? f2 = some of ∧ of.cls = .type "function" := by
          have ht' : (X.K.lookup f2).map (·.cls) = some (.type "function") := so.ty
          cases z : X.K.lookup f2 with
          | none => rw [z] at ht'; cases ht'
          | some of => rw [z] at ht'; exact ⟨of, KX1 _ _ z, Option.some.inj ht'⟩
        have hsup := so.sup
        unfold PySem.W.ks_superIn at hsup
        rw [hcC] at hsup
        refine PySem.ks_wpAny_getMethod_super hso (PySem.W.looks_opaque KX1 so.any) (l₀ := cdC.mro) (fun A Q E s k q => wpAny_bind ((PySem.W.looks_clsIn KX1 hcC) A _ E s k (wpAny_pure q))) rfl KX1 hsup hof hofc (PySem.W.ks_ne KX J hcC) (by decide) ?_
        have k2 : ∀ b o, h1.get? b = some o → (h1.push (PySem.W.methodObj (.ref f2) (.ref a))).get? b = some o := fun b o e => Heap.get?_push_of_some _ e
        have I2 : Inv X pins σ H ⟨h1.push (PySem.W.methodObj (.ref f2) (.ref a)), gg, dd, tt + 1, os⟩ := I1.kept (t' := tt + 1) k2
        have hq : (h1.push (PySem.W.methodObj (.ref f2) (.ref a))).get? h1.objs.size = some (PySem.W.methodObj (.ref f2) (.ref a)) := Heap.get?_push_size _ rfl
        have I3 : Inv X (pins ++ pinsAt [h1.objs.size] (h1.push (PySem.W.methodObj (.ref f2) (.ref a)))) σ H ⟨h1.push (PySem.W.methodObj (.ref f2) (.ref a)), gg, dd, tt + 1, os⟩ := I2.pinned (fp := [h1.objs.size]) (fun b hb => by
          rw [List.mem_singleton.mp hb]
          have F0 := I1.fpOk (H' := H) (b := h1.objs.size) (Nat.le_refl _) (I1.hok.fresh (Nat.le_refl _))
          exact F0) fun b hb => by
          rw [List.mem_singleton.mp hb]
          exact ⟨_, hq, fun v z => by cases z⟩
        rw [hst]
        refine PySem.W.callWith_of (P := PySem.W.MethP X.K h1.objs.size f2 (.ref a)) (by show ((false || (backTo pos (starEach es X.env)).any (·.1)) || false) = false; rw [hpl]; rfl) (PySem.W.keeps_M so.fn) (Calls.evalArgs_plain ?_)
        have ha' := ha.run W tk en σ r1 H S _ (er.mono st1) o1 (Dn.bind d1) pos (pins ++ pinsAt [h1.objs.size] (h1.push (PySem.W.methodObj (.ref f2) (.ref a)))) _ I3
        rw [hst] at ha'
        refine thn ha' fun us s4 ⟨vs2, H4, I4, rv, ds, S4, r4, e4, st4, o4, k4, d4⟩ => ?_
        have pin := I4.pin (h1.objs.size, PySem.W.methodObj (.ref f2) (.ref a)) (List.mem_append_right _ (List.mem_append_right _ (mem_pinsAt (List.mem_singleton.mpr rfl) hq)))
        refine ⟨⟨pin.1, I4.kIn⟩, ?_⟩
        obtain ⟨hl, d4⟩ := dn_if d4
        have I5 : Inv X pins σ H4 s4 := I4.unpinned
        have rr : Vals (V.ref a :: vs2) (Value.ref a :: us) := .cons rfl rv
        have kk : VRs X.K r4 H4 (Q.D.ref n :: ds) (V.ref a :: vs2) := ⟨_, _, rfl, k1x.mono st4, k4⟩
        have hlen : (Value.ref a :: us).length = ps.length := by rw [← rr.length, ← kk.length]; exact hl
        have bnd : BindsTo s4 fd2 ⟨Value.ref a :: us, []⟩ (ps.zip (Value.ref a :: us)) := by
          have z := hb s4 (Value.ref a :: us) I5.kIn (by rw [List.append_nil]; exact hlen)
          rw [List.append_nil] at z
          exact z
        have go := F.run X.A X.stack s4 H4 ⟨Value.ref a :: us, []⟩ (Value.ref a :: us) (V.ref a :: vs2) r4 (Q.D.ref n :: ds) S4 _ (WE W σ) g.room g.gd I5.env0 bnd rr hl kk o4 d4
        refine wpAny_call (PySem.ks_codeAny_call_bound pin.1 (codeAny_mono go fun res s' hq => ?_))
        match res, hq with
        | .error e, hq => exact tk e s' (XE.of_call I5 (fun _ _ _ h => h) hq)
        | .ok (.ret u), hq =>
          obtain ⟨v, H', I', rv', a', S', r', e', s6, o6, k6, er6, d6⟩ := I5.after hq
          exact ⟨σ, H', I', DnS.nx_here d6 o6 er6⟩
        | .ok .next, hq => exact hq.elim
        | .ok .brk, hq => exact hq.elim
        | .ok .cont, hq => exact hq.elim
end
/-! ### a def whose class stands in a cell -/
abbrev clsCl (cc : Addr) : List (Str × Addr) := [(("__class__" : Str), cc)]
theorem lookup_cls {cc c : Addr} {y : Str} (h : (clsCl cc).lookup y = some c) : y = "__class__" ∧ c = cc := by
  unfold clsCl at h
  rw [List.lookup_cons] at h
  cases q : y == ("__class__" : Str) with
  | true => rw [q] at h; exact ⟨eq_of_beq q, (Option.some.inj h).symm⟩
  | false => rw [q] at h; cases h
section
variable {P : Program} {w : World} {K : PySem.W.Frag} {mg : Str → Option Value} {base : Heap}
theorem cells_cls {A : Around} {outer : List Env} {s : Shared} {H : Hp} {cc : Addr} {cl : Value} {cld : Option Addr} {csl : Array (Option Value)} {v : Option Value} (e0 : Env0 P w K mg base A outer s H) (hc : K.lookup cc = some ⟨cl, cld, .cell v, csl⟩) : CellsAt (clsCl cc) ["__class__"] [none] s.heap H := by
  have b := e0.mod.kin _ _ hc
  have c1 : s.heap.IsCell cc v := ⟨_, (e0.bs _ _ b).1, rfl⟩
  refine ⟨rfl, fun y c e => ?_, fun x y c e1 e2 => (lookup_cls e1).1.trans (lookup_cls e2).1.symm, fun i y e => ?_⟩
  · rw [(lookup_cls e).2]
    exact ⟨(e0.bs _ _ b).2, v, c1⟩
  · cases i with
    | zero =>
      cases e
      exact ⟨cc, by show List.lookup _ _ = _; rw [List.lookup_cons, beq_self_eq_true], fun v hv => by cases hv⟩
    | succ i => cases e
theorem startF_none {N : List Str} {vs : List V} (h : vs.length + 1 ≤ N.length) : startF N vs [none] = L2.start N vs := by
  unfold startF L2.start
  have : N.length - vs.length = (N.length - vs.length - [(none : Option V)].length) + 1 := by simp; omega
  rw [this, List.replicate_succ]
  rfl
abbrev ncM (P : Program) (w : World) (K : PySem.W.Frag) (mg : Str → Option Value) (base : Heap) (N : List Str) (F : NF) (f : Addr) (A : Around) (outer : List Env) (s : Shared) (H : Hp) (E : XK) : Cx := ncx (CX P w) P w K mg base N F f A outer s H E
theorem takes_ncM {N : List Str} {F : NF} {f : Addr} {A : Around} {outer : List Env} {s : Shared} {H : Hp} {E : XK} : Takes (ncM P w K mg base N F f A outer s H E) (fun c x _ H' => E c x H') := takes_of rfl rfl rfl rfl
theorem owns_ncM {N : List Str} {F : NF} {f : Addr} {A : Around} {outer : List Env} {s : Shared} {H : Hp} {E : XK} : PassesOwn (model P w) (ncM P w K mg base N F f A outer s H E).A (ncM P w K mg base N F f A outer s H E).env (ncM P w K mg base N F f A outer s H E).xe := passes_of (X := ncM P w K mg base N F f A outer s H E) rfl
theorem fnM_ofSup {k : Nat} {f cda cc : Addr} {x qual : Str} {params : Arguments} {body : List Stmt} {scope : Scope} {dV kV doc pm ct oc cl : Value} {an od cld : Option Addr} {osl csl : Array (Option Value)} {v : Option Value} {N ps : List Str} {m : MS}
    (lk : K.lookup f = some ⟨oc, od, .func (PySem.W.fnX x qual params body scope (clsCl cc) dV kV doc pm an (.ref cda) ct), osl⟩) (hcd : PySem.W.codeIn K (.ref cda) qual = true) (hc : K.lookup cc = some ⟨cl, cld, .cell v, csl⟩) (Sc : NScope N ps ["__class__"] scope)
    (hbody : ∀ (A : Around) (outer : List Env) (s : Shared) (H : Hp) (E : XK), Gd (ncM P w K mg base N ⟨x, qual, params, body, scope, clsCl cc, cda⟩ f A outer s H E) k → PassesOwn (model P w) (ncM P w K mg base N ⟨x, qual, params, body, scope, clsCl cc, cda⟩ f A outer s H E).A (ncM P w K mg base N ⟨x, qual, params, body, scope, clsCl cc, cda⟩ f A outer s H E).env (ncM P w K mg base N ⟨x, qual, params, body, scope, clsCl cc, cda⟩ f A outer s H E).xe →
      SndB (ncM P w K mg base N ⟨x, qual, params, body, scope, clsCl cc, cda⟩ f A outer s H E) (.func body (ncM P w K mg base N ⟨x, qual, params, body, scope, clsCl cc, cda⟩ f A outer s H E).env) body m) :
    FnM P w K mg base (k + 1) f (PySem.W.fnX x qual params body scope (clsCl cc) dV kV doc pm an (.ref cda) ct) ps (mDef N.length m) := by
  constructor
  intro A outer s H args us vs r ds S Q E room gds e0 bnd rel hlen hrel ro dn
  have hKs : K.In s.heap := e0.mod.kin.keeps fun b o q => (e0.bs b o q).1
  have lim : s.heap.NoLimit := e0.mod.nolimit.keeps fun b o e => (e0.bs b o e).1
  have hl : vs.length = ps.length := hrel.length.symm.trans hlen
  have hN : vs.length + 1 ≤ N.length := by
    have q := congrArg List.length Sc.pre
    rw [List.length_take, List.length_append] at q
    rw [hl]
    have : ([("__class__" : Str)]).length = 1 := rfl
    omega
  refine codeAny_call_function room.depth (hKs _ _ lk) rfl Sc.co Sc.gen rfl (PySem.W.codeRec_of hKs hcd) (bnd _ _ _ _ ?_)
  refine wpAny_newFunctionEnv Sc.nocell (fun ⟨n, _⟩ hy => Sc.par n (List.of_mem_zip hy).1) (fun h₁ hns hsb => ⟨lim.fresh _ hsb, ?_⟩) Sc.kind
  have kp : ∀ b o, s.heap.get? b = some o → h₁.get? b = some o := fun b o e => hsb.extBut b o (Nat.ne_of_lt (Heap.lt_size e)) (Heap.get?_push_of_some _ e)
  have gd : Gd (ncM P w K mg base N ⟨x, qual, params, body, scope, clsCl cc, cda⟩ f A outer s H E) k := ⟨rfl, room.deeper _, gds⟩
  have inv : Inv (ncM P w K mg base N ⟨x, qual, params, body, scope, clsCl cc, cda⟩ f A outer s H E) [] (startF N vs [none]) H { s with heap := h₁, toks := s.toks + (ps.zip us).length } := inv_startN Sc room.hd e0 hl rel (cells_cls e0 hc) hns kp
  rw [startF_none hN] at inv
  have run := (hbody A outer s H E gd owns_ncM).run _ takes_ncM (startE N.length ds) (L2.start N vs) r H S _ (ER.start N hrel) ro (DnS.of_end dn) [] _ inv
  show codeAny _ _ (.func body (envF ⟨x, qual, params, body, scope, clsCl cc, cda⟩ f s.heap.objs.size)) _ _
  refine PySem.ks_codeAny_funcAt (PySem.wpAt_mono run (fun fl s' hs => ?_) fun e s' hs => hs)
  have back : ∀ {σ' : L2.St} {H' : Hp} {v : V} {u : Value}, Inv (ncM P w K mg base N ⟨x, qual, params, body, scope, clsCl cc, cda⟩ f A outer s H E) [] σ' H' s' → RelV v u → Q v H' → CE outer P w H s Q u s' := fun {σ' H' v u} J rv q => ⟨v, H', J.os, J.bare, J.base, J.hok, rv, q⟩
  match fl, hs with
  | .ret u, ⟨v, σ', H', J, rv, q⟩ => exact back J rv q
  | .next, ⟨σ', H', J, q⟩ => exact back (v := V.non) (u := Value.none) J rfl q
  | .brk, ⟨_, _, _, q⟩ => exact q.elim
  | .cont, ⟨_, _, _, q⟩ => exact q.elim
end
end Q

namespace Q
open PySem PySem.Spec PyProof.Rows L2
/-! ### a lambda without parameters, handed to a def that calls it -/
abbrev Thk := Store → Res D
/-- a def that is handed a thunk; the address stands for the thunk's own object -/
abbrev MFT := Addr → Thk → Store → Res D
def mThk (f : Addr) (T : Thk) : ME := fun en S => match (en[0]? : Option (Option D)) with
  | some (some (D.adr g)) => if g = f then T S else .bad
  | _ => .bad
def mDefT (n : Nat) (m : Addr → Thk → MS) : MFT := fun f T S => endM (m f T (startE n [.adr f]) S)
/-- the tables that a store holds -/
def tabsOf (S : Store) : List (Addr × Str) := S.filterMap fun o => match o with | .tab P q => some (P, q) | _ => none
theorem tabsOf_mem {S : Store} {p : Addr × Str} (h : p ∈ tabsOf S) : ∃ n : Nat, S[n]? = some (.tab p.1 p.2) := by
  obtain ⟨o, ho, e⟩ := List.mem_filterMap.mp h
  obtain ⟨n, hn⟩ := List.getElem?_of_mem ho
  cases o with
  | tab P q => cases e; exact ⟨n, hn⟩
  | _ => cases e
theorem tabsOf_of {S : Store} {n : Nat} {P : Addr} {q : Str} (h : S[n]? = some (.tab P q)) : (P, q) ∈ tabsOf S :=
  List.mem_filterMap.mpr ⟨_, List.mem_of_getElem? h, rfl⟩
/-- more is known -/
theorem Dn.weak {G G' : Ghost} {K : PySem.W.Frag} {r : List Addr} {H : Hp} {α β : Type} {R : List Addr → Hp → α → β → Prop} {m : Res α} {Q : β → Hp → Prop} {W : XK} (w : ∀ r' H' S', @ROk G' K r' H' S' → @ROk G K r' H' S') (h : @Dn G K r H α β R m Q W) : @Dn G' K r H α β R m Q W := by
  cases m with
  | ok a S => exact fun r' H' v s o k => h r' H' v s (w _ _ _ o) k
  | err C n S => exact fun r' H' x s o k => h r' H' x s (w _ _ _ o) k
  | bad => exact h
/-- behind (r0, H0) -/
@[reducible] def Ghost.behind (G : Ghost) (r0 : List Addr) (H0 : Hp) : Ghost := ⟨fun r H => G.P r H ∧ Stp r0 H0 r H, fun s h => ⟨G.mono s h.1, h.2.trans s⟩⟩
theorem ROk.up {G : Ghost} {K : PySem.W.Frag} {r0 r : List Addr} {H0 H : Hp} {S : Store} (h : @ROk (G.behind r0 H0) K r H S) : @ROk G K r H S := @ROk.mk G K r H S (@ROk.sys (G.behind r0 H0) K r H S h) (@ROk.len (G.behind r0 H0) K r H S h) (@ROk.nd (G.behind r0 H0) K r H S h) (@ROk.ob (G.behind r0 H0) K r H S h) (@ROk.gh (G.behind r0 H0) K r H S h).1
theorem ROk.down {G : Ghost} {K : PySem.W.Frag} {r : List Addr} {H : Hp} {S : Store} (h : @ROk G K r H S) : @ROk (G.behind r H) K r H S := @ROk.mk (G.behind r H) K r H S (@ROk.sys G K r H S h) (@ROk.len G K r H S h) (@ROk.nd G K r H S h) (@ROk.ob G K r H S h) ⟨@ROk.gh G K r H S h, Stp.refl _ _⟩
/-- only tables have grown -/
theorem Stp.extN {r : List Addr} {H H1 : Hp} (e : LamX.ExtN H H1) : Stp r H r H1 :=
  ⟨fun _ _ h => h, fun a xs h => e _ _ h (fun ps z => by cases z), fun a o u h => e _ _ h (fun ps z => by cases z), fun a q h => e _ _ h (fun ps z => by cases z)⟩
theorem ROk.extN [G : Ghost] {K : PySem.W.Frag} {r : List Addr} {H H1 : Hp} {S : Store} (h : ROk K r H S) (e : LamX.ExtN H H1) (t : LamX.Tabs (tabsOf S) H1) : ROk K r H1 S where
  sys := h.sys.mono (Stp.extN (r := r) e)
  gh := Ghost.mono (Stp.extN e) h.gh
  len := h.len
  nd := h.nd
  ob := fun n o a e1 e2 => by
    have q := h.ob n o a e1 e2
    cases o with
    | tab P x => exact ⟨q.1, t (P, x) (tabsOf_of e1)⟩
    | lst xs => obtain ⟨vs, h1, _⟩ := q; exact (h.ob n _ a e1 e2).mono (Stp.extN e) ((e _ _ h1 (fun ps z => by cases z)).trans h1.symm)
    | dct xs => obtain ⟨vs, h1, _⟩ := q; exact (h.ob n _ a e1 e2).mono (Stp.extN e) ((e _ _ h1 (fun ps z => by cases z)).trans h1.symm)
    | dcT xs => obtain ⟨vs, h1, _⟩ := q; exact (h.ob n _ a e1 e2).mono (Stp.extN e) ((e _ _ h1 (fun ps z => by cases z)).trans h1.symm)
    | lkT xs => obtain ⟨x, u, h1, _⟩ := q; exact (h.ob n _ a e1 e2).mono (Stp.extN e) ((e _ _ h1 (fun ps z => by cases z)).trans h1.symm)
    | ins C xs => obtain ⟨dx, vs, h1, _⟩ := q; exact (h.ob n _ a e1 e2).mono (Stp.extN e) ((e _ _ h1 (fun ps z => by cases z)).trans h1.symm)
    | xd xs => obtain ⟨vs, h1, _⟩ := q; exact (h.ob n _ a e1 e2).mono (Stp.extN e) ((e _ _ h1 (fun ps z => by cases z)).trans h1.symm)
theorem ROk.tabs [G : Ghost] {K : PySem.W.Frag} {r : List Addr} {H : Hp} {S : Store} (h : ROk K r H S) : LamX.Tabs (tabsOf S) H := fun p hp => by
  obtain ⟨n, hn⟩ := tabsOf_mem hp
  obtain ⟨a, ha, e, q⟩ := h.at hn
  exact q
theorem ROk.tab_one [G : Ghost] {K : PySem.W.Frag} {r : List Addr} {H : Hp} {S : Store} (h : ROk K r H S) {j : Nat} {P : Addr} {q : Str} (hj : S[j]? = some (.tab P q)) : ∀ p ∈ tabsOf S, p.1 = P → p.2 = q := fun p hp e => by
  obtain ⟨n, hn⟩ := tabsOf_mem hp
  obtain ⟨a, ha, e1, _⟩ := h.at hn
  obtain ⟨b, hb, e2, _⟩ := h.at hj
  have e3 : a = b := by rw [e1, e2, e]
  rw [e3] at ha
  obtain ⟨l1, q1⟩ := List.getElem?_eq_some_iff.mp ha
  obtain ⟨l2, q2⟩ := List.getElem?_eq_some_iff.mp hb
  have := (List.getElem_inj h.nd).mp (q1.trans q2.symm)
  subst this
  rw [hn] at hj
  injection hj with hj
  injection hj
end Q

namespace Q
open PySem PySem.Spec PyProof.Rows L2
section
variable {X : Cx}
theorem takes_lam {A : Around} {outer : List Env} {s : Shared} {H : Hp} {E : XK} {scope : Scope} {f c' : Addr} : Takes (LamX.lamCx X A outer s H E scope f c') (fun c x _ H' => E c x H') := takes_of rfl rfl rfl rfl
theorem owns_lam {A : Around} {outer : List Env} {s : Shared} {H : Hp} {E : XK} {scope : Scope} {f c' : Addr} : PassesOwn (model X.prog X.w) (LamX.lamCx X A outer s H E scope f c').A (LamX.lamCx X A outer s H E scope f c').env (LamX.lamCx X A outer s H E scope f c').xe := passes_of (X := LamX.lamCx X A outer s H E scope f c') rfl
end
end Q

namespace Q
open PySem PySem.Spec PyProof.Rows L2
/-- a def that is handed a thunk keeps its mirror: k, the level of what it calls -/
structure FnT (P : Program) (w : World) (K : PySem.W.Frag) (mg : Str → Option Value) (base : Heap) (k : Nat) (g : Addr) (x : Str) (bg : List Stmt) (sg : Scope) (Ng : List Str) (a : Str) (m : Addr → Thk → MS) : Prop where
  run : ∀ (G : Ghost) (cd : Value) (A : Around) (outer : List Env) (s : Shared) (H : Hp) (E : XK) (f : Addr) (T : Thk), Gd (cxM P w K mg base Ng x sg g cd A outer s H E) k →
    PassesOwn (model P w) (cxM P w K mg base Ng x sg g cd A outer s H E).A (cxM P w K mg base Ng x sg g cd A outer s H E).env (cxM P w K mg base Ng x sg g cd A outer s H E).xe →
    (∀ (pn : List (Addr × Obj)) (xe : Value → Shared → Prop) (p1 p2 : Pos), @SndE G ((cxM P w K mg base Ng x sg g cd A outer s H E).tr pn xe) (.Call (.Name a p1) [] [] p2) (mThk f T)) →
    @SndSs G (cxM P w K mg base Ng x sg g cd A outer s H E) bg (m f T)
section
variable {X : Cx}
end
end Q

namespace Q
open PySem PySem.Spec PyProof.Rows L2
/-- the store that holds the tables of these codes: code, table, the name of the codes in it -/
def tabS0 (ts : List (Addr × Addr × Str)) : Store := ts.map fun t => .tab t.2.1 t.2.2
open Classical in
/-- law_M, with tables of code objects -/
theorem law_MT {P : Program} {w : World} {K : PySem.W.Frag} {mg mb : Str → Option Value} {k : Nat} {fa a : Addr} {fd : FuncData} {x : Str} {M : MF} {s1 : Shared} {vs : List Value} {ns : List Int} {ts : List (Addr × Addr × Str)}
    (KX : K.In s1.heap) (hns : s1.heap.Ns mainGlobals mg) (hb : s1.heap.Ns builtinsNs mb) (hbb : ∀ x : Str, x ≠ "__name__" → mb x = bootBuiltins x) (hlim : s1.heap.NoLimit) (hg : s1.gens = #[])
    (hT : ∀ t ∈ ts, s1.heap.get? t.2.1 = some { cls := .none, data := .fields #[] }) (nT : ∀ t ∈ ts, K.lookup t.2.1 = none) (C : ∀ t ∈ ts, PySem.W.CodeHd s1.heap t.1 t.2.1) (ndT : (ts.map (·.2.1)).Nodup)
    (hbm : ∃ (bm : Addr) (ob : Obj), mg "__builtins__" = some (.ref bm) ∧ bm ≠ builtinsNs ∧ s1.heap.get? bm = some ob ∧ ob.cls = .type "module" ∧ ob.dict = some builtinsNs ∧ ob.data = .plain)
    (ha : s1.heap.get? a = some { cls := .type "list", data := .seq vs.toArray }) (hi : IntsAre vs ns) (hl : ns.length ≤ sizeLine) (hr : Room k callerA)
    (F : ∀ base : Heap, K.In base → base.Ns mainGlobals mg → (∀ t ∈ ts, LamX.TabB base mg t.1 t.2.1) → FnM P w K mg base k fa fd [x] M) (hbind : ∀ (s : Shared) (u : Value), BindsTo s fd ⟨[u], []⟩ [(x, u)])
    (hM : ∃ S', M [.kl (ns.map D.int)] (tabS0 ts) = .ok (.bl true) S') (hsys : ∃ o es ep, s1.heap.get? sysModules = some o ∧ o.data = .dict es ep) :
    codeAny (model P w) callerA (.call (.ref fa) ⟨[.ref a], []⟩) (fun r s' => r = .ok (.ret (.bool true)) ∧ OldK s1.heap s'.heap ∧ s'.os = s1.os ∧ AllBare s'.gens) s1 := by
  have rv := vals_ints hi
  have lenV := hi.length
  obtain ⟨S', hM⟩ := hM
  have kvs : ∀ (r : List Addr) (H : Hp) (l : List Int), VRs K r H (l.map D.int) (l.map V.int) := by
    intro r H l
    induction l with
    | nil => rfl
    | cons i l ih => exact ⟨.int i, _, rfl, rfl, ih⟩
  obtain ⟨oY, eY, pY, hY, dY⟩ := hsys
  let Ps := ts.map (·.2.1)
  have isT : ∀ b : Addr, b ∈ Ps → s1.heap.get? b = some { cls := .none, data := .fields #[] } ∧ K.lookup b = none := fun b hb => by
    obtain ⟨p, hp, e⟩ := List.mem_map.mp hb
    rw [← e]
    exact ⟨hT p hp, nT p hp⟩
  have memT : ∀ t ∈ ts, t.2.1 ∈ Ps := fun t ht => List.mem_map.mpr ⟨t, ht, rfl⟩
  have aS : a ≠ sysModules := fun e => by
    rw [← e, ha] at hY
    cases hY
    cases dY
  have aP : a ∉ Ps := fun z => by
    have q := (isT a z).1
    rw [ha] at q
    have z' : Data.seq vs.toArray _ = Data.fields #[] := congrArg Obj.data (Option.some.inj q)
    cases z'
  have sP : sysModules ∉ Ps := fun z => by
    have q := (isT _ z).1
    rw [hY] at q
    have z' : oY.data = Data.fields #[] := congrArg Obj.data (Option.some.inj q)
    rw [dY] at z'
    cases z'
  let fA : HO := .frz { cls := .type "list", data := .seq vs.toArray } (.lst (ns.map V.int))
  let fY : HO := .frz oY (.own 0)
  let H : Hp := fun b => if b ∈ Ps then some (.tbl #[]) else if b = a then (if K.lookup a = none then some fA else none) else if b = sysModules then (if K.lookup sysModules = none then some fY else none) else none
  have HP : ∀ b, b ∈ Ps → H b = some (.tbl #[]) := fun b h => if_pos h
  have HA : H a = if K.lookup a = none then some fA else none := (if_neg aP).trans (if_pos rfl)
  have HY : H sysModules = if K.lookup sysModules = none then some fY else none := (if_neg sP).trans ((if_neg (Ne.symm aS)).trans (if_pos rfl))
  have HN : ∀ b, b ∉ Ps → b ≠ a → b ≠ sysModules → H b = none := fun b h1 h2 h3 => (if_neg h1).trans ((if_neg h2).trans (if_neg h3))
  have hcase : ∀ b u, H b = some u → (b ∈ Ps ∧ u = .tbl #[]) ∨ (b = a ∧ K.lookup a = none ∧ u = fA) ∨ (b = sysModules ∧ K.lookup sysModules = none ∧ u = fY) := fun b u e => by
    by_cases h1 : b ∈ Ps
    · rw [HP b h1] at e; cases e; exact .inl ⟨h1, rfl⟩
    · by_cases h2 : b = a
      · subst h2
        rw [HA] at e
        by_cases hk : K.lookup b = none
        · rw [if_pos hk] at e; cases e; exact .inr (.inl ⟨rfl, hk, rfl⟩)
        · rw [if_neg hk] at e; cases e
      · by_cases h3 : b = sysModules
        · subst h3
          rw [HY] at e
          by_cases hk : K.lookup sysModules = none
          · rw [if_pos hk] at e; cases e; exact .inr (.inr ⟨rfl, hk, rfl⟩)
          · rw [if_neg hk] at e; cases e
        · rw [HN b h1 h2 h3] at e; cases e
  have hsy : SysOk K H := by
    cases q : K.lookup sysModules with
    | none => exact .inr ⟨oY, _, eY, pY, by rw [HY, if_pos q], dY⟩
    | some o =>
      have e := KX _ o q
      rw [hY] at e
      cases e
      exact .inl ⟨_, eY, pY, q, dY⟩
  have hS : SqF K H a (ns.map V.int) := by
    cases q : K.lookup a with
    | none => exact .inl ⟨_, by rw [HA, if_pos q]⟩
    | some o =>
      have e := KX a o q
      rw [ha] at e
      cases e
      exact .inr ⟨_, vs.toArray, _, q, rfl, rfl, rfl, by rw [List.size_toArray, lenV]; exact hl, by simpa using rv⟩
  have hok : HOk P w H s1.heap := fun b u e => by
    rcases hcase b u e with ⟨h1, rfl⟩ | ⟨rfl, _, rfl⟩ | ⟨rfl, _, rfl⟩
    · exact (isT b h1).1
    · exact ⟨ha, by rw [List.length_map]; exact hl, vs, _, rv, ha⟩
    · exact ⟨hY, oY, hY⟩
  have noD : ∀ {b : Addr} {o : Obj}, s1.heap.get? b = some o → (∀ vs n, o.data ≠ .seq vs n) → o.data ≠ .fields #[] → (b = sysModules → False) → H b = none := fun {b o} e h1 h2 h3 => by
    cases q : H b with
    | none => rfl
    | some u =>
      rcases hcase b u q with ⟨hm, _⟩ | ⟨rfl, _, _⟩ | ⟨rfl, _, _⟩
      · rw [(isT b hm).1] at e
        cases e
        exact (h2 rfl).elim
      · rw [ha] at e
        cases e
        exact (h1 _ _ rfl).elim
      · exact (h3 rfl).elim
  have dictNone : ∀ {b : Addr} {o : Obj} {es : Array DictEntry} {ep : Nat}, s1.heap.get? b = some o → o.data = .dict es ep → b ≠ sysModules → H b = none := by
    intro b o es ep e d hne
    exact noD e (fun vs n z => by rw [d] at z; cases z) (fun z => by rw [d] at z; cases z) hne
  have nsB : ∀ {b : Addr} {m : Str → Option Value}, b ≠ sysModules → s1.heap.Ns b m → (hidT s1.heap H).Ns b m := by
    rintro b m hne ⟨o, es, ep, e, d, q⟩
    exact ⟨o, es, ep, hidT_get e (dictNone e d hne), d, q⟩
  have kinB : K.In (hidT s1.heap H) := by
    intro b o e
    refine hidT_get (KX b o e) ?_
    cases q : H b with
    | none => rfl
    | some u =>
      rcases hcase b u q with ⟨hm, _⟩ | ⟨rfl, hk, _⟩ | ⟨rfl, hk, _⟩
      · rw [(isT b hm).2] at e; cases e
      · rw [hk] at e; cases e
      · rw [hk] at e; cases e
  have limB : (hidT s1.heap H).NoLimit := by
    obtain ⟨mc, h1, h2⟩ := hlim
    exact ⟨mc, nsB (by decide) h1, h2⟩
  have TB : ∀ t ∈ ts, LamX.TabB (hidT s1.heap H) mg t.1 t.2.1 := fun p hp => by
    have hTp := hT p hp
    have notSys : ∀ {b : Addr} {o : Obj}, s1.heap.get? b = some o → (∀ es ep, o.data ≠ .dict es ep) → b = sysModules → False := fun {b o} e h z => by
      rw [z, hY] at e
      cases e
      exact h _ _ dY
    refine ⟨?_, ?_, fun z => ?_⟩
    · obtain ⟨o, us, file, tf, flags, tg, inF, text, tt, e1, r1, r2, r3, r4, r5, r6, r7, r8, hne⟩ := C p hp
      refine ⟨o, us, file, tf, flags, tg, inF, text, tt, hidT_get e1 (noD e1 (fun vs n z => ?_) (fun z => ?_) (notSys e1 fun es ep z => ?_)), r1, r2, r3, r4, r5, r6, r7, r8, hne⟩
      · rw [r2] at z
        cases z
      · rw [r2] at z
        cases z
        simp at r3
      · rw [r2] at z
        cases z
    · obtain ⟨bm, ob, b1, b2, b3, b4, b5, b6⟩ := hbm
      have nG : bm ≠ mainGlobals := fun q => by
        obtain ⟨o, es, ep, e, hd, _⟩ := hns
        rw [q, e] at b3
        cases b3
        rw [hd] at b6
        cases b6
      have nP : bm ≠ p.2.1 := fun q => by
        rw [q, hTp] at b3
        cases b3
        cases b6
      refine ⟨bm, ob, b1, b2, nG, nP, hidT_get b3 (noD b3 (fun vs n z => ?_) (fun z => ?_) (notSys b3 fun es ep z => ?_)), b4, b5, b6⟩
      · rw [b6] at z
        cases z
      · rw [b6] at z
        cases z
      · rw [b6] at z
        cases z
    · obtain ⟨o, es, ep, e, hd, _⟩ := hns
      rw [z, hTp] at e
      cases e
      cases hd
  have e0 : Env0 P w K mg (hidT s1.heap H) callerA [] s1 H :=
    ⟨rfl, ⟨kinB, nsB (by decide) hns, ⟨mb, nsB (by decide) hb, hbb⟩, limB⟩, fun b o e => of_hidT e, Nat.le_of_eq (hidT_size _ _), trivial, fun b hm => (List.not_mem_nil (show b ∈ ([] : List Addr) from hm)).elim, hok, .of_eq hg⟩
  have ro : ROk K Ps H (tabS0 ts) := ⟨hsy, by unfold tabS0; rw [List.length_map, List.length_map], ndT, fun n o p e1 e2 => by
    unfold tabS0 at e1
    rw [List.getElem?_map] at e1
    obtain ⟨t, ht, rfl⟩ := Option.map_eq_some_iff.mp e1
    have e2 : (ts.map (·.2.1))[n]? = some p := e2
    rw [List.getElem?_map, ht] at e2
    have e3 : p = t.2.1 := (Option.some.inj e2).symm
    exact ⟨e3, LamX.TabS.nil (HP _ (memT t (List.mem_of_getElem? ht)))⟩, trivial⟩
  have arg : VRs K Ps H [.kl (ns.map D.int)] [.ref a] := ⟨.ref a, [], rfl, ⟨a, ns.map V.int, rfl, hS, kvs Ps H ns⟩, rfl⟩
  have dn : Dn K Ps H (VR K) (M [.kl (ns.map D.int)] (tabS0 ts)) (fun v _ => v = .bl true) (fun _ _ _ => False) := by
    rw [hM]
    exact fun r' H' v _ _ kv => kv
  refine codeAny_mono ((F _ kinB (nsB (by decide) hns) TB).run callerA [] s1 H ⟨[.ref a], []⟩ [.ref a] [.ref a] Ps _ (tabS0 ts) _ _ hr rfl e0 (hbind s1 (.ref a)) (.cons rfl .nil) rfl arg ro dn) ?_
  intro res s' h
  match res, h with
  | .error e, ⟨_, _, _, _, _, _, _, _, _, _, _, _, hE⟩ => exact hE.elim
  | .ok .next, h => exact h.elim
  | .ok .brk, h => exact h.elim
  | .ok .cont, h => exact h.elim
  | .ok (.ret u), ⟨v, H', os, bare, un, hok', rv', q⟩ =>
    have q : v = .bl true := q
    subst q
    obtain rfl : u = Value.bool true := rv'
    have key : ∀ b o, b ∉ Ps → s1.heap.get? b = some o → s'.heap.get? b = some o := fun b o nb e => by
      cases q : H b with
      | none => exact un.keep b o e q (List.not_mem_nil (a := b)) (List.not_mem_nil (a := b))
      | some u =>
        have hfr : ∃ ob xs, u = .frz ob xs := by
          rcases hcase b u q with ⟨hm, _⟩ | ⟨_, _, rfl⟩ | ⟨_, _, rfl⟩
          · exact absurd hm nb
          · exact ⟨_, _, rfl⟩
          · exact ⟨_, _, rfl⟩
        obtain ⟨ob, xs, rfl⟩ := hfr
        obtain ⟨e1, _⟩ := hok b _ q
        obtain ⟨e2, _⟩ := hok' b _ (un.frzs b ob _ q)
        rw [e] at e1
        cases e1
        exact e2
    have grown : ∀ t ∈ ts, ∃ more : Array Value, s'.heap.get? t.2.1 = some { cls := .none, data := .fields more } := fun t ht => by
      obtain ⟨more, z⟩ := un.tbls t.2.1 #[] (HP _ (memT t ht))
      exact ⟨_, hok' t.2.1 _ z⟩
    refine ⟨rfl, ⟨fun b o e => ?_, fun b o e => ?_⟩, os, bare⟩
    · by_cases hb : b ∈ Ps
      · obtain ⟨t, ht, ep⟩ := List.mem_map.mp hb
        obtain ⟨more, hm⟩ := grown t ht
        rw [← ep] at e ⊢
        rw [hT t ht] at e
        cases e
        exact .inr (.inl ⟨((C t ht).tab (hT t ht)).isCodeTable, rfl, #[], more, rfl, by rw [Array.empty_append]; exact hm⟩)
      · exact .inl (key b o hb e)
    · by_cases hb : b ∈ Ps
      · obtain ⟨t, ht, ep⟩ := List.mem_map.mp hb
        obtain ⟨more, hm⟩ := grown t ht
        rw [← ep]
        exact ⟨_, hm⟩
      · exact ⟨o, key b o hb e⟩
theorem walk_MT {l : PySem.W.OpenLaw} {n k : Nat} {q : Program} {loose : List Str} {XP : (Str → Option Value) → Heap → Prop} {YP : World → Heap → Prop} {d : DefRec} {x : Str}
    (hn : l.most = some n) (hn2 : n ≤ sizeLine) (hdf : d.params.defaults = []) (hr : Room k callerA) (hi : importsNone q = true)
    (F : ∀ (w : World) (mg : Str → Option Value) (fa : Addr) (h : Heap), YP w h → h.Ns mainGlobals mg → mg d.name = some (.ref fa) →
      ∃ (K : PySem.W.Frag) (fd : FuncData) (M : MF) (ts : List (Addr × Addr × Str)), K.In h ∧ (∀ t ∈ ts, h.get? t.2.1 = some { cls := .none, data := .fields #[] }) ∧ (∀ t ∈ ts, K.lookup t.2.1 = none) ∧ (∀ t ∈ ts, PySem.W.CodeHd h t.1 t.2.1) ∧ (ts.map (·.2.1)).Nodup ∧
        (∀ (s : Shared) (u : Value), BindsTo s fd ⟨[u], []⟩ [(x, u)]) ∧
        (∀ ns : List Int, ns.length ≤ n → (∀ z ∈ ns, Builtin.Int.intBits z ≤ 1048576) → ∃ S', M [.kl (ns.map D.int)] (tabS0 ts) = .ok (.bl true) S') ∧
        ∀ base : Heap, K.In base → base.Ns mainGlobals mg → (∀ t ∈ ts, LamX.TabB base mg t.1 t.2.1) → FnM l.prog w K mg base k fa fd [x] M) :
    PySem.W.WalkO q loose XP YP l.row.toRowW d [] (fun f vs => PySem.call f vs) := by
  refine Att.attach_callB hn hdf fun w s₀ s₁ mg mb fa o pm cd doc a vs ns G Y ho hd hcd hmg hobj hints hlen hbits hg => ?_
  obtain ⟨K, fd, M, ts, KX, hT, nT, C, nd, hb, hM, hF⟩ := F w mg fa _ Y G.T.g hmg
  exact law_MT KX G.T.g G.T.b G.T.builtins G.T.nolimit hg hT nT C nd G.T.bmain hobj hints (Nat.le_trans hlen hn2) hr hF hb (hM ns hlen hbits) (by
    obtain ⟨mm, ⟨o, es, ep, e1, e2, _⟩, _⟩ := (G.T.seer hi).mods
    exact ⟨o, es, ep, e1, e2⟩)
end Q

namespace Q
open PySem PySem.Spec PyProof.Rows L2
theorem FnT.mono {P : Program} {w : World} {K : PySem.W.Frag} {mg : Str → Option Value} {base : Heap} {j k : Nat} {g : Addr} {x : Str} {bg : List Stmt} {sg : Scope} {Ng : List Str} {a : Str} {m : Addr → Thk → MS} (F : FnT P w K mg base j g x bg sg Ng a m) (h : j ≤ k) : FnT P w K mg base k g x bg sg Ng a m :=
  ⟨fun G cd A outer s H E f T gd own act => F.run G cd A outer s H E f T (gd.mono h) own act⟩
section
variable [Gh : Ghost] {P : Program} {w : World} {K : PySem.W.Frag} {mg : Str → Option Value} {base : Heap}
/-- a def whose code is known by its place -/
theorem fnM_ofC {k : Nat} {f : Addr} {x qual : Str} {params : Arguments} {body : List Stmt} {scope : Scope} {N ps : List Str} {m : MS} {oc dV kV doc pm cdv ct : Value} {od an : Option Addr} {osl : Array (Option Value)}
    (lk : K.lookup f = some ⟨oc, od, .func (PySem.W.fnOf x qual params body scope dV kV doc pm an cdv ct), osl⟩) (hcd : PySem.W.codeIn K cdv qual = true) (Sc : FnScope N ps scope)
    (hbody : ∀ (A : Around) (outer : List Env) (s : Shared) (H : Hp) (E : XK), Gd (cxM P w K mg base N qual scope f cdv A outer s H E) k → PassesOwn (model P w) (cxM P w K mg base N qual scope f cdv A outer s H E).A (cxM P w K mg base N qual scope f cdv A outer s H E).env (cxM P w K mg base N qual scope f cdv A outer s H E).xe →
      SndSs (cxM P w K mg base N qual scope f cdv A outer s H E) body m) : FnM P w K mg base (k + 1) f (PySem.W.fnOf x qual params body scope dV kV doc pm an cdv ct) ps (mDef N.length m) := by
  constructor
  intro A outer s H args us vs r ds S Q E room gds e0 bnd rel hlen hrel ro dn
  refine LamX.run_ofS (CX := L2.CX P w) lk hcd Sc room e0 bnd rel (hrel.length.symm.trans hlen) fun hr' => ?_
  refine ⟨fun D σ' H' => wSs (cxM P w K mg base N qual scope f cdv A outer s H E) body D σ' H', ⟨fun pins s σ H D I h => h pins s I⟩, ?_⟩
  exact (hbody A outer s H E ⟨rfl, hr', gds⟩ owns_cxM).run _ takes_cxM (startE N.length ds) (L2.start N vs) r H S _ (ER.start N hrel) ro (DnS.of_end dn)
end
section
variable {X : Cx}
end
end Q

namespace Q
open PySem PySem.Spec PyProof.Rows L2
/-! ### what is wished of the further operations -/
section
variable {en : En} {S : Store} {E : EK} {P : D → Store → Prop} {N : En → Store → Prop} {R : D → Store → Prop} {B C : En → Store → Prop} {X : XKs}
theorem lstD_at {n : Nat} {xs : List D} (h : S[n]? = some (.lst xs)) : lstD (.ref n) S = some xs := by
  unfold lstD
  dsimp only
  rw [h]
end
end Q

namespace Q
open PySem PySem.Spec PyProof.Rows L2
/-! ### sorted(..) in plain words -/
section
variable {S : Store} {P : D → Store → Prop} {α : Type}
theorem vec_le (a b : List Int) : decide (a ≤ b) = PySem.W.dataLe false (fun v : List Int => PyData.tuple (v.map PyData.int)) a b := by
  have h := congrFun (congrFun (PySem.W.dataLe_rows (β := List Int) id) a) b
  refine h.symm.trans ?_
  rw [PySem.W.dataLe_eq, PySem.W.dataLe_eq]
  show (!PySem.W.dataLt _ _) = (!PySem.W.dataLt _ _)
  rw [PySem.W.dataLt_list, PySem.W.dataLt_tuple]
  rfl
end
end Q

namespace Q
open PySem PySem.Spec PyProof.Rows L2
/-! ### a lambda handed on, within the mirror -/
variable {S : Store} {P : D → Store → Prop} {E : EK} {en : En}
/-- the def's answer d0 and the store U0 behind it, whatever the thunk's address -/
def Ans (n : Nat) (m : Addr → Thk → MS) (S : Store) (R : Res D) (d0 : D) (U0 : Store) : Prop :=
  ∀ (f : Addr) (T : Thk), T S = R → wpS (m f T (startE n [.adr f]) S) (fun _ V => D.non = d0 ∧ V = U0) (fun z V => z = d0 ∧ V = U0) (fun _ _ => False) (fun _ _ => False) (fun _ _ _ _ => False)
theorem Ans.eq {n : Nat} {m : Addr → Thk → MS} {R : Res D} {d0 : D} {U0 : Store} (h : Ans n m S R d0 U0) (f : Addr) {T : Thk} (hT : T S = R) : mDefT n m f T S = .ok d0 U0 := by
  have w := h f T hT
  unfold mDefT
  cases q : m f T (startE n [.adr f]) S with
  | nx e V => rw [q] at w; obtain ⟨a, b⟩ := w; show Res.ok D.non V = _; rw [a, b]
  | rt d V => rw [q] at w; obtain ⟨a, b⟩ := w; show Res.ok d V = _; rw [a, b]
  | bk e V => rw [q] at w; exact w.elim
  | ct e V => rw [q] at w; exact w.elim
  | err c k e V => rw [q] at w; exact w.elim
  | bad => rw [q] at w; exact w.elim
/-- the thunk, within the def that got it -/
theorem wpE_thk {f : Addr} {T : Thk} {R : Res D} (h0 : (en[0]? : Option (Option D)) = some (some (.adr f))) (hT : T S = R) (h : wpE R P E) : wpE (mThk f T en S) P E := by
  unfold mThk
  rw [h0]
  show wpE (if f = f then T S else .bad) P E
  rw [if_pos rfl, hT]
  exact h
end Q

namespace Q
open PySem PySem.Spec PyProof.Rows L2
/-! ### lists or tuples, by their items -/
section
variable {en : En} {S T : Store} {E : EK} {P : D → Store → Prop} {d : D} {xs : List D}
theorem items_kp (k : Kp S T) (h : itemsD d S = some xs) : itemsD d T = some xs := by
  cases d with
  | tup ys => exact h
  | kl ys => exact h
  | ref n =>
    unfold itemsD at h ⊢
    dsimp only at h ⊢
    cases q : S[n]? with
    | none => rw [q] at h; cases h
    | some o => rw [q] at h; rw [k _ _ q]; exact h
  | _ => cases h
theorem items_ref {n : Nat} (h : S[n]? = some (.lst xs)) : itemsD (.ref n) S = some xs := by unfold itemsD; dsimp only; rw [h]
theorem items_inv {n : Nat} (h : itemsD (.ref n) S = some xs) : S[n]? = some (.lst xs) := by
  unfold itemsD at h
  dsimp only at h
  split at h
  · rename_i q; cases h; exact q
  · cases h
theorem dct_items (h : itemsD d S = some xs) : dctD d S = none := by
  cases d with
  | ref n =>
    have := items_inv h
    unfold dctD
    dsimp only
    rw [this]
  | _ => rfl
theorem item_items {i : Int} (h : itemsD d S = some xs) : itemD d (.int i) S = L2.atI xs i := by
  cases d with
  | tup ys => cases h; rfl
  | kl ys => cases h; rfl
  | ref n =>
    have := items_inv h
    unfold itemD
    dsimp only
    rw [this]
  | _ => cases h
theorem wpO_subs {i : Int} {z : D} (h : itemsD d S = some xs) (h0 : L2.atI xs i = some z) (q : P z S) : wpO (gSubs d (.int i) S) P := by
  refine wpO_of ?_ q
  unfold gSubs subD
  rw [dct_items h]
  show (itemD d (.int i) S).map _ = _
  rw [item_items h, h0]
  rfl
theorem wpO_subN {i : Nat} {z : D} (h : itemsD d S = some xs) (h0 : xs[i]? = some z) (q : P z S) : wpO (gSubs d (.int ((i : Nat) : Int)) S) P := wpO_subs h (L2.atI_nat h0) q
theorem wpO_len (h : itemsD d S = some xs) (q : P (.int ((xs.length : Nat) : Int)) S) : wpO (gLen d S) P := by
  cases d with
  | tup ys => cases h; exact wpO_lenT q
  | kl ys => cases h; exact q
  | ref n => exact wpO_lenL (items_inv h) q
  | _ => cases h
theorem wpO_tuple (h : itemsD d S = some xs) (q : P (.tup xs) S) : wpO (gTuple d S) P := wpO_of (by unfold gTuple; rw [h]; rfl) q
end
theorem itD_items {S : Store} {d : D} {xs : List D} (h1 : itemsD d S = some xs) : ∃ mi, itD d S = some mi ∧ ∀ U, itemsD d U = some xs → ∀ i, nextM mi i U = some xs[i]? := by
  cases d with
  | tup ys => cases h1; exact ⟨_, rfl, fun U _ i => rfl⟩
  | kl ys => cases h1; exact ⟨_, rfl, fun U _ i => rfl⟩
  | ref n => exact ⟨_, itD_ref (items_inv h1), fun U hU i => by
      have := items_inv hU
      unfold nextM
      rw [this]⟩
  | _ => cases h1
theorem wpE_enuI {en : En} {S : Store} {E : EK} {m : MA} {Q : MI → Store → Prop} (h : wpE (m en S) (fun ds T => ∃ d xs, ds = [d] ∧ itemsD d T = some xs ∧ ∀ mi, (∀ U, itemsD d U = some xs → ∀ i, nextM mi i U = some (xs.mapIdx fun k z => D.tup [.int ((k : Nat) : Int), z])[i]?) → Q mi T) E) : wpE (mIt m (enuD 0) en S) Q E := by
  refine wpE_bind (wpE_mono h (fun ds T ⟨d, xs, e, h1, h2⟩ => ?_) fun _ _ _ q => q)
  subst e
  obtain ⟨mi, h3, h4⟩ := itD_items h1
  have e : enuD 0 [d] T = some (.enu 0 mi) := by unfold enuD; dsimp only; rw [h3]; rfl
  rw [e]
  refine h2 _ fun U hU i => ?_
  rw [List.getElem?_mapIdx]
  show (nextM mi i U).map _ = _
  rw [h4 U hU]
  simp
theorem wpE_zipI {en : En} {S : Store} {E : EK} {m : MA} {Q : MI → Store → Prop} (h : wpE (m en S) (fun ds T => ∃ d e xs ys, ds = [d, e] ∧ itemsD d T = some xs ∧ itemsD e T = some ys ∧ ∀ mi, (∀ U, itemsD d U = some xs → itemsD e U = some ys → ∀ i, nextM mi i U = some (List.zipWith (fun a b => D.tup [a, b]) xs ys)[i]?) → Q mi T) E) : wpE (mIt m zip2D en S) Q E := by
  refine wpE_bind (wpE_mono h (fun ds T ⟨d, e, xs, ys, eq, h1, h1', h2⟩ => ?_) fun _ _ _ q => q)
  subst eq
  obtain ⟨mi, h3, h4⟩ := itD_items h1
  obtain ⟨mj, h5, h6⟩ := itD_items h1'
  have e : zip2D [d, e] T = some (.zip2 mi mj) := by unfold zip2D; dsimp only; rw [h3, h5]; rfl
  rw [e]
  refine h2 _ fun U hU hU' i => ?_
  rw [List.getElem?_zipWith]
  unfold nextM
  rw [h4 U hU, h6 U hU']
  cases xs[i]? with
  | none => rfl
  | some a => cases ys[i]? <;> rfl
theorem kind_items {S : Store} {d : D} {xs : List D} (h : itemsD d S = some xs) : ∃ q, kindD d S = some q ∧ (q = .lst ∨ q = .tup) := by
  cases d with
  | tup ys => exact ⟨_, rfl, .inr rfl⟩
  | kl ys => exact ⟨_, rfl, .inl rfl⟩
  | ref n => exact ⟨.lst, by unfold kindD; dsimp only; rw [items_inv h], .inl rfl⟩
  | _ => cases h
theorem exItI {S : Store} {d : D} {xs : List D} {F : MI → Prop} (h1 : itemsD d S = some xs) (h : ∀ mi, (∀ U, itemsD d U = some xs → ∀ i, nextM mi i U = some xs[i]?) → F mi) : ∃ i, itD d S = some i ∧ F i := by
  obtain ⟨mi, h3, h4⟩ := itD_items h1
  exact ⟨mi, h3, h _ h4⟩
theorem exR1N {i : Nat} {F : Int → Prop} (h0 : i < 2 ^ 60) (h : F ((i : Nat) : Int)) : ∃ j, [D.int ((i : Nat) : Int)] = [.int j] ∧ smallI j = true ∧ F j := ⟨_, rfl, smallI_of (by omega) (by omega), h⟩
theorem tyL {S : Store} {n : Nat} {xs : List D} {F : Prop} (h0 : S[n]? = some (.lst xs)) (h : F) : tyD (.ref n) S = "list" ∧ F := ⟨by unfold tyD; dsimp only; rw [h0], h⟩
/-! bits -/
def btD (b : Bool) : D := .int (if b = true then 1 else 0)
/-- a row, a table: as tuples or lists -/
def RowV (S : Store) (d : D) (r : List Bool) : Prop := itemsD d S = some (r.map btD)
theorem RowV.kp {S T : Store} {d : D} {r : List Bool} (k : Kp S T) (h : RowV S d r) : RowV T d r := items_kp k h
inductive All2 {α β : Type} (R : α → β → Prop) : List α → List β → Prop
  | nil : All2 R [] []
  | cons {a b as bs} : R a b → All2 R as bs → All2 R (a :: as) (b :: bs)
theorem All2.len {α β : Type} {R : α → β → Prop} {as : List α} {bs : List β} (h : All2 R as bs) : as.length = bs.length := by induction h with | nil => rfl | cons _ _ ih => simp [ih]
theorem All2.at {α β : Type} {R : α → β → Prop} {as : List α} {bs : List β} (h : All2 R as bs) : ∀ {i : Nat} {b : β}, bs[i]? = some b → ∃ a, as[i]? = some a ∧ R a b := by
  induction h with
  | nil => intro i b e; simp at e
  | cons r _ ih =>
    intro i b e
    cases i with
    | zero => simp at e; subst e; exact ⟨_, rfl, r⟩
    | succ i => simpa using ih (by simpa using e)
theorem All2.at' {α β : Type} {R : α → β → Prop} {as : List α} {bs : List β} (h : All2 R as bs) : ∀ {i : Nat} {a : α}, as[i]? = some a → ∃ b, bs[i]? = some b ∧ R a b := by
  induction h with
  | nil => intro i b e; simp at e
  | cons r _ ih =>
    intro i b e
    cases i with
    | zero => simp at e; subst e; exact ⟨_, rfl, r⟩
    | succ i => simpa using ih (by simpa using e)
theorem All2.mono {α β : Type} {R R' : α → β → Prop} {as : List α} {bs : List β} (h : All2 R as bs) (q : ∀ a b, R a b → R' a b) : All2 R' as bs := by induction h with | nil => exact .nil | cons r _ ih => exact .cons (q _ _ r) ih
theorem All2.app {α β : Type} {R : α → β → Prop} {as as' : List α} {bs bs' : List β} (h : All2 R as bs) (h' : All2 R as' bs') : All2 R (as ++ as') (bs ++ bs') := by induction h with | nil => exact h' | cons r _ ih => exact .cons r ih
theorem All2.set {α β : Type} {R : α → β → Prop} {as : List α} {bs : List β} {a : α} {b : β} (h : All2 R as bs) (q : R a b) : ∀ i : Nat, All2 R (as.set i a) (bs.set i b) := by
  induction h with
  | nil => intro i; exact .nil
  | cons r t ih =>
    intro i
    cases i with
    | zero => exact .cons q t
    | succ i => exact .cons r (ih i)
def TabV (S : Store) (d : D) (B : List (List Bool)) : Prop := ∃ xs, itemsD d S = some xs ∧ All2 (RowV S) xs B
theorem TabV.kp {S T : Store} {d : D} {B : List (List Bool)} (k : Kp S T) (h : TabV S d B) : TabV T d B := let ⟨xs, h1, h2⟩ := h; ⟨xs, items_kp k h1, h2.mono fun _ _ q => q.kp k⟩
/-! comprehensions whose results are told by a relation -/
theorem wp_compR {en : En} {S : Store} {E : EK} {P : D → Store → Prop} {α : Type} {mi : MI} {g : Pat} {me : ME} {n : Nat} (xs : List D) (bs : List α) (R : Store → D → α → Prop) (hlen : xs.length = bs.length)
    (hx : ∀ (i : Nat) (T : Store), Kp S T → nextM mi i T = some xs[i]?) (hz : xs.length < n) (hz2 : xs.length < sizeLine)
    (step : ∀ (i : Nat) (d : D) (b : α) (T : Store), xs[i]? = some d → bs[i]? = some b → Kp S T → S.length < T.length → ∃ ps, g d T = some ps ∧ wpE (me (setsE en ps) T) (fun z V => Kp T V ∧ ∀ U, KpX S.length V U → R U z b) (fun _ _ _ => False))
    (fin : ∀ k T zs, Kp S T → k = S.length → T[k]? = some (.lst zs) → All2 (R T) zs bs → P (.ref k) T) : wpE (compL mi g mYes me S.length n 0 en (S ++ [.lst []])) P E := by
  refine wp_compL xs (fun i a T => Kp S T ∧ ∀ U, KpX S.length T U → All2 (R U) a (bs.take i)) (fun i a T h _ => hx i T h.1) (fun i d a T hd ⟨h1, h2⟩ ha hl => ?_) hz2 (fun a T ⟨h1, h2⟩ ha => ?_) xs.length n 0 [] _ (by omega) hz (Nat.le_refl _) ⟨Kp.app, fun U _ => by rw [List.take_zero]; exact .nil⟩ at_mid
  · have hi := (List.getElem?_eq_some_iff.mp hd).1
    have hb : bs[i]? = some bs[i] := List.getElem?_eq_getElem (by omega)
    obtain ⟨ps, e, w⟩ := step i d _ T hd hb h1 (lt_of_at ha)
    have tk : bs.take (i + 1) = bs.take i ++ [bs[i]] := by rw [List.take_add_one, hb]; rfl
    refine ⟨ps, e, fun z => Bool.noConfusion z, fun _ => wpE_mono w (fun z V ⟨k2, q3⟩ => ⟨k2 _ _ ha, ?_, ?_⟩) fun _ _ _ q => q⟩
    · exact (h1.trans k2).setN (Nat.le_refl _)
    · intro U kU
      have kV : KpX S.length V U := KpX.set.trans kU
      rw [tk]
      exact (h2 U (k2.x.trans kV)).app (.cons (q3 U kV) .nil)
  · have h2 := h2 T (KpX.refl _ _)
    rw [hlen, List.take_length] at h2
    exact fin _ T a h1 rfl ha h2
theorem cut_take (l : List D) (k : Nat) (h : k ≤ l.length) : cutD l none (some (k : Int)) = l.take k := by
  unfold cutD
  rw [HT.sIx_none, HT.sIx_nat, Nat.min_eq_left h, Nat.sub_zero, List.drop_zero]
theorem cut_drop (l : List D) (k : Nat) (h : k ≤ l.length) : cutD l (some (k : Int)) none = l.drop k := by
  unfold cutD
  rw [HT.sIx_none, HT.sIx_nat, Nat.min_eq_left h, List.take_of_length_le (by simp)]
theorem wpO_intB {S : Store} {P : D → Store → Prop} {b : Bool} (h : P (btD b) S) : wpO (gInt (.bl b) S) P := by cases b <;> exact h
theorem wpO_repL {S : Store} {P : D → Store → Prop} {m k : Nat} {xs : List D} (h0 : S[m]? = some (.lst xs)) (hk : k < 100000) (hl : xs.length * k ≤ sizeLine) (h : ∀ q U, Kp S U → S.length ≤ q → U[q]? = some (.lst (List.replicate k xs).flatten) → P (.ref q) U) : wpO (gMul (.ref m) (.int ((k : Nat) : Int)) S) P := by
  refine wpO_of (d := .ref S.length) (T := S ++ [.lst (List.replicate k xs).flatten]) ?_ (h _ _ Kp.app (Nat.le_refl _) at_mid)
  unfold gMul
  dsimp only
  rw [lstD_at h0, Option.bind_some, if_pos ⟨by omega, by omega, by rw [Int.toNat_natCast]; exact hl⟩, Int.toNat_natCast]
end Q

namespace Q
open PySem PySem.Spec PyProof.Rows L2
/-! ### views of ints and of tuples of ints -/
theorem py_ints {S : Store} {n : Nat} : ∀ v : List Int, (v.map D.int).mapM (toPy S n) = some (v.map PyData.int)
  | [] => rfl
  | a :: v => by rw [List.map_cons, List.map_cons]; exact mapM_cons_of (by cases n <;> rfl) (py_ints v)
theorem py_vecs {S : Store} : ∀ v : List (List Int), (v.map fun w => D.tup (w.map D.int)).mapM (toPy S 63) = some (v.map fun w => PyData.tuple (w.map PyData.int))
  | [] => rfl
  | a :: v => by
    rw [List.map_cons, List.map_cons]
    refine mapM_cons_of ?_ (py_vecs v)
    show ((a.map D.int).mapM (toPy S 62)).map PyData.tuple = _
    rw [py_ints]
    rfl
/-! lists of numbers -/
end Q

namespace Q
open PySem PySem.Spec PyProof.Rows L2
/-! ### own classes, in what is wished -/
section
variable {en : En} {S : Store} {E : EK} {P : D → Store → Prop} {N : En → Store → Prop} {R : D → Store → Prop} {B C : En → Store → Prop} {X : XKs} {Cs : List Addr} {f nm : Str} {A : Addr} {fs : List (Str × D)} {k n : Nat} {M : MF} {dds : List D} {m : MA} {mo mv : ME}
theorem insD_at (h : S[k]? = some (.ins A fs)) : insD (.ref k) S = some (A, fs) := by
  unfold insD
  dsimp only
  rw [h]
theorem wpO_fld {v : D} (h : S[k]? = some (.ins A fs)) (hC : A ∈ Cs) (hf : fs.lookup f = some v) (q : P v S) : wpO (gFld Cs f (.ref k) S) P := by
  refine wpO_of ?_ q
  unfold gFld
  rw [insD_at h, Option.bind_some]
  dsimp only
  rw [if_pos hC, hf]
  rfl
theorem wpS_setF (h : wpE (mv en S) (fun z T => wpE (mo en T) (fun d U => ∃ k A fs, d = .ref k ∧ U[k]? = some (.ins A fs) ∧ A ∈ Cs ∧ fs.length < 1000 ∧ N en (U.set k (.ins A (putFD f z fs)))) (fun c n T => X c n en T)) (fun c n T => X c n en T)) : wpS (mSetF Cs f mo mv en S) N R B C X :=
  wpS_stm (wpE_mono h (fun z T q => wpS_stm (wpE_mono q (fun d U ⟨k, A, fs, e, h1, h2, h3, q⟩ => by
    subst e
    unfold setFD
    dsimp only
    rw [h1]
    dsimp only
    rw [if_pos ⟨h2, h3⟩]
    exact q) fun _ _ _ q => q)) fun _ _ _ q => q)
theorem wpE_make (h : wpE (m en S) (fun ds T => (D.ref T.length :: (ds ++ dds)).length = n ∧ wpE (M (.ref T.length :: (ds ++ dds)) (T ++ [.ins A []])) (fun z U => z = .non ∧ P (.ref T.length) U) E) E) : wpE (mMake A M n dds m en S) P E := by
  refine wpE_bind (wpE_mono h (fun ds T q => ?_) fun _ _ _ q => q)
  unfold mkR
  rw [if_pos q.1]
  exact wpE_bind (wpE_mono q.2 (fun z U ⟨e, q⟩ => by subst e; exact q) fun _ _ _ q => q)
end
end Q

namespace Q
open PySem PySem.Spec PyProof.Rows L2
/-! ### tables of sets with up to 2048 slots: the way of a hash meets all of them -/
def MaskB (m : Nat) : Prop := m ∈ [7, 31, 127, 511, 2047]
def walkB (m : Nat) : Nat → Nat → Nat → Nat
  | 0, _, acc => acc
  | n + 1, x, acc => walkB m n ((x * 5 + 1) % (m + 1)) (acc ||| (1 <<< x))
def lastB (m : Nat) : Nat → Nat → Nat
  | 0, x => x
  | n + 1, x => lastB m n ((x * 5 + 1) % (m + 1))
theorem lcg_add (m i a : Nat) : ∀ k, lcgI m i (a + k) = lcgI m (lcgI m i a) k
  | 0 => rfl
  | k + 1 => congrArg (fun z => (z * 5 + 1) % (m + 1)) (lcg_add m i a k)
theorem lcg_shift (m x k : Nat) : lcgI m ((x * 5 + 1) % (m + 1)) k = lcgI m x (k + 1) := by
  rw [Nat.add_comm k 1, lcg_add]; rfl
theorem lastB_is (m : Nat) : ∀ n x, lastB m n x = lcgI m x n
  | 0, _ => rfl
  | n + 1, x => (lastB_is m n _).trans (lcg_shift m x n)
theorem walkB_bit (m j : Nat) : ∀ (n x acc : Nat), (walkB m n x acc).testBit j = true → acc.testBit j = true ∨ ∃ k, k < n ∧ lcgI m x k = j
  | 0, _, _, h => .inl h
  | n + 1, x, acc, h => by
    rcases walkB_bit m j n _ _ h with q | ⟨k, hk, e⟩
    · rw [Nat.testBit_or, Bool.or_eq_true] at q
      rcases q with q | q
      · exact .inl q
      · refine .inr ⟨0, Nat.succ_pos n, ?_⟩
        rw [Nat.one_shiftLeft, Nat.testBit_two_pow] at q
        exact of_decide_eq_true q
    · exact .inr ⟨k + 1, Nat.succ_lt_succ hk, (lcg_shift m x k).symm.trans e⟩
theorem full7 : walkB 7 8 0 0 = 2 ^ 8 - 1 ∧ lastB 7 8 0 = 0 := by decide +kernel
theorem full31 : walkB 31 32 0 0 = 2 ^ 32 - 1 ∧ lastB 31 32 0 = 0 := by decide +kernel
theorem full127 : walkB 127 128 0 0 = 2 ^ 128 - 1 ∧ lastB 127 128 0 = 0 := by decide +kernel
theorem full511 : walkB 511 512 0 0 = 2 ^ 512 - 1 ∧ lastB 511 512 0 = 0 := by decide +kernel
theorem full2047 : walkB 2047 2048 0 0 = 2 ^ 2048 - 1 ∧ lastB 2047 2048 0 = 0 := by decide +kernel
theorem maskB_cases {m : Nat} (h : MaskB m) : m = 7 ∨ m = 31 ∨ m = 127 ∨ m = 511 ∨ m = 2047 := by
  unfold MaskB at h
  simpa using h
theorem maskB_full {m : Nat} (h : MaskB m) : walkB m (m + 1) 0 0 = 2 ^ (m + 1) - 1 ∧ lastB m (m + 1) 0 = 0 := by
  rcases maskB_cases h with rfl | rfl | rfl | rfl | rfl
  · exact full7
  · exact full31
  · exact full127
  · exact full511
  · exact full2047
theorem cyc0 {m : Nat} (h : MaskB m) {j : Nat} (hj : j ≤ m) : ∃ k, k ≤ m ∧ lcgI m 0 k = j := by
  have b : (walkB m (m + 1) 0 0).testBit j = true := by
    rw [(maskB_full h).1, Nat.testBit_two_pow_sub_one]
    exact decide_eq_true (Nat.lt_succ_of_le hj)
  rcases walkB_bit m j _ _ _ b with q | ⟨k, hk, e⟩
  · rw [Nat.zero_testBit] at q; cases q
  · exact ⟨k, Nat.le_of_lt_succ hk, e⟩
theorem cycI {m : Nat} (h : MaskB m) {i j : Nat} (hi : i ≤ m) (hj : j ≤ m) : ∃ k, k ≤ m ∧ lcgI m i k = j := by
  obtain ⟨a, ha, rfl⟩ := cyc0 h hi
  obtain ⟨b, hb, rfl⟩ := cyc0 h hj
  by_cases c : a ≤ b
  · refine ⟨b - a, by omega, ?_⟩
    rw [← lcg_add, Nat.add_sub_cancel' c]
  · refine ⟨m + 1 + b - a, by omega, ?_⟩
    rw [← lcg_add, show a + (m + 1 + b - a) = m + 1 + b by omega, lcg_add, ← lastB_is m (m + 1) 0, (maskB_full h).2]
theorem run_at {m : Nat} (hm : MaskB m) (h : Int) {j : Nat} (hj : j ≤ m) : ∃ n, n ≤ m + 12 ∧ runI m (SetTable.bits h) n = j := by
  obtain ⟨k, hk, e⟩ := cycI hm (runI_le m (SetTable.bits h) 12) hj
  exact ⟨12 + k, by omega, (runI_tail (bits_lt h) k).trans e⟩
theorem way_at {m : Nat} (hm : MaskB m) (h : Int) {j : Nat} (hj : j ≤ m) : ∃ k, k < 10 * SetTable.turns m ∧ way m h k = j := by
  obtain ⟨n, hn, e⟩ := run_at hm h hj
  obtain ⟨k, hk, e2⟩ := run_nth m (SetTable.bits h) n
  refine ⟨k, by unfold SetTable.turns; omega, ?_⟩
  show (nth m (runAt m (SetTable.bits h % (m + 1)) (SetTable.bits h)) k).j = j
  rw [e2]
  exact e
theorem way_in {m : Nat} {h : Int} {k : Nat} : way m h k ≤ m := by
  have z : (nth m (runAt m (SetTable.bits h % (m + 1)) (SetTable.bits h)) k).j + (nth m (runAt m (SetTable.bits h % (m + 1)) (SetTable.bits h)) k).more ≤ m := by
    refine nth_in k _ ?_
    have hi : SetTable.bits h % (m + 1) ≤ m := Nat.le_of_lt_succ (Nat.mod_lt _ (Nat.succ_pos _))
    have := runEnd_bd (m := m) hi
    show SetTable.bits h % (m + 1) + (SetTable.runEnd m (SetTable.bits h % (m + 1)) - SetTable.bits h % (m + 1)) ≤ m
    omega
  exact Nat.le_trans (Nat.le_add_right _ _) z
/-- the first free slot of a way -/
theorem way_first {m : Nat} (hm : MaskB m) {ps : List Nat} (hl : ps.length ≤ m) (h : Int) : ∃ K, K < 10 * SetTable.turns m ∧ way m h K ∉ ps ∧ ∀ k, k < K → way m h k ∈ ps := by
  obtain ⟨j, hj, hn⟩ := st_missing ps (m + 1) (Nat.lt_succ_of_le hl)
  obtain ⟨k0, hk0, e⟩ := way_at hm h (Nat.le_of_lt_succ hj)
  obtain ⟨K, a, b, c⟩ := st_least (p := fun k => way m h k ∉ ps) k0 (by rw [e]; exact hn)
  exact ⟨K, Nat.lt_of_le_of_lt a hk0, b, fun k hk => Classical.byContradiction fun z => c k hk z⟩
/-! ### a table laid anew -/
structure Own2 (m : Nat) (hs : List Int) (owner : Array (Option Nat)) (ps : List Nat) : Prop where
  sz : owner.size = m + 1
  len : ps.length = hs.length
  bd : ∀ j ∈ ps, j ≤ m
  who : ∀ j k, j ≤ m → (oAt owner j = some k ↔ ps[k]? = some j)
  ways : ∀ (k : Nat) (h : Int) (j : Nat), hs[k]? = some h → ps[k]? = some j → ∃ K, way m h K = j ∧ ∀ k', k' < K → way m h k' ∈ ps
theorem Own2.none_iff {m : Nat} {hs : List Int} {owner : Array (Option Nat)} {ps : List Nat} (W : Own2 m hs owner ps) {j : Nat} (hj : j ≤ m) : oAt owner j = none ↔ j ∉ ps := by
  constructor
  · intro e hm
    obtain ⟨k, hk, e2⟩ := List.getElem_of_mem hm
    have z := (W.who j k hj).mpr (by rw [List.getElem?_eq_getElem hk, e2])
    rw [e] at z
    cases z
  · intro hn
    cases q : oAt owner j with
    | none => rfl
    | some k => exact absurd (List.mem_of_getElem? ((W.who j k hj).mp q)) hn
theorem Own2.put {m : Nat} (hm : MaskB m) {hs : List Int} {owner : Array (Option Nat)} {ps : List Nat} (W : Own2 m hs owner ps) (hl : hs.length ≤ m) (h : Int) :
    ∃ j, SetTable.layClean.free m owner (SetTable.turns m) (SetTable.bits h % (m + 1)) (SetTable.bits h) = some j ∧ Own2 m (hs ++ [h]) (owner.setIfInBounds j (some hs.length)) (ps ++ [j]) := by
  obtain ⟨j0, hj0, hn0⟩ := st_missing ps (m + 1) (by rw [W.len]; omega)
  obtain ⟨n, hn, en⟩ := run_at hm h (Nat.le_of_lt_succ hj0)
  have eo : way m h (off m (SetTable.bits h % (m + 1)) (SetTable.bits h) n) = j0 := by
    show (nth m (runAt m (SetTable.bits h % (m + 1)) (SetTable.bits h)) (off m (SetTable.bits h % (m + 1)) (SetTable.bits h) n)).j = j0
    rw [nth_off, itL_run]
    exact en
  obtain ⟨K, a, b, c⟩ := st_least (p := fun k => way m h k ∉ ps) _ (by rw [eo]; exact hn0)
  have c : ∀ k, k < K → way m h k ∈ ps := fun k hk => Classical.byContradiction fun z => c k hk z
  have ob : oAt owner (way m h K) = none := (W.none_iff way_in).mpr b
  have fr := free_spec m owner (SetTable.turns m) n (SetTable.bits h % (m + 1)) (SetTable.bits h) K (by unfold SetTable.turns; omega) a
    (fun k hk => by
      have z : oAt owner (way m h k) ≠ none := fun e => (W.none_iff way_in).mp e (c k hk)
      have z2 : oAt owner (nth m (runAt m (SetTable.bits h % (m + 1)) (SetTable.bits h)) k).j ≠ none := z
      cases q : oAt owner (nth m (runAt m (SetTable.bits h % (m + 1)) (SetTable.bits h)) k).j with
      | none => exact absurd q z2
      | some _ => rfl)
    (by have z : oAt owner (nth m (runAt m (SetTable.bits h % (m + 1)) (SetTable.bits h)) K).j = none := ob
        rw [z]; rfl)
  refine ⟨way m h K, fr, ?_, ?_, ?_, ?_, ?_⟩
  · rw [Array.size_setIfInBounds]; exact W.sz
  · rw [List.length_append, List.length_append, W.len]; rfl
  · intro j hj
    rcases List.mem_append.mp hj with z | z
    · exact W.bd j z
    · rw [List.mem_singleton.mp z]; exact way_in
  · intro j k hj
    have hsz : way m h K < owner.size := by rw [W.sz]; exact Nat.lt_succ_of_le way_in
    by_cases e : j = way m h K
    · rw [e, oAt_set_self _ hsz]
      constructor
      · intro q
        cases q
        rw [← W.len, List.getElem?_append_right (Nat.le_refl _), Nat.sub_self]; rfl
      · intro q
        by_cases hk : k < ps.length
        · rw [List.getElem?_append_left hk] at q
          exact absurd (List.mem_of_getElem? q) b
        · have : k < (ps ++ [way m h K]).length := (List.getElem?_eq_some_iff.mp q).1
          rw [List.length_append, List.length_singleton] at this
          have : k = hs.length := by have := W.len; omega
          rw [this]
    · rw [oAt_set_ne _ e, W.who j k hj]
      by_cases hk : k < ps.length
      · rw [List.getElem?_append_left hk]
      · rw [List.getElem?_eq_none (Nat.le_of_not_lt hk), List.getElem?_append_right (Nat.le_of_not_lt hk)]
        constructor
        · intro q; cases q
        · intro q
          have := List.mem_of_getElem? q
          exact absurd (List.mem_singleton.mp this) e
  · intro k h' j e1 e2
    by_cases hk : k < hs.length
    · rw [List.getElem?_append_left hk] at e1
      rw [List.getElem?_append_left (by rw [W.len]; exact hk)] at e2
      obtain ⟨K', x, y⟩ := W.ways k h' j e1 e2
      exact ⟨K', x, fun k' hk' => List.mem_append_left _ (y k' hk')⟩
    · rw [List.getElem?_append_right (Nat.le_of_not_lt hk)] at e1
      rw [List.getElem?_append_right (by rw [W.len]; exact Nat.le_of_not_lt hk)] at e2
      have a1 := List.mem_singleton.mp (List.mem_of_getElem? e1)
      have a2 := List.mem_singleton.mp (List.mem_of_getElem? e2)
      exact ⟨K, by rw [a1, a2], fun k' hk' => List.mem_append_left _ (by rw [a1]; exact c k' hk')⟩
theorem own2_fold {m : Nat} (hm : MaskB m) : ∀ (rest hs : List Int) (owner : Array (Option Nat)) (ps : List Nat), Own2 m hs owner ps → hs.length + rest.length ≤ m + 1 →
    ∃ o2 ps2 n2, rest.foldl (stepF m) (some (owner, hs.length)) = some (o2, n2) ∧ Own2 m (hs ++ rest) o2 ps2
  | [], hs, owner, ps, W, _ => ⟨owner, ps, hs.length, rfl, (List.append_nil hs).symm ▸ W⟩
  | h :: rest, hs, owner, ps, W, hl => by
    rw [List.length_cons] at hl
    obtain ⟨j, e, W1⟩ := W.put hm (by omega) h
    obtain ⟨o2, ps2, n2, f, W2⟩ := own2_fold hm rest (hs ++ [h]) _ _ W1 (by rw [List.length_append, List.length_singleton]; omega)
    rw [List.append_assoc] at W2
    rw [List.length_append, List.length_singleton] at f
    exact ⟨o2, ps2, n2, by rw [List.foldl_cons, stepF_some e]; exact f, W2⟩
theorem own2_lay {m : Nat} (hm : MaskB m) {hs : Array Int} (hn : hs.size ≤ m + 1) : ∃ owner ps, SetTable.layClean m hs = some owner ∧ Own2 m hs.toList owner ps := by
  obtain ⟨o2, ps2, n2, f, W⟩ := own2_fold hm hs.toList [] (Array.replicate (m + 1) none) [] ⟨by simp, rfl, fun j hj => (by cases hj), fun j k hj => by rw [oAt_init hj]; simp, fun k h j e => (by cases e)⟩ (by rw [Array.length_toList]; simpa using hn)
  refine ⟨o2, ps2, ?_, W⟩
  have f2 : hs.toList.foldl (stepF m) (some (Array.replicate (m + 1) none, 0)) = some (o2, n2) := f
  rw [layClean_eq, f2]
  rfl
theorem live_perm {m : Nat} {hs : List Int} {owner : Array (Option Nat)} {ps : List Nat} (W : Own2 m hs owner ps) : (liveOf m owner).Perm ps.zipIdx ∧ Ris ((liveOf m owner).map (·.1)) := by
  have nl : ((liveOf m owner).map (·.1)).Pairwise (· < ·) := by
    unfold liveOf
    rw [List.map_filterMap]
    refine List.Pairwise.filterMap _ (R := (· < ·)) (fun a a' hlt b hb b' hb' => ?_) List.pairwise_lt_range
    cases q : owner.getD a none with
    | none => rw [q] at hb; cases hb
    | some x =>
      rw [q] at hb
      cases q' : owner.getD a' none with
      | none => rw [q'] at hb'; cases hb'
      | some y =>
        rw [q'] at hb'
        cases hb; cases hb'
        exact hlt
  refine ⟨(List.perm_ext_iff_of_nodup (nodup_of_map (nl.imp (fun h => Nat.ne_of_lt h))) ?_).mpr fun ⟨j, k⟩ => ?_, nl⟩
  · have : (ps.zipIdx.map Prod.snd).Nodup := by
      rw [List.zipIdx_map_snd]
      exact List.nodup_range'
    exact nodup_of_map this
  · rw [mem_live W.sz, List.mk_mem_zipIdx_iff_getElem?]
    constructor
    · exact fun ⟨a, b⟩ => (W.who j k a).mp b
    · exact fun e => ⟨W.bd j (List.mem_of_getElem? e), (W.who j k (W.bd j (List.mem_of_getElem? e))).mpr e⟩
theorem size_308 : SetTable.sizeAbove (SetTable.grown 77) = 512 := by decide +kernel
theorem size_1228 : SetTable.sizeAbove (SetTable.grown 307) = 2048 := by decide +kernel
end Q

namespace Q
open PySem PySem.Spec PyProof.Rows L2
/-! ### a set of tuples of ints: its rows are slot, address, key -/
abbrev SRow := Nat × Addr × List Int
def cellOf (P : Program) (w : World) (p : SRow) : Int × Value := (thash P w p.2.2, .ref p.2.1)
structure SetR (P : Program) (w : World) (h : Heap) (a : Addr) (L : List SRow) (es : Array (Int × Value)) (ep : Nat) (t : SetTable) : Prop where
  ob : ∃ o, h.get? a = some o ∧ o.ExactSet ∧ o.data = .set es ep t
  cells : es.toList = L.map (cellOf P w)
  slots : t.place.toList = L.map (·.1)
  ris : Ris (L.map (·.1))
  dm : t.dummies = #[]
  mb : MaskB t.mask
  bd : ∀ p ∈ L, p.1 ≤ t.mask
  ways : ∀ p ∈ L, ∃ k, way t.mask (thash P w p.2.2) k = p.1 ∧ ∀ k', k' < k → way t.mask (thash P w p.2.2) k' ∈ L.map (·.1)
  nd : (L.map (·.2.2)).Nodup
  tup : ∀ p ∈ L, IsT P w h p.2.2 p.2.1
  plain : t.plain = true
  led : w.params.followText "set-order" = true ∨ t.led = true
  room : L.length * 5 < t.mask * 3
section
variable {P : Program} {w : World} {A : Around} {E : Value → Shared → Prop} {s : Shared} {a : Addr} {L : List SRow} {es : Array (Int × Value)} {ep : Nat} {t : SetTable}
theorem SetR.esz {h : Heap} (R : SetR P w h a L es ep t) : es.size = L.length := by
  rw [← Array.length_toList, R.cells, List.length_map]
theorem SetR.psz {h : Heap} (R : SetR P w h a L es ep t) : t.place.size = L.length := by
  rw [← Array.length_toList, R.slots, List.length_map]
theorem SetR.fits {h : Heap} (R : SetR P w h a L es ep t) : t.fits es.size = true := by
  have := R.room
  have e1 := R.esz
  have e2 := R.psz
  unfold SetTable.fits SetTable.fill
  rw [R.dm, e2, e1, beq_self_eq_true, Bool.true_and]
  exact decide_eq_true (show L.length + 0 ≤ t.mask by omega)
theorem SetR.es_at {h : Heap} (R : SetR P w h a L es ep t) {i : Nat} {p : SRow} (e : L[i]? = some p) : es[i]? = some (cellOf P w p) := by
  rw [← Array.getElem?_toList, R.cells, List.getElem?_map, e]; rfl
theorem SetR.odd {h : Heap} (R : SetR P w h a L es ep t) : t.gaveWay = false := by
  unfold SetTable.gaveWay
  rcases maskB_cases R.mb with e | e | e | e | e <;> rw [e] <;> rfl
theorem SetR.ris' {h : Heap} (R : SetR P w h a L es ep t) : Ris t.place.toList := R.slots ▸ R.ris
abbrev stA (m : Nat) (h : Int) (c : Nat) : SetTable.Probe := nth m (runAt m (SetTable.bits h % (m + 1)) (SetTable.bits h)) c
theorem stA_dummy (m : Nat) (h : Int) : ∀ c, (stA m h c).dummy = none := by
  intro c
  induction c with
  | zero => rfl
  | succ c ih =>
    show (nth m _ (c + 1)).dummy = none
    rw [nth_succ]
    unfold adv
    split
    · exact ih
    · exact ih
theorem stA_add (m : Nat) (h : Int) (c q : Nat) : nth m (stA m h c) q = stA m h (c + q) := (nth_add m c _ q).symm
/-- what a probe meets from the c-th step on -/
theorem SetR.probe {h0 : Heap} (R : SetR P w h0 a L es ep t) {h : Int} {K : Nat} (hKf : K < 10 * SetTable.turns t.mask) (hK : way t.mask h K ∉ L.map (·.1)) (hb : ∀ c, c < K → way t.mask h c ∈ L.map (·.1)) {c : Nat} (hc : c ≤ K) :
    (∃ c1 i p, c ≤ c1 ∧ c1 < K ∧ L[i]? = some p ∧ p.1 = way t.mask h c1 ∧ (∀ p' ∈ L, thash P w p'.2.2 = h → ∀ c', c ≤ c' → c' < c1 → p'.1 ≠ way t.mask h c') ∧ t.probe (fun i => (es[i]?.map (·.1)).getD 0) h (stA t.mask h c) = some (.candidate (way t.mask h c1) i (stA t.mask h (c1 + 1)))) ∨
    ((∀ p' ∈ L, thash P w p'.2.2 = h → ∀ c', c ≤ c' → c' < K → p'.1 ≠ way t.mask h c') ∧ t.probe (fun i => (es[i]?.map (·.1)).getD 0) h (stA t.mask h c) = some (.empty (way t.mask h K) none)) := by
  have jj : ∀ q, (nth t.mask (stA t.mask h c) q).j = way t.mask h (c + q) := fun q => congrArg SetTable.Probe.j (stA_add t.mask h c q)
  have no : ∀ n : Nat, (∀ k' (i' : Nat), k' < n → t.place.toList[i']? = some (nth t.mask (stA t.mask h c) k').j → (es[i']?.map (·.1)).getD 0 ≠ h) → ∀ p' ∈ L, thash P w p'.2.2 = h → ∀ c', c ≤ c' → c' < c + n → p'.1 ≠ way t.mask h c' := by
    intro n hn p' hp he c' h1 h2 h3
    obtain ⟨i', hi', e⟩ := List.getElem_of_mem hp
    have ei : L[i']? = some p' := by rw [List.getElem?_eq_getElem hi', e]
    refine hn (c' - c) i' (by omega) ?_ ?_
    · rw [jj, R.slots, List.getElem?_map, ei, show c + (c' - c) = c' by omega, ← h3]; rfl
    · show (es[i']?.map (·.1)).getD 0 = h
      rw [R.es_at ei]
      exact he
  rcases go_spec t R.ris' R.dm (fun i => (es[i]?.map (·.1)).getD 0) h (10 * SetTable.turns t.mask) (K - c) (stA t.mask h c) (stA_dummy _ _ _) (by omega) (fun q hq => by rw [jj, R.slots]; exact hb _ (by omega)) (by rw [jj, R.slots, show c + (K - c) = K by omega]; exact hK) with ⟨q, i, h1, h2, _, h4, h5⟩ | ⟨h4, h5⟩
  · rw [jj, R.slots, List.getElem?_map] at h2
    obtain ⟨p, e1, e2⟩ := Option.map_eq_some_iff.mp h2
    refine .inl ⟨c + q, i, p, Nat.le_add_right _ _, by omega, e1, e2, no q h4, ?_⟩
    rw [jj, stA_add] at h5
    exact h5
  · refine .inr ⟨fun p' hp he c' x y => no (K - c) h4 p' hp he c' x (by omega), ?_⟩
    rw [jj, show c + (K - c) = K by omega] at h5
    exact h5
theorem slot_one {h : Heap} (R : SetR P w h a L es ep t) {i : Nat} {p p' : SRow} (e : L[i]? = some p) (hm : p' ∈ L) (e2 : p'.1 = p.1) : p' = p := by
  obtain ⟨i', hi', e'⟩ := List.getElem_of_mem hm
  have a1 : (L.map (·.1))[i]? = some p.1 := by rw [List.getElem?_map, e]; rfl
  have a2 : (L.map (·.1))[i']? = some p.1 := by rw [List.getElem?_map, List.getElem?_eq_getElem hi', e', ← e2]; rfl
  rcases Nat.lt_trichotomy i i' with z | z | z
  · exact absurd (ris_lt R.ris a1 a2 z) (Nat.lt_irrefl _)
  · subst z
    rw [List.getElem?_eq_getElem hi', e'] at e
    exact Option.some.inj e
  · exact absurd (ris_lt R.ris a2 a1 z) (Nat.lt_irrefl _)
/-- the search, on from the c-th step -/
theorem seek_from (R : SetR P w s.heap a L es ep t) {x : Addr} {k : List Int} (hx : IsT P w s.heap k x) (hu : A.units < cLine) {K : Nat} (hKf : K < 10 * SetTable.turns t.mask)
    (hK : way t.mask (thash P w k) K ∉ L.map (·.1)) (hb : ∀ c, c < K → way t.mask (thash P w k) c ∈ L.map (·.1)) {Q : SetFound → Shared → Prop}
    (yes : k ∈ L.map (·.2.2) → Q (.there none) s) (no : k ∉ L.map (·.2.2) → Q (.free (way t.mask (thash P w k) K) false) s) :
    ∀ (f c : Nat) (st : Option SetTable.Probe), st.getD (t.probeStart (thash P w k)) = stA t.mask (thash P w k) c → c ≤ K → K - c < f → (∀ p ∈ L, p.2.2 = k → ∃ c', c ≤ c' ∧ c' < K ∧ p.1 = way t.mask (thash P w k) c') →
      wpAny (model P w) A (setSearchFrom a (.ref x) (thash P w k) true f st) Q E s := by
  obtain ⟨o, ho, hex, hd⟩ := R.ob
  intro f
  induction f with
  | zero => exact fun c st _ _ h => absurd h (Nat.not_lt_zero _)
  | succ f ih =>
    intro c st est hc hf hin
    rw [setSearchFrom_succ]
    refine wpAny_bind (wpAny_setState_of ho hd R.fits ?_)
    dsimp only
    refine wp_if_neg (by rw [R.odd]; exact Bool.false_ne_true) ?_
    rw [est]
    rcases R.probe hKf hK hb hc with ⟨c1, i, p, h1, h2, h3, h4, h5, h6⟩ | ⟨h5, h6⟩
    · rw [h6]
      dsimp only
      have hp : p ∈ L := List.mem_of_getElem? h3
      have hs : t.slot (way t.mask (thash P w k) c1) = .live i := slot_live R.ris' (by rw [R.slots, List.getElem?_map, h3, ← h4]; rfl)
      have more : wpAny (model P w) A (searchRest a (.ref x) (thash P w k) true f es t (way t.mask (thash P w k) c1) i (stA t.mask (thash P w k) (c1 + 1))) Q E s := by
        unfold searchRest
        rw [R.es_at h3]
        dsimp only [cellOf]
        refine wpAny_bind (wpAny_holding (wpAny_eqBool_tuple hu (R.tup p hp) hx ?_))
        refine wpAny_bind (wpAny_setState_of ho hd R.fits ?_)
        dsimp only
        by_cases e : p.2.2 = k
        · refine wp_if_pos (by simp [e]) (wpAny_pure (yes ?_))
          exact List.mem_map.mpr ⟨p, hp, e⟩
        · refine wp_if_neg (by simp [e]) ?_
          rw [sameMem]
          simp only [if_true, hs, R.es_at h3, cellOf]
          refine wpAny_bind (wpAny_isSame_ref_self (wpAny_bind (wpAny_pure ?_)))
          simp only [if_true]
          refine wp_if_neg (by simp [e]) ?_
          refine ih (c1 + 1) _ rfl (by omega) (by omega) fun p' hp' e' => ?_
          obtain ⟨c', x1, x2, x3⟩ := hin p' hp' e'
          refine ⟨c', ?_, x2, x3⟩
          by_cases z : c1 < c'
          · exact z
          · exfalso
            by_cases z2 : c' = c1
            · rw [z2, ← h4] at x3
              have := slot_one R h3 hp' x3
              rw [this] at e'
              exact e e'
            · exact h5 p' hp' (by rw [e']) c' x1 (by omega) x3
      cases hl : t.led with
      | true => exact wp_if_neg (by simp) more
      | false =>
        refine wp_if_pos (by simp) (wpAny_bind (seen_tup hx (fun y hy => ?_) (wp_if_neg (by decide) more)))
        obtain ⟨e, he, rfl⟩ := List.mem_map.mp hy
        have he : e ∈ es := by
          have : e ∈ (es.filter (·.1 == thash P w k)).toList := he
          simp at this
          exact this.1
        have he : e ∈ es.toList := by simpa using he
        rw [R.cells] at he
        obtain ⟨p', hp', rfl⟩ := List.mem_map.mp he
        exact ⟨p'.2.2, p'.2.1, rfl, R.tup p' hp'⟩
    · rw [h6]
      dsimp only
      refine wpAny_pure (no fun hm => ?_)
      obtain ⟨p', hp', e'⟩ := List.mem_map.mp hm
      obtain ⟨c', x1, x2, x3⟩ := hin p' hp' e'
      exact h5 p' hp' (by rw [e']) c' x1 x2 x3
theorem turns_few {m : Nat} (h : MaskB m) : 10 * SetTable.turns m < 100000 := by
  unfold SetTable.turns
  rcases maskB_cases h with e | e | e | e | e <;> rw [e] <;> decide
/-- the whole search -/
theorem seek (R : SetR P w s.heap a L es ep t) {x : Addr} {k : List Int} (hx : IsT P w s.heap k x) (hu : A.units < cLine) {Q : SetFound → Shared → Prop} (yes : k ∈ L.map (·.2.2) → Q (.there none) s)
    (no : ∀ K, k ∉ L.map (·.2.2) → way t.mask (thash P w k) K ∉ L.map (·.1) → (∀ c, c < K → way t.mask (thash P w k) c ∈ L.map (·.1)) → Q (.free (way t.mask (thash P w k) K) false) s) :
    wpAny (model P w) A (setSearch a (.ref x) (thash P w k) true) Q E s := by
  have hr := R.room
  obtain ⟨K, h1, h2, h3⟩ := way_first R.mb (ps := L.map (·.1)) (by rw [List.length_map]; omega) (thash P w k)
  have hb := turns_few R.mb
  unfold setSearch
  refine seek_from R hx hu h1 h2 h3 yes (fun hn => no K hn h2 h3) 100000 0 none rfl (Nat.zero_le _) (by omega) fun p hp e => ?_
  obtain ⟨c, e1, e2⟩ := R.ways p hp
  rw [e] at e1 e2
  refine ⟨c, Nat.zero_le _, ?_, e1.symm⟩
  rcases Nat.lt_trichotomy c K with z | z | z
  · exact z
  · exact absurd (List.mem_map.mpr ⟨p, hp, by rw [← e1, z]⟩) h2
  · exact absurd (e2 K z) h2
end
end Q

namespace Q
open PySem PySem.Spec PyProof.Rows L2
section
variable {P : Program} {w : World} {A : Around} {E : Value → Shared → Prop} {s : Shared} {a : Addr} {L : List SRow} {es : Array (Int × Value)} {ep : Nat} {t : SetTable}
theorem pick_all {α β : Type} (f : Option α → β) : ∀ (l : List α) (n : Nat), (List.range' n l.length).map (fun i => f l[i - n]?) = l.map fun x => f (some x)
  | [], _ => rfl
  | x :: l, n => by
    rw [List.length_cons, List.range'_succ, List.map_cons, List.map_cons, Nat.sub_self, ← pick_all f l (n + 1)]
    refine congrArg (f (some x) :: ·) (List.map_congr_left fun i hi => ?_)
    have := (List.mem_range'_1.mp hi).1
    rw [show i - n = (i - (n + 1)) + 1 by omega, List.getElem?_cons_succ]
theorem pickF {α β γ : Type} {f : β → Option γ} (g : α → β) (v : α → γ) : ∀ l : List α, (∀ q ∈ l, f (g q) = some (v q)) → (l.map g).filterMap f = l.map v
  | [], _ => rfl
  | q :: l, h => by
    rw [List.map_cons, List.filterMap_cons_some (h q List.mem_cons_self), pickF g v l fun q' h' => h q' (List.mem_cons_of_mem _ h'), List.map_cons]
/-- the rows of a table laid anew -/
def relL (L : List SRow) (m : Nat) (owner : Array (Option Nat)) : List SRow := (liveOf m owner).map fun q => (q.1, (L[q.2]?.getD (0, 0, [])).2)
theorem relL_ok {m : Nat} {owner : Array (Option Nat)} {ps : List Nat} {f : SRow → Int} (W : Own2 m (L.map f) owner ps) :
    (relL L m owner).map (·.1) = (liveOf m owner).map (·.1) ∧ ((relL L m owner).map (·.2)).Perm (L.map (·.2)) ∧ ((liveOf m owner).map (·.1)).Perm ps ∧ ∀ q ∈ liveOf m owner, ∃ p, L[q.2]? = some p ∧ ps[q.2]? = some q.1 := by
  obtain ⟨h1, _⟩ := live_perm W
  have hl : ps.length = L.length := by rw [W.len, List.length_map]
  refine ⟨?_, ?_, ?_, fun q hq => ?_⟩
  · unfold relL
    rw [List.map_map]
    exact List.map_congr_left fun _ _ => rfl
  · have h2 := (h1.map Prod.snd).map fun k => (L[k]?.getD (0, 0, [])).2
    rw [List.zipIdx_map_snd, hl, List.map_map] at h2
    have h3 := pick_all (fun (o : Option SRow) => (o.getD (0, 0, [])).2) L 0
    simp only [Nat.sub_zero] at h3
    rw [h3] at h2
    unfold relL
    rw [List.map_map]
    exact h2
  · have h2 := h1.map Prod.fst
    rw [List.zipIdx_map_fst] at h2
    exact h2
  · have h2 := List.mem_zipIdx_iff_getElem?.mp (h1.mem_iff.mp hq)
    have hk : q.2 < L.length := by rw [← hl]; exact (List.getElem?_eq_some_iff.mp h2).1
    exact ⟨L[q.2], List.getElem?_eq_getElem hk, h2⟩
theorem relay {o : Obj} (ho : s.heap.get? a = some o) (hex : o.ExactSet) (hd : o.data = .set es ep t) (cells : es.toList = L.map (cellOf P w)) (fits : t.fits es.size = true) (nd : (L.map (·.2.2)).Nodup) (tup : ∀ p ∈ L, IsT P w s.heap p.2.2 p.2.1)
    (pl : t.plain = true) (ld : w.params.followText "set-order" = true ∨ t.led = true) {wanted M : Nat} (hw : SetTable.sizeAbove wanted = M + 1) (hM : MaskB M) (room : L.length * 5 < M * 3) {Q : Unit → Shared → Prop}
    (hQ : ∀ h' L' es' ep' t', Heap.SameBut a s.heap h' → SetR P w h' a L' es' ep' t' → (L'.map (·.2)).Perm (L.map (·.2)) → Q () { s with heap := h' }) : wpAny (model P w) A (setRelay a wanted) Q E s := by
  have esz : es.size = L.length := by rw [← Array.length_toList, cells, List.length_map]
  have hM2 : M ≤ 2047 := by rcases maskB_cases hM with e | e | e | e | e <;> rw [e] <;> decide
  have ehs : (es.map (·.1)).toList = L.map fun p => thash P w p.2.2 := by
    rw [Array.toList_map, cells, List.map_map]
    exact List.map_congr_left fun _ _ => rfl
  obtain ⟨owner, ps, e1, W⟩ := own2_lay hM (hs := es.map (·.1)) (by rw [Array.size_map, esz]; omega)
  rw [ehs] at W
  obtain ⟨r1, r2, r3, r4⟩ := relL_ok W
  have e2 : t.relaid (es.map (·.1)) wanted = some (tabOf t M owner, ((liveOf M owner).map (·.2)).toArray) := by
    rw [relaid_eq, hw, Nat.add_sub_cancel, e1]; rfl
  have len : (relL L M owner).length = L.length := by
    have := r2.length_eq
    rwa [List.length_map, List.length_map] at this
  have ecells : (((liveOf M owner).map (·.2)).toArray.filterMap (es[·]?)).toList = (relL L M owner).map (cellOf P w) := by
    have : (((liveOf M owner).map (·.2)).toArray.filterMap (es[·]?)).toList = ((liveOf M owner).map (·.2)).filterMap (es[·]?) := by simp
    rw [this]
    unfold relL
    rw [List.map_map]
    refine pickF (fun q : Nat × Nat => q.2) (cellOf P w ∘ fun q => (q.1, (L[q.2]?.getD (0, 0, [])).2)) (liveOf M owner) fun q hq => ?_
    obtain ⟨p, h1, _⟩ := r4 q hq
    show es[q.2]? = some (cellOf P w (q.1, (L[q.2]?.getD (0, 0, [])).2))
    rw [← Array.getElem?_toList, cells, List.getElem?_map, h1]
    rfl
  have esz2 : (((liveOf M owner).map (·.2)).toArray.filterMap (es[·]?)).size = es.size := by
    rw [← Array.length_toList, ecells, List.length_map, len, esz]
  rw [setRelay_eq]
  refine wpAny_bind (wpAny_setState_of ho hd fits ?_)
  dsimp only
  refine wp_if_neg (by rw [hw, sizeLine_eq]; omega) ?_
  rw [e2]
  dsimp only
  refine wpAny_bind (wp_if_neg (by rw [esz2]; simp) (wpAny_pure ?_))
  dsimp only
  refine wpAny_storeSet_of ho hd ?_ (by rw [esz2, esz, sizeLine_eq]; omega)
  have sb : Heap.SameBut a s.heap (s.heap.update a (Obj.putSet (((liveOf M owner).map (·.2)).toArray.filterMap (es[·]?)) (tabOf t M owner))) := Heap.SameBut.update ..
  have par : ∀ p ∈ relL L M owner, ∃ p' ∈ L, p.2 = p'.2 := fun p hp => by
    obtain ⟨p', h1, h2⟩ := List.mem_map.mp (r2.mem_iff.mp (List.mem_map.mpr ⟨p, hp, rfl⟩))
    exact ⟨p', h1, h2.symm⟩
  refine hQ _ (relL L M owner) (((liveOf M owner).map (·.2)).toArray.filterMap (es[·]?)) (ep + 1) (tabOf t M owner) sb ?_ r2
  refine ⟨⟨_, store_at ho hd, ⟨hex.1, hex.2.1, hex.2.2⟩, rfl⟩, ecells, ?_, ?_, rfl, hM, fun p hp => ?_, fun p hp => ?_, ?_, fun p hp => ?_, pl, ld, ?_⟩
  · show ((liveOf M owner).map (·.1)).toArray.toList = _
    rw [r1]
  · rw [r1]; exact (live_perm W).2
  · obtain ⟨q, hq, rfl⟩ := List.mem_map.mp hp
    obtain ⟨_, _, h2⟩ := r4 q hq
    exact W.bd _ (List.mem_of_getElem? h2)
  · obtain ⟨q, hq, rfl⟩ := List.mem_map.mp hp
    obtain ⟨p', h1, h2⟩ := r4 q hq
    obtain ⟨K, k1, k2⟩ := W.ways q.2 (thash P w p'.2.2) q.1 (by rw [List.getElem?_map, h1]; rfl) h2
    show ∃ k, way M (thash P w (L[q.2]?.getD (0, 0, [])).2.2) k = q.1 ∧ ∀ k' < k, way M (thash P w (L[q.2]?.getD (0, 0, [])).2.2) k' ∈ _
    rw [h1, r1]
    exact ⟨K, k1, fun k' hk' => r3.mem_iff.mpr (k2 k' hk')⟩
  · have := r2.map (·.2)
    rw [List.map_map, List.map_map] at this
    exact this.nodup_iff.mpr nd
  · obtain ⟨p', h1, h2⟩ := par p hp
    rw [h2]
    exact isT_same (tup p' h1) ho hd sb
  · rw [len]; exact room
/-- an element more -/
theorem putIn (R : SetR P w s.heap a L es ep t) {x : Addr} {k : List Int} (hx : IsT P w s.heap k x) (hu : A.units < cLine) (few : L.length < 1228) {Q : Bool → Shared → Prop}
    (hQ : ∀ b h' L' es' ep' t', Heap.SameBut a s.heap h' → SetR P w h' a L' es' ep' t' → (k ∈ L.map (·.2.2) → L' = L) → (k ∉ L.map (·.2.2) → (L'.map (·.2)).Perm ((x, k) :: L.map (·.2))) → Q b { s with heap := h' }) :
    wpAny (model P w) A (setAddHashed a (.ref x) (thash P w k)) Q E s := by
  obtain ⟨o, ho, hex, hd⟩ := R.ob
  have hroom := R.room
  unfold setAddHashed
  refine wpAny_holding ?_
  rw [show (100000 : Nat) = 99999 + 1 from rfl, setAddHashedIn_succ]
  refine wpAny_bind (wpAny_setState_of ho hd R.fits ?_)
  dsimp only
  refine wp_if_neg (by simp [byScan, Value.scannable]) (wpAny_bind (seek R hx hu (fun hm => ?_) fun K hm hK hb => ?_))
  · exact wpAny_pure (hQ false s.heap L es ep t (Heap.SameBut.refl a s.heap) R (fun _ => rfl) fun z => absurd hm z)
  dsimp only
  refine wpAny_bind (wpAny_setState_of ho hd R.fits ?_)
  generalize hj : way t.mask (thash P w k) K = j at hK
  have hjm : j ≤ t.mask := hj ▸ way_in
  have free : t.place[SetTable.below t.place j]? ≠ some j := fun e => hK (by
    rw [← R.slots]
    rw [← Array.getElem?_toList] at e
    exact List.mem_of_getElem? e)
  generalize hp : SetTable.below t.place j = p at free
  have e1 : t.put j = ((t.put j).1, p) := by rw [← hp]; rfl
  have e2 : (t.put j).1.place.toList = (L.take p ++ (j, x, k) :: L.drop p).map (·.1) := by
    rw [put_place, hp, R.slots, List.map_append, List.map_cons, List.map_take, List.map_drop]
  have e3 : (t.put j).1.dummies = #[] := put_dm R.dm j
  have e4 : (t.put j).1.mask = t.mask ∧ (t.put j).1.plain = t.plain ∧ (t.put j).1.led = t.led := ⟨rfl, rfl, rfl⟩
  rw [e1]
  dsimp only
  have pm : (L.take p ++ (j, x, k) :: L.drop p).Perm ((j, x, k) :: L) := put_perm L p _
  have e5 : (SetTable.insertAt es p (thash P w k, Value.ref x)).toList = (L.take p ++ (j, x, k) :: L.drop p).map (cellOf P w) := by
    rw [SetTable.toList_insertAt, R.cells, List.map_append, List.map_cons, List.map_take, List.map_drop]; rfl
  have rs : Ris ((L.take p ++ (j, x, k) :: L.drop p).map (·.1)) := by
    rw [← e2, put_place]
    have := ris_insert R.ris' (j := j) (by rw [hp]; exact free)
    rw [SetTable.toList_insertAt] at this
    exact this
  generalize hL : L.take p ++ (j, x, k) :: L.drop p = L1 at pm e2 e5 rs
  have len : L1.length = L.length + 1 := pm.length_eq
  have esz : (SetTable.insertAt es p (thash P w k, Value.ref x)).size = L.length + 1 := by rw [← Array.length_toList, e5, List.length_map, len]
  generalize ht1 : (t.put j).1 = t1 at e2 e3 e4
  generalize hes1 : SetTable.insertAt es p (thash P w k, Value.ref x) = es1 at e5 esz
  obtain ⟨m1, m2, m3⟩ := e4
  have pl1 : t1.plain = true := m2.trans R.plain
  have fill1 : t1.fill = L.length + 1 := by
    unfold SetTable.fill
    rw [e3, ← Array.length_toList, e2, List.length_map, len]; rfl
  first
    | refine wp_if_pos pl1 (wpAny_bind (hashBy_tup hx ?_))
    | refine wpAny_bind (wp_if_pos pl1 (hashBy_tup hx ?_))
  simp only [if_true]
  refine wpAny_bind (wpAny_storeSet_of ho hd ?_ (by rw [esz, sizeLine_eq]; omega))
  have sb : Heap.SameBut a s.heap (s.heap.update a (Obj.putSet es1 t1)) := Heap.SameBut.update ..
  have ho1 := store_at (es' := es1) (t' := t1) ho hd
  generalize s.heap.update a (Obj.putSet es1 t1) = h1 at sb ho1
  have mem : ∀ q, q ∈ L1 ↔ q = (j, x, k) ∨ q ∈ L := fun q => pm.mem_iff.trans List.mem_cons
  have tup1 : ∀ q ∈ L1, IsT P w h1 q.2.2 q.2.1 := fun q hq => by
    rcases (mem q).mp hq with rfl | hq
    · exact isT_same hx ho hd sb
    · exact isT_same (R.tup q hq) ho hd sb
  have pm2 : (L1.map (·.2)).Perm ((x, k) :: L.map (·.2)) := pm.map (·.2)
  have nd1 : (L1.map (·.2.2)).Nodup := (pm.map (·.2.2)).nodup_iff.mpr (List.nodup_cons.mpr ⟨hm, R.nd⟩)
  have ld1 : w.params.followText "set-order" = true ∨ t1.led = true := m3.symm ▸ R.led
  have sub : ∀ z, z ∈ L.map (·.1) → z ∈ L1.map (·.1) := fun z hz => by
    obtain ⟨q, hq, rfl⟩ := List.mem_map.mp hz
    exact List.mem_map.mpr ⟨q, (mem q).mpr (.inr hq), rfl⟩
  cases full : t1.tooFull with
  | false =>
    refine wp_if_neg (by decide) (wpAny_pure (hQ true h1 L1 es1 (ep + 1) t1 sb ⟨⟨_, ho1, ⟨hex.1, hex.2.1, hex.2.2⟩, rfl⟩, e5, e2, rs, e3, m1.symm ▸ R.mb, fun q hq => ?_, fun q hq => ?_, nd1, tup1, pl1, ld1, ?_⟩ (fun z => absurd z hm) fun _ => pm2))
    · rw [m1]
      rcases (mem q).mp hq with rfl | hq
      · exact hjm
      · exact R.bd q hq
    · rw [m1]
      rcases (mem q).mp hq with rfl | hq
      · exact ⟨K, hj, fun k' hk' => sub _ (hb k' hk')⟩
      · obtain ⟨c, c1, c2⟩ := R.ways q hq
        exact ⟨c, c1, fun k' hk' => sub _ (c2 k' hk')⟩
    · unfold SetTable.tooFull at full
      rw [fill1] at full
      have := of_decide_eq_false full
      rw [len]
      omega
  | true =>
    unfold SetTable.tooFull at full
    rw [fill1, m1] at full
    have full := of_decide_eq_true full
    have fits1 : t1.fits es1.size = true := by
      unfold SetTable.fits
      rw [fill1, m1, esz]
      have z : t1.place.size = L.length + 1 := by rw [← Array.length_toList, e2, List.length_map, len]
      rw [z, beq_self_eq_true, Bool.true_and]
      refine decide_eq_true ?_
      rcases maskB_cases R.mb with e | e | e | e | e <;> rw [e] at hroom ⊢ <;> omega
    rw [R.esz]
    have go : ∀ M, SetTable.sizeAbove (SetTable.grown (L.length + 1)) = M + 1 → MaskB M → (L.length + 1) * 5 < M * 3 →
        wpAny (model P w) A (setRelay a (SetTable.grown (L.length + 1))) (fun _ s' => wpAny (model P w) A (pure true) Q E s') E { s with heap := h1 } := fun M z1 z2 z3 =>
      relay (s := { s with heap := h1 }) ho1 ⟨hex.1, hex.2.1, hex.2.2⟩ rfl e5 fits1 nd1 tup1 pl1 ld1 z1 z2 (by rw [len]; exact z3) fun h2 L2 es2 ep2 t2 sb2 R2 q2 =>
        wpAny_pure (hQ true h2 L2 es2 ep2 t2 (sb.trans sb2) R2 (fun z => absurd z hm) fun _ => q2.trans pm2)
    have inB : ∀ {m : Nat}, m = 7 ∨ m = 31 ∨ m = 127 ∨ m = 511 ∨ m = 2047 → MaskB m := fun {m} h => by unfold MaskB; simpa using h
    refine wp_if_pos (by decide) (wpAny_bind ?_)
    rcases maskB_cases R.mb with e | e | e | e | e <;> rw [e] at full hroom
    · have z : L.length = 4 := by omega
      exact go 31 (by rw [z]; exact size_20) (inB (.inr (.inl rfl))) (by omega)
    · have z : L.length = 18 := by omega
      exact go 127 (by rw [z]; exact size_76) (inB (.inr (.inr (.inl rfl)))) (by omega)
    · have z : L.length = 76 := by omega
      exact go 511 (by rw [z]; exact size_308) (inB (.inr (.inr (.inr (.inl rfl))))) (by omega)
    · have z : L.length = 306 := by omega
      exact go 2047 (by rw [z]; exact size_1228) (inB (.inr (.inr (.inr (.inr rfl))))) (by omega)
    · omega
theorem setR_new {h : Heap} (ho : h.get? a = some { cls := .type "set", dict := none, data := .set #[] 0 (.fresh 0 0 (!w.params.followText "set-order")) }) : SetR P w h a [] #[] 0 (.fresh 0 0 (!w.params.followText "set-order")) where
  ob := ⟨_, ho, ⟨rfl, rfl, rfl⟩, rfl⟩
  cells := rfl
  slots := rfl
  ris := .nil
  dm := rfl
  mb := .head _
  bd := fun p hp => (by cases hp)
  ways := fun p hp => (by cases hp)
  nd := .nil
  tup := fun p hp => (by cases hp)
  plain := rfl
  led := by
    show _ ∨ (!w.params.followText "set-order") = true
    cases w.params.followText "set-order" <;> simp
  room := by show 0 * 5 < 7 * 3; decide
theorem SetR.kept {h h' : Heap} (R : SetR P w h a L es ep t) (k : ∀ b o, h.get? b = some o → h'.get? b = some o) : SetR P w h' a L es ep t :=
  { R with ob := let ⟨o, ho, r⟩ := R.ob; ⟨o, k _ _ ho, r⟩, tup := fun p hp => isT_keep (R.tup p hp) fun b o e => k b o e }
end
end Q

namespace Q
open PySem PySem.Spec PyProof.Rows L2
abbrev TupH (H : Hp) (a : Addr) (k : List Int) : Prop := H a = some (.tup (k.map V.int))
/-! ### a set that is filled: a raw record aside -/
def SetX (P : Program) (w : World) (h : Heap) (a : Addr) (L : List SRow) : Prop := (∃ o, h.get? a = some o ∧ ∀ v, o.data ≠ .cell v) ∧
  ∃ es ep t, ∀ h' : Heap, (∀ o, h.get? a = some o → h'.get? a = some o) → (∀ p ∈ L, IsT P w h' p.2.2 p.2.1) → SetR P w h' a L es ep t
theorem SetR.x {P : Program} {w : World} {h : Heap} {a : Addr} {L : List SRow} {es : Array (Int × Value)} {ep : Nat} {t : SetTable} (R : SetR P w h a L es ep t) : SetX P w h a L :=
  ⟨let ⟨o, ho, _, hd⟩ := R.ob; ⟨o, ho, fun v e => by rw [hd] at e; cases e⟩, es, ep, t, fun h' k ht => { R with ob := let ⟨o, ho, r⟩ := R.ob; ⟨o, k o ho, r⟩, tup := ht }⟩
theorem SetX.at' {P : Program} {w : World} {h h' : Heap} {a : Addr} {L : List SRow} (S : SetX P w h a L) (k : ∀ o, h.get? a = some o → h'.get? a = some o) : SetX P w h' a L := by
  obtain ⟨⟨o, ho, hc⟩, es, ep, t, f⟩ := S
  exact ⟨⟨o, k o ho, hc⟩, es, ep, t, fun h2 k2 ht => f h2 (fun o' e => by rw [ho] at e; cases e; exact k2 o (k o ho)) ht⟩
/-- what was put in, in order, and the rows that stand there -/
structure Has (L : List SRow) (acc : List (Addr × List Int)) : Prop where
  sub : ∀ p ∈ L, p.2 ∈ acc
  all : ∀ q ∈ acc, q.2 ∈ L.map (·.2.2)
  nd : (L.map (·.2.2)).Nodup
/-- the different ones -/
def nub {α : Type} [DecidableEq α] : List α → List α
  | [] => []
  | k :: l => k :: (nub l).filter fun x => decide (x ≠ k)
theorem mem_nub {α : Type} [DecidableEq α] {x : α} : ∀ {l : List α}, x ∈ nub l ↔ x ∈ l
  | [] => Iff.rfl
  | k :: l => by
    unfold nub
    rw [List.mem_cons, List.mem_cons, List.mem_filter, mem_nub]
    constructor
    · rintro (h | h)
      · exact .inl h
      · exact .inr h.1
    · rintro (h | h)
      · exact .inl h
      · by_cases e : x = k
        · exact .inl e
        · exact .inr ⟨h, decide_eq_true e⟩
theorem nub_nodup {α : Type} [DecidableEq α] : ∀ l : List α, (nub l).Nodup
  | [] => .nil
  | k :: l => by
    unfold nub
    refine List.nodup_cons.mpr ⟨fun h => ?_, (nub_nodup l).filter _⟩
    exact of_decide_eq_true (List.mem_filter.mp h).2 rfl
theorem Has.perm {L : List SRow} {acc : List (Addr × List Int)} (h : Has L acc) : (L.map (·.2.2)).Perm (nub (acc.map (·.2))) := by
  refine (List.perm_ext_iff_of_nodup h.nd (nub_nodup _)).mpr fun k => ?_
  rw [mem_nub]
  constructor
  · intro hk
    obtain ⟨p, hp, rfl⟩ := List.mem_map.mp hk
    exact List.mem_map.mpr ⟨p.2, h.sub p hp, rfl⟩
  · intro hk
    obtain ⟨q, hq, rfl⟩ := List.mem_map.mp hk
    exact h.all q hq
theorem Has.nil : Has [] [] := ⟨fun p h => (by cases h), fun p h => (by cases h), .nil⟩
/-- one more is put in -/
theorem Has.step {L L' : List SRow} {acc : List (Addr × List Int)} {t : Addr} {k : List Int} (hs : Has L acc) (c1 : k ∈ L.map (·.2.2) → L' = L) (c2 : k ∉ L.map (·.2.2) → (L'.map (·.2)).Perm ((t, k) :: L.map (·.2))) (nd : (L'.map (·.2.2)).Nodup) : Has L' (acc ++ [(t, k)]) := by
  by_cases hk : k ∈ L.map (·.2.2)
  · rw [c1 hk]
    refine ⟨fun p hp => List.mem_append_left _ (hs.sub p hp), fun q hq => ?_, hs.nd⟩
    rcases List.mem_append.mp hq with z | z
    · exact hs.all q z
    · rw [List.mem_singleton.mp z]; exact hk
  · have pm := c2 hk
    refine ⟨fun p hp => ?_, fun q hq => ?_, nd⟩
    · have : p.2 ∈ (t, k) :: L.map (·.2) := pm.mem_iff.mp (List.mem_map.mpr ⟨p, hp, rfl⟩)
      rcases List.mem_cons.mp this with z | z
      · rw [z]; exact List.mem_append_right _ List.mem_cons_self
      · obtain ⟨p', hp', e⟩ := List.mem_map.mp z
        rw [← e]; exact List.mem_append_left _ (hs.sub p' hp')
    · have pk : (L'.map (·.2.2)).Perm (k :: L.map (·.2.2)) := by
        have := pm.map Prod.snd
        rwa [List.map_map, List.map_cons, List.map_map] at this
      rcases List.mem_append.mp hq with z | z
      · exact pk.mem_iff.mpr (List.mem_cons_of_mem _ (hs.all q z))
      · rw [List.mem_singleton.mp z]; exact pk.mem_iff.mpr List.mem_cons_self
section
variable {X : Cx}
/-- set.add -/
theorem add_raw {pins : List (Addr × Obj)} {σ : L2.St} {H : Hp} {s : Shared} {E : Value → Shared → Prop} {D t : Addr} {k : List Int} {L : List SRow} {acc : List (Addr × List Int)} {Q : Value → Shared → Prop} (hu : X.A.units + 2 < cLine) (I : Inv X pins σ H s) (fD : FpOk X pins H D) (S : SetX X.prog X.w s.heap D L) (hs : Has L acc)
    (ht : ∀ q ∈ acc, TupH H q.1 q.2) (hx : TupH H t k) (few : L.length < 1228)
    (hQ : ∀ s' L', Inv X pins σ H s' → SetX X.prog X.w s'.heap D L' → Has L' (acc ++ [(t, k)]) → (∀ b o, b ≠ D → s.heap.get? b = some o → s'.heap.get? b = some o) → Q .none s') :
    wpAny (model X.prog X.w) X.A (call (.builtin "set.add") [.ref D, .ref t]) Q E s := by
  obtain ⟨_, es, ep, tb, f⟩ := S
  have R := f s.heap (fun _ e => e) fun p hp => I.isT (sqT_of (ht _ (hs.sub p hp)))
  have tx := I.isT (sqT_of hx)
  obtain ⟨o, ho, hex, hd⟩ := R.ob
  have hT : s.TypeIs (.ref D) "set" := ⟨o, ho, hex.1⟩
  refine wpAny_call_entry F.slot_set_add hT F.entry_set_add ?_ (F.args_set_add_2 _ _)
  unfold Builtin.«set.add» Builtin.Frozenset.oneOther
  simp only [List.isEmpty_nil, bind_assoc]
  unfold Builtin.Frozenset.addrOf setAdd
  refine wpAny_bind (wpAny_pure ?_)
  try dsimp only
  refine wpAny_bind (wpAny_pure ?_)
  try dsimp only
  refine wpAny_bind (wpAny_holding ?_)
  refine wpAny_bind (wpAny_pyHash_tuple (A := X.A.in1) (show X.A.units + 1 < cLine by omega) tx ?_)
  refine putIn (s := { s with toks := s.toks + (k.length + 1) }) R tx (show X.A.units + 1 < cLine by omega) few fun b h' L' es' ep' t' sb R' c1 c2 => ?_
  show wpAny _ _ (ret Value.none) _ _ _
  refine wpAny_pure ⟨_, rfl, hQ _ L' (I.turned (t' := s.toks + (k.length + 1)) (fun b o hb e => (sb.2 b hb).trans e) fD.1 fD.2.1 fD.2.2.2.1 fD.2.2.2.2.1 fD.2.2.2.2.2) R'.x ?_ fun b o hb e => (sb.2 b hb).trans e⟩
  exact hs.step c1 c2 R'.nd
/-- what a comprehension that fills a set asks: W by the turn, a measure and what is in -/
def tSs (K : PySem.W.Frag) (wi : TI) (g : TG) (tt : TT) (te : TE) (vs : List Nat) (σ : L2.St) (H : Hp) (Rf : List (Addr × List Int) → Hp → Prop) : Prop := wi σ H fun J H1 => ∃ W : Nat → Nat → List (Addr × List Int) → Hp → Prop, (∃ m, W 0 m [] H1) ∧ (∀ i m acc H, W i m acc H → ∀ q ∈ acc, TupH H q.1 q.2) ∧
  ∀ i m acc H, W i m acc H → (J.stop i H ∧ Rf acc H) ∨ (J.go i H ∧ ∃ Nx : List (Addr × List Int) → Hp → Prop, (∀ acc' H', Nx acc' H' → ∃ m', m' < m ∧ W (i + 1) m' acc' H') ∧
    ∀ x H', J.yld i H x H' → g x (wipe σ vs) H' fun σ2 H2 => wipe σ2 vs = wipe σ vs ∧ tt σ2 H2 fun b H3 => if b = true then te σ2 H3 fun y H4 => ∃ t k, y = .ref t ∧ TupH H4 t k ∧ (∀ q ∈ acc, TupH H4 q.1 q.2) ∧ (nub (acc.map (·.2))).length < 1228 ∧ Nx (acc ++ [(t, k)]) H4 else Nx acc H3)
theorem sc_raw {pins : List (Addr × Obj)} {s : Shared} {σ : L2.St} {H : Hp} {Rf : List (Addr × List Int) → Hp → Prop} {Qf : Value → Shared → Prop} {elt tg iter : Expr} {ifs : List Expr} {scope : Scope} {own : List (Str × Nat)} {pos : Pos} {wi : TI} {g : TG} {tt : TT} {te : TE} (hc : X.calm = true) (hN : X.N.Nodup) (hu : X.A.units + 2 < cLine)
    (I : Inv X pins σ H s) (hi : PI X tg iter wi) (ok : BlkOk X.N X.env.scope scope own)
    (hg : ∀ (s : Shared) (H : Hp) (C : Addr) (cl : List (Str × Addr)) (fp : List Addr), PG (X.blk s H scope (compEnvC scope cl C X.env) fp) tg g) (ht : ∀ (s : Shared) (H : Hp) (C : Addr) (cl : List (Str × Addr)) (fp : List Addr), PTs (X.blk s H scope (compEnvC scope cl C X.env) fp) ifs tt)
    (he : ∀ (s : Shared) (H : Hp) (C : Addr) (cl : List (Str × Addr)) (fp : List Addr), PE (X.blk s H scope (compEnvC scope cl C X.env) fp) elt te) (hs : ∀ x, foldedSetIterable iter X.env x = pure x)
    (h : tSs X.K wi g tt te (own.map (·.2)) σ H Rf)
    (hQ : ∀ D acc L s' H', Inv X pins σ H' s' → H' D = none → SetX X.prog X.w s'.heap D L → Has L acc → (∀ q ∈ acc, TupH H' q.1 q.2) → Rf acc H' → Qf (.ref D) s') :
    wpAny (model X.prog X.w) X.A (eval (.SetComp elt [⟨tg, iter, ifs, 0⟩] scope pos) X.env) Qf X.xe s := by
  have hfree : ∀ y ∈ scope.names, y.2 = .free → ∃ c, X.env.cells.lookup y.1 = some c := fun y hy e => (ok.free y hy e).elim (fun k => I.ok.has _ (.inl k)) fun k => I.ok.has _ (.inr k)
  rw [PpSet.eval_SetComp]
  refine wpAny_comprehension_free (use := none) rfl hs (closure_ok hfree) ok.kind (fun y hy e => by rw [ok.uniq y hy, e]) (thn (hi.run pins s σ H _ I h) fun xv s1 hx => thn hx fun itv s2 h2 => ?_)
  obtain ⟨it, fp, tn, J, H2, rfl, I2, T, st2, f2, W, ⟨m0, w0⟩, wt, turn⟩ := h2
  refine PpSet.newSet_ok (newEnv_comp ?_)
  -- the set's record D
  obtain ⟨D, hD⟩ : ∃ D, D = s2.heap.objs.size := ⟨_, rfl⟩
  rw [← hD]
  obtain ⟨s3, hs3⟩ : ∃ s3 : Shared, s3 = { s2 with heap := s2.heap.push { cls := .type "set", dict := none, data := .set #[] 0 (.fresh 0 0 (!X.w.params.followText "set-order")) } } := ⟨_, rfl⟩
  rw [← hs3]
  have old : ∀ b o, s2.heap.get? b = some o → s3.heap.get? b = some o := fun b o e => by rw [hs3]; exact Heap.get?_push_of_some _ e
  have I3 : Inv X pins σ H2 s3 := by rw [hs3]; exact I2.kept (t' := s2.toks) fun b o e => Heap.get?_push_of_some _ e
  have S3 : SetX X.prog X.w s3.heap D [] := by
    rw [hs3, hD]
    exact (setR_new (Heap.get?_push_size _ rfl)).x
  have fpD : ∀ b ∈ D :: fp, FpOk X pins H2 b ∧ b < s3.heap.objs.size := fun b hb => by
    rcases List.mem_cons.mp hb with rfl | hb
    · exact ⟨I2.fpOk (Nat.le_of_eq hD.symm) (I2.hok.fresh (Nat.le_of_eq hD.symm)), by rw [hs3, hD]; show _ < (s2.heap.push _).objs.size; rw [Heap.size_push]; exact Nat.lt_succ_self _⟩
    · obtain ⟨o, e, _⟩ := T.obj _ _ st2 b hb
      exact ⟨f2 b hb, Heap.lt_size (old b o e)⟩
  have dfp : D ∉ fp := fun hb => by
    obtain ⟨o, e, _⟩ := T.obj _ _ st2 D hb
    exact absurd (Heap.lt_size e) (by rw [hD]; exact Nat.lt_irrefl _)
  have I4 := block_start I3 ok hN fpD
  -- the block's context
  obtain ⟨ce, hce⟩ : ∃ ce, ce = compEnvC scope (cellsFrom (s3.heap.objs.size + 1) scope.names (cloFrom X.env.cells scope.names [])) s3.heap.objs.size X.env := ⟨_, rfl⟩
  have cL : ce.locals = s3.heap.objs.size := by rw [hce]; rfl
  have pg := hg s3 H2 s3.heap.objs.size (cellsFrom (s3.heap.objs.size + 1) scope.names (cloFrom X.env.cells scope.names [])) (D :: fp)
  have pt := ht s3 H2 s3.heap.objs.size (cellsFrom (s3.heap.objs.size + 1) scope.names (cloFrom X.env.cells scope.names [])) (D :: fp)
  have pe := he s3 H2 s3.heap.objs.size (cellsFrom (s3.heap.objs.size + 1) scope.names (cloFrom X.env.cells scope.names [])) (D :: fp)
  rw [← hce] at I4 pg pt pe
  obtain ⟨Y, hY⟩ : ∃ Y, Y = X.blk s3 H2 scope ce (D :: fp) := ⟨_, rfl⟩
  rw [← hY] at I4 pg pt pe
  have yp : Y.prog = X.prog ∧ Y.w = X.w ∧ Y.K = X.K ∧ Y.A = X.A ∧ Y.env = ce ∧ Y.calm = true ∧ Y.ex = D :: fp ∧ Y.pn = [] := by rw [hY]; exact ⟨rfl, rfl, rfl, rfl, rfl, hc, rfl, rfl⟩
  have frame : ∀ {pl : List (Addr × Obj)} {σ' : L2.St} {H' : Hp} {s' : Shared} {b : Addr}, Inv Y pl σ' H' s' → b ∈ D :: fp → H' b = none → (∀ p ∈ pl, p.1 ≠ b) → FpOk Y pl H' b := fun {pl σ' H' s' b} I' hb hn hp =>
    have hb' : b ∈ Y.ex := by rw [yp.2.2.2.2.2.2.1]; exact hb
    ⟨hn, (I'.ok.exf b hb').1, I'.ok.exfs b hb', .inl hb', fun x c e => (I'.ok.exf b hb').2 x c e, fun p hp' => hp p (by rw [yp.2.2.2.2.2.2.2] at hp'; exact hp')⟩
  -- at a turn's start
  let At : Nat → Nat → List (Addr × List Int) → Hp → Shared → Prop := fun i n acc H' s' => Inv Y [] (wipe σ (own.map (·.2))) H' s' ∧ tn i s'.heap ∧ (∀ b ∈ fp, H' b = none) ∧ H' D = none ∧ (∃ L, SetX X.prog X.w s'.heap D L ∧ Has L acc) ∧ W i n acc H'
  obtain ⟨s4, hs4⟩ : ∃ s4 : Shared, s4 = { s3 with heap := pushCells (s3.heap.push { cls := .type "dict", data := .dict #[] }) scope.names } := ⟨_, rfl⟩
  rw [← hs4] at I4
  have keep4 : ∀ b o, s3.heap.get? b = some o → s4.heap.get? b = some o := fun b o e => by rw [hs4]; exact pushCells_keeps _ _ _ _ (Heap.get?_push_of_some _ e)
  have at4 : At 0 m0 [] H2 s4 := ⟨I4, T.keep _ _ _ st2 fun b _ o e => keep4 b o (old b o e), fun b hb => (fpD b (List.mem_cons_of_mem _ hb)).1.1, (fpD D List.mem_cons_self).1.1, ⟨[], S3.at' fun o e => keep4 D o e, Has.nil⟩, w0⟩
  have loop : codeAny (model X.prog X.w) X.A (.compLoop (.SetComp elt [⟨tg, iter, ifs, 0⟩] scope pos) 0 (.ref it) (.ref D) ce) (compPost (model X.prog X.w) X.A X.xe none Qf (.ref D) ce.locals) s4 := by
    refine PpSet.compLoopS_any (fun n s' => ∃ i acc H', At i n acc H' s') ?_ m0 ⟨0, [], H2, at4⟩
    rintro n s5 ⟨i, acc, H5, I5, st5, n5, d5, ⟨L5, S5, hs5⟩, w5⟩
    have yrun : ∀ {α : Type} {tr : Sem α} {Q : α → Shared → Prop} {E E' : Value → Shared → Prop} {s' : Shared}, wpAny (model Y.prog Y.w) Y.A tr Q (fun _ _ => False) s' → wpAny (model X.prog X.w) X.A tr Q E s' := fun {α tr Q E E' s'} hh => by
      rw [yp.1, yp.2.1, yp.2.2.2.1] at hh
      exact wpAny_mono hh (fun _ _ q => q) fun _ _ z => z.elim
    rcases turn i n acc H5 w5 with ⟨stop, qq⟩ | ⟨go, Nx, hNx, step⟩
    · -- the end
      have I5p : Inv Y ([] ++ pinsAt [D] s5.heap) (wipe σ (own.map (·.2))) H5 s5 := I5.pinned (fun b hb => by rw [List.mem_singleton.mp hb]; exact frame I5 List.mem_cons_self d5 fun p hp => by cases hp) fun b hb => by rw [List.mem_singleton.mp hb]; exact S5.1
      have td := T.done Y yp.1 yp.2.1 yp.2.2.1 yp.2.2.2.2.2.1 i _ s5 _ H5 (fun _ _ => False) I5p (fun b hb => frame I5p (List.mem_cons_of_mem _ hb) (n5 b hb) fun p hp e => dfp (by
        have := (of_pinsAt (show p ∈ pinsAt [D] s5.heap from hp)).1
        rw [List.mem_singleton.mp this] at e
        rw [e]; exact hb)) st5 stop
      rw [yp.2.2.2.1] at td
      refine thnF td fun r s6 ⟨hr, I6⟩ => ?_
      subst hr
      obtain ⟨oD, hoD, _⟩ := S5.1
      have pD := I6.pin (D, oD) (List.mem_append_right _ (List.mem_append_right _ (mem_pinsAt (List.mem_singleton.mpr rfl) hoD)))
      have S6 : SetX X.prog X.w s6.heap D L5 := S5.at' fun o e => by rw [hoD] at e; cases e; exact pD.1
      have I6' : Inv Y [] (wipe σ (own.map (·.2))) H5 s6 := I6.unpinned (pins := [])
      have I7 : Inv X pins σ H5 s6 := by
        rw [hY] at I6'
        exact I3.call' (ch := D :: fp) I6'.os I6'.base I6'.hok I6'.bare fun b hb => ⟨(fpD b hb).1.2.2.2.1, (fpD b hb).1.2.1, (fpD b hb).1.2.2.2.2.1, (fpD b hb).1.2.2.2.2.2⟩
      have fC : FpOk X pins H5 ce.locals := by
        refine I3.fpOk (by rw [cL]; exact Nat.le_refl _) ?_
        have z := I6'.free
        rw [yp.2.2.2.2.1] at z
        exact z
      obtain ⟨m, hn, _⟩ := I6'.loc
      rw [yp.2.2.2.2.1] at hn
      refine ⟨m, hn, fun h'' sb => ?_⟩
      obtain ⟨f0, f1, f2', f3, f4, f5⟩ := fC
      have nDC : D ≠ ce.locals := by rw [cL]; exact Nat.ne_of_lt (fpD D List.mem_cons_self).2
      exact hQ D acc L5 _ H5 (I7.turned (t' := s6.toks) (fun b o hb e => (sb.2 b hb).trans e) f0 f1 f3 f4 f5) d5 (S6.at' fun o e => (sb.2 D nDC).trans e) hs5 (wt i n acc H5 w5) qq
    · -- a turn
      have I5p : Inv Y ([] ++ pinsAt [D] s5.heap) (wipe σ (own.map (·.2))) H5 s5 := I5.pinned (fun b hb => by rw [List.mem_singleton.mp hb]; exact frame I5 List.mem_cons_self d5 fun p hp => by cases hp) fun b hb => by rw [List.mem_singleton.mp hb]; exact S5.1
      have noD : ∀ b ∈ fp, ∀ p ∈ [] ++ pinsAt [D] s5.heap, p.1 ≠ b := fun b hb p hp e => dfp (by
        have := (of_pinsAt (show p ∈ pinsAt [D] s5.heap from hp)).1
        rw [List.mem_singleton.mp this] at e
        rw [e]; exact hb)
      have ti := T.item Y yp.1 yp.2.1 yp.2.2.1 yp.2.2.2.2.2.1 i _ s5 _ H5 (fun _ _ => False) I5p (fun b hb => frame I5p (List.mem_cons_of_mem _ hb) (n5 b hb) (noD b hb)) st5 go
      rw [yp.2.2.2.1] at ti
      refine thnF ti fun r s6 ⟨u, hr, h6⟩ => ?_
      subst hr
      refine thnF h6 fun _ s7 ⟨x, H7, I7, r7, y7, st7, n7⟩ => ?_
      obtain ⟨oD, hoD, hcD⟩ := S5.1
      have mD : (D, oD) ∈ [] ++ pinsAt [D] s5.heap := List.mem_append_right _ (mem_pinsAt (List.mem_singleton.mpr rfl) hoD)
      have I7' := I7.pinned (fun b hb => frame I7 (List.mem_cons_of_mem _ hb) (n7 b hb) (noD b hb)) (T.obj _ _ st7)
      have rg := pg.run _ s7 _ H7 x u _ I7' r7 (step x H7 y7)
      rw [yp.1, yp.2.1, yp.2.2.2.1, yp.2.2.2.2.1] at rg
      refine wpAny_mono rg (fun _ s8 ⟨σ8, H8, I8, hw8, q8⟩ => ?_) fun _ _ z => by rw [hY] at z; exact z.elim
      have rt := pt.run _ s8 σ8 H8 _ I8 q8
      rw [yp.1, yp.2.1, yp.2.2.2.1, yp.2.2.2.2.1] at rt
      refine wpAny_mono rt (fun b s9 ⟨H9, I9, q9⟩ => ?_) fun _ _ z => by rw [hY] at z; exact z.elim
      -- back at the start
      have back : ∀ {s' : Shared} {H' : Hp} {acc' : List (Addr × List Int)} {L' : List SRow}, Inv Y [] σ8 H' s' → (∀ b ∈ fp, ∀ o, s7.heap.get? b = some o → s'.heap.get? b = some o ∧ H' b = none) → H' D = none → SetX X.prog X.w s'.heap D L' → Has L' acc' → Nx acc' H' → ∃ m, m < n ∧ ∃ i acc H', At i m acc H' s' := fun {s' H' acc' L'} I' kp dn sx hx nx => by
        obtain ⟨m', hm, w'⟩ := hNx acc' H' nx
        have hl : (wipe σ (own.map (·.2))).length = σ8.length := by rw [← hw8, wipe_length]
        refine ⟨m', hm, i + 1, acc', H', I'.weak hl (fun j v e => ?_), T.keep _ _ _ st7 fun b hb o e => (kp b hb o e).1, fun b hb => ?_, dn, ⟨L', sx, hx⟩, w'⟩
        · rw [← hw8] at e; exact (wipe_some e).1
        · obtain ⟨o, e, _⟩ := T.obj _ _ st7 b hb
          exact (kp b hb o e).2
      have kept : ∀ {s' : Shared} {H' : Hp}, Inv Y ([] ++ pinsAt [D] s5.heap ++ pinsAt fp s7.heap) σ8 H' s' → (∀ b ∈ fp, ∀ o, s7.heap.get? b = some o → s'.heap.get? b = some o ∧ H' b = none) ∧ s'.heap.get? D = some oD ∧ H' D = none := fun {s' H'} I' =>
        ⟨fun b hb o e => let z := I'.pin (b, o) (List.mem_append_right _ (List.mem_append_right _ (mem_pinsAt hb e))); ⟨z.1, z.2.1⟩,
         let z := I'.pin (D, oD) (List.mem_append_right _ (List.mem_append_left _ mD)); ⟨z.1, z.2.1⟩⟩
      cases b with
      | false =>
        simp only [Bool.false_eq_true, if_false] at q9 ⊢
        obtain ⟨k1, k2, k3⟩ := kept I9
        exact back (I9.pins_of fun p hp => by cases hp) k1 k3 (S5.at' fun o e => by rw [hoD] at e; cases e; exact k2) hs5 q9
      | true =>
        simp only [if_true] at q9 ⊢
        have re := pe.run _ s9 σ8 H9 _ I9 q9
        rw [yp.1, yp.2.1, yp.2.2.2.1, yp.2.2.2.2.1] at re
        refine wpAny_mono re (fun z s10 ⟨yv, H10, I10, r10, t, k, ey, hk, hta, few, nx⟩ => ?_) fun _ _ z => by rw [hY] at z; exact z.elim
        subst ey
        cases (show z = Value.ref t from r10)
        obtain ⟨k1, k2, k3⟩ := kept I10
        have I10' : Inv Y [] σ8 H10 s10 := I10.pins_of fun p hp => by cases hp
        have S10 : SetX X.prog X.w s10.heap D L5 := S5.at' fun o e => by rw [hoD] at e; cases e; exact k2
        have hl5 : L5.length < 1228 := by
          have := hs5.perm.length_eq
          rw [List.length_map] at this
          omega
        have ad := add_raw (X := Y) (E := fun _ _ => False) (D := D) (t := t) (k := k) (L := L5) (acc := acc) (Q := fun _ s' => ∃ m, m < n ∧ ∃ i acc H', At i m acc H' s') (by rw [yp.2.2.2.1]; exact hu) I10' (frame I10' List.mem_cons_self k3 fun p hp => by cases hp) (by rw [yp.1, yp.2.1]; exact S10) hs5
          hta hk hl5 fun s11 L' I11 S11 h11 k11 => back I11 (fun b hb o e => ⟨k11 b o (fun z => dfp (z ▸ hb)) (k1 b hb o e).1, (k1 b hb o e).2⟩) k3 (by rw [yp.1, yp.2.1] at S11; exact S11) h11 nx
        rw [yp.1, yp.2.1, yp.2.2.2.1] at ad
        exact thnF ad fun _ _ q => q
  have goal := PpSet.codeAny_compStart_set loop (T.self X.A 0 _ _ _ (show tn 0 s4.heap from at4.2.1) loop)
  rw [hce] at goal
  rw [hs4] at goal
  exact goal
end
end Q

namespace Q
open PySem PySem.Spec PyProof.Rows L2
/-! ### a set of tuples of ints, sorted -/
def sortK (ks : List (List Int)) : List (List Int) := ks.mergeSort fun a b => decide (a ≤ b)
theorem sortK_pw (ks : List (List Int)) : (sortK ks).Pairwise (· ≤ ·) := by
  have h := List.pairwise_mergeSort (le := fun a b : List Int => decide (a ≤ b)) (fun a b c h1 h2 => decide_eq_true (List.le_trans (of_decide_eq_true h1) (of_decide_eq_true h2))) (fun a b => by
    rw [Bool.or_eq_true, decide_eq_true_eq, decide_eq_true_eq]
    exact List.le_total a b) ks
  exact h.imp fun h => of_decide_eq_true h
theorem sortK_perm {ks ls : List (List Int)} (p : ks.Perm ls) : sortK ks = sortK ls :=
  List.Perm.eq_of_pairwise (le := (· ≤ ·)) (fun a b _ _ h1 h2 => List.le_antisymm h1 h2) (sortK_pw ks) (sortK_pw ls) ((List.mergeSort_perm ks _).trans (p.trans (List.mergeSort_perm ls _).symm))
theorem sortK_mem {ks : List (List Int)} {k : List Int} : k ∈ sortK ks ↔ k ∈ ks := List.mem_mergeSort
section
variable {X : Cx}
/-- a value that is a tuple of these ints -/
def IsK (K : PySem.W.Frag) (H : Hp) (v : Value) (k : List Int) : Prop := ∃ t, v = .ref t ∧ TupH H t k
theorem isK_reads {pins : List (Addr × Obj)} {σ : L2.St} {H : Hp} {s : Shared} (I : Inv X pins σ H s) {v : Value} {k : List Int} (h : IsK X.K H v k) {h2 : Heap} (kp : ∀ b o, s.heap.get? b = some o → h2.get? b = some o) : ∃ as, Reads h2 v (.tuple (k.map PyData.int)) as := by
  obtain ⟨t, rfl, hq⟩ := h
  obtain ⟨o, items, n, ho, hc, hd, hi⟩ := I.isT (sqT_of hq)
  have key : ∀ {ks : List Int} {vs : List Value}, ItemsAre (intKind X.prog X.w) ks vs → ∃ as, ReadsAll h2 vs (ks.map PyData.int) as := by
    intro ks vs h
    induction h with
    | nil => exact ⟨_, .nil⟩
    | cons a b ih =>
      obtain ⟨as, r⟩ := ih
      obtain ⟨tk, rfl⟩ := Value.isInt_shape a
      exact ⟨_, .cons (.int _ _) r⟩
  obtain ⟨as, r⟩ := key hi
  exact ⟨_, .tuple (kp t o ho) hc hd r⟩
/-- items that are tuples of these ints -/
def VKs (K : PySem.W.Frag) (H : Hp) : List (List Int) → List V → Prop
  | [], ys => ys = []
  | k :: ks, ys => ∃ t zs, ys = .ref t :: zs ∧ TupH H t k ∧ VKs K H ks zs
theorem VKs.of {K : PySem.W.Frag} {H : Hp} : ∀ {vs : List Value} {ks : List (List Int)}, PySem.W.EachIs (IsK K H) vs ks → ∃ ys, Vals ys vs ∧ VKs K H ks ys
  | _, _, .nil => ⟨[], .nil, rfl⟩
  | _, _, .cons ⟨t, e, hq⟩ r => by
    obtain ⟨ys, a, b⟩ := VKs.of r
    subst e
    exact ⟨.ref t :: ys, .cons rfl a, t, ys, rfl, hq, b⟩
theorem VKs.length {K : PySem.W.Frag} {H : Hp} : ∀ {ks : List (List Int)} {ys : List V}, VKs K H ks ys → ks.length = ys.length
  | [], _, h => by rw [show _ = [] from h]; rfl
  | k :: ks, _, ⟨t, zs, e, _, h⟩ => by rw [e, List.length_cons, List.length_cons, VKs.length h]
theorem int_vrs {K : PySem.W.Frag} {r : List Addr} {H : Hp} : ∀ k : List Int, VRs K r H (k.map D.int) (k.map V.int)
  | [] => rfl
  | i :: k => ⟨.int i, _, rfl, rfl, int_vrs k⟩
def tupD (k : List Int) : D := .tup (k.map D.int)
theorem VKs.vrs {K : PySem.W.Frag} {r : List Addr} {H : Hp} : ∀ {ks : List (List Int)} {ys : List V}, VKs K H ks ys → VRs K r H (ks.map tupD) ys
  | [], _, h => h
  | k :: ks, _, ⟨t, zs, e, hq, h⟩ => ⟨.ref t, zs, e, ⟨t, _, rfl, hq, int_vrs k⟩, VKs.vrs h⟩
theorem perm_map_inv {α β : Type} {f : α → β} {vs ws : List β} (h : vs.Perm ws) : ∀ L : List α, ws = L.map f → ∃ L1 : List α, L1.Perm L ∧ vs = L1.map f := by
  induction h with
  | nil => intro L e; exact ⟨L, .refl _, e⟩
  | cons x _ ih =>
    intro L e
    cases L with
    | nil => cases e
    | cons p L =>
      rw [List.map_cons] at e
      obtain ⟨L1, a, b⟩ := ih L (List.cons.inj e).2
      exact ⟨p :: L1, a.cons p, by rw [List.map_cons, b, (List.cons.inj e).1]⟩
  | swap x y l =>
    intro L e
    match L, e with
    | p :: q :: L, e =>
      simp only [List.map_cons, List.cons.injEq] at e
      exact ⟨q :: p :: L, .swap p q L, by simp only [List.map_cons, e.1, e.2.1, e.2.2]⟩
  | trans _ _ ih1 ih2 =>
    intro L e
    obtain ⟨L2, a, b⟩ := ih2 L e
    obtain ⟨L1, c, d⟩ := ih1 L2 b
    exact ⟨L1, c.trans a, d⟩
theorem each_rows {K : PySem.W.Frag} {H : Hp} {acc : List (Addr × List Int)} (ht : ∀ q ∈ acc, TupH H q.1 q.2) : ∀ {L : List SRow}, (∀ p ∈ L, p.2 ∈ acc) → PySem.W.EachIs (IsK K H) (L.map fun p => Value.ref p.2.1) (L.map (·.2.2))
  | [], _ => .nil
  | p :: L, h => .cons ⟨p.2.1, rfl, ht _ (h p List.mem_cons_self)⟩ (each_rows ht fun q hq => h q (List.mem_cons_of_mem _ hq))
/-- the items collected, laid in a new list, sorted -/
theorem sort_tail {pins : List (Addr × Obj)} {σ : L2.St} {H : Hp} {s s1 : Shared} {vs : List Value} {ks : List (List Int)} {R : Value → Shared → Prop} {E : Value → Shared → Prop} (hu : X.A.units + 70 < cLine) (I : Inv X pins σ H s) (k1 : ∀ b o, s.heap.get? b = some o → s1.heap.get? b = some o) (hz : s.heap.objs.size ≤ s1.heap.objs.size) (g1 : s1.gens = s.gens) (o1 : s1.os = s.os)
    (e1 : PySem.W.EachIs (IsK X.K H) vs ks) (few : ks.length < 4000) (hQ : ∀ s' p ys, H p = none → VKs X.K H (sortK ks) ys → Inv X pins σ (upd H p (.lst ys)) s' → R (.ref p) s') :
    wpAny (model X.prog X.w) X.A.in1 (newList vs) (fun l s2 => wpAny (model X.prog X.w) X.A.in1 (holding [l] (call (.builtin "list.sort") [l])) (fun _ s3 => R l s3) E s2) E s1 := by
  have lv : vs.length ≤ sizeLine := by rw [e1.length, sizeLine_eq]; omega
  refine wpAny_newList ?_ lv
  have hoL : (s1.heap.push (seqObj "list" vs.toArray 0)).get? s1.heap.objs.size = some (seqObj "list" vs.toArray 0) := Heap.get?_push_size _ rfl
  have kp : ∀ b u, s.heap.get? b = some u → (PySem.W.sortingHeap (s1.heap.push (seqObj "list" vs.toArray 0)) s1.heap.objs.size vs).get? b = some u := fun b u e => by
    have q := k1 b u e
    exact PySem.W.sortingHeap_old (Nat.ne_of_lt (Heap.lt_size q)) (Heap.get?_push_of_some _ q)
  have er := e1.mono fun v k h => isK_reads I h kp
  have sr := sortsAt_tups (prog := X.prog) (w := X.w) (A := X.A.in1.in1) (s := { s1 with heap := PySem.W.sortingHeap (s1.heap.push (seqObj "list" vs.toArray 0)) s1.heap.objs.size vs }) (PySem.W.each_map (R := fun v d => ∃ as, Reads _ v d as) (fun k : List Int => PyData.tuple (k.map PyData.int)) er)
    (PySem.W.AllAlike.of fun a b => PySem.W.alike_ints a b) (fun d hd => by obtain ⟨k, _, rfl⟩ := List.mem_map.mp hd; exact ⟨_, rfl⟩) (fun d hd => by
      obtain ⟨k, _, rfl⟩ := List.mem_map.mp hd
      show X.A.units + 1 + 1 + (PyData.depthAll (k.map PyData.int) + 1) < cLine
      rw [PySem.W.depth_ints]
      omega)
  have outs := PySem.W.sortVals_data (h' := PySem.W.sortingHeap (s1.heap.push (seqObj "list" vs.toArray 0)) s1.heap.objs.size vs) (enc := fun k : List Int => PyData.tuple (k.map PyData.int)) false e1 er (PySem.W.AllAlike.of fun a b => PySem.W.alike_ints a b)
  have esort : ks.mergeSort (PySem.W.dataLe false fun k : List Int => PyData.tuple (k.map PyData.int)) = sortK ks := by
    have : (PySem.W.dataLe false fun k : List Int => PyData.tuple (k.map PyData.int)) = fun a b => decide (a ≤ b) := by
      funext a b; exact (vec_le a b).symm
    rw [this]
    rfl
  rw [esort] at outs
  obtain ⟨ys, ry, ky⟩ := VKs.of outs
  refine wpAny_holding (wpAny_call_entry slot_list_sort ⟨_, hoL, rfl⟩ entry_list_sort (PySem.W.list_sort_vals hoL sr lv ⟨.none, rfl, ?_⟩) (args_list_sort _))
  obtain ⟨c, hc'⟩ := sortedHeap_at (vs := vs) (out := (PySem.W.sortVals (PySem.W.dataKind (PySem.W.sortingHeap (s1.heap.push (seqObj "list" vs.toArray 0)) s1.heap.objs.size vs) (ks.map fun k : List Int => PyData.tuple (k.map PyData.int))) false vs vs).toArray) hoL
  have hn : H s1.heap.objs.size = none := I.hok.fresh hz
  have lo : ys.length ≤ sizeLine := by
    rw [← ky.length]
    have : (sortK ks).length = (ks).length := (List.mergeSort_perm _ _).length_eq
    rw [this, sizeLine_eq]
    omega
  generalize hout : PySem.W.sortVals (PySem.W.dataKind (PySem.W.sortingHeap (s1.heap.push (seqObj "list" vs.toArray 0)) s1.heap.objs.size vs) (ks.map fun k : List Int => PyData.tuple (k.map PyData.int))) false vs vs = out at hc' ry outs ⊢
  have k2 : ∀ b u, s.heap.get? b = some u → (sortedHeap (s1.heap.push (seqObj "list" vs.toArray 0)) s1.heap.objs.size vs out.toArray).get? b = some u := fun b u e => by
    have q := k1 b u e
    have hlt := Heap.lt_size q
    rw [sortedHeap_old (Nat.ne_of_lt hlt) (by rw [size_push']; exact Nat.lt_succ_of_lt hlt)]
    exact Heap.get?_push_of_some _ q
  have J : Inv X pins σ (upd H s1.heap.objs.size (.lst ys)) { s with heap := sortedHeap (s1.heap.push (seqObj "list" vs.toArray 0)) s1.heap.objs.size vs out.toArray, gens := s1.gens, drawn := s1.drawn, toks := s1.toks } :=
    I.call (ch := []) (Un.laid k2 hz hn) (I.hok.laid k2 hz ⟨lo, out, c, ry, hc'⟩) (by rw [g1]; exact I.bare) (fun _ z => nomatch z)
  have es1 : ({ s1 with heap := sortedHeap (s1.heap.push (seqObj "list" vs.toArray 0)) s1.heap.objs.size vs out.toArray } : Shared) = { s with heap := sortedHeap (s1.heap.push (seqObj "list" vs.toArray 0)) s1.heap.objs.size vs out.toArray, gens := s1.gens, drawn := s1.drawn, toks := s1.toks } := by
    cases s1; cases s; cases o1; rfl
  exact es1 ▸ hQ _ s1.heap.objs.size ys hn ky J
theorem sorted_raw {pins : List (Addr × Obj)} {σ : L2.St} {H : Hp} {s : Shared} {E : Value → Shared → Prop} {D : Addr} {L : List SRow} {acc : List (Addr × List Int)} {Q : Value → Shared → Prop} (hc : X.calm = true) (hu : X.A.units + 70 < cLine) (I : Inv X pins σ H s) (S : SetX X.prog X.w s.heap D L) (hs : Has L acc)
    (ht : ∀ q ∈ acc, TupH H q.1 q.2) (few : (nub (acc.map (·.2))).length < 4000)
    (hQ : ∀ s' p ys, H p = none → VKs X.K H (sortK (nub (acc.map (·.2)))) ys → Inv X pins σ (upd H p (.lst ys)) s' → Q (.ref p) s') :
    wpAny (model X.prog X.w) X.A (call (.builtin "sorted") [.ref D]) Q E s := by
  obtain ⟨_, es, ep, tb, f⟩ := S
  have R := f s.heap (fun _ e => e) fun p hp => I.isT (sqT_of (ht _ (hs.sub p hp)))
  obtain ⟨o, ho, hex, hd⟩ := R.ob
  have hl : L.length < 4000 := by have := hs.perm.length_eq; rw [List.length_map] at this; omega
  refine Calls.call_function_entry kind_sorted plain_sorted entry_sorted (args_sorted1 _) ?_
  unfold Builtin.«sorted»
  refine wpAny_bind (m := checkCount "sorted" 1 1 _) (wpAny_pure ?_)
  refine wpAny_bind (collect_set (A := X.A.in1) (I.ok.hd hc) ⟨o, ho, hex.1, hd⟩ R.fits (by rw [R.esz]; unfold scanBound; omega) R.ris' R.led fun s1 vs k1 hz g1 o1 pm => ?_)
  have evs : es.toList.map (·.2) = L.map fun p => Value.ref p.2.1 := by
    rw [R.cells, List.map_map]
    exact List.map_congr_left fun _ _ => rfl
  rw [evs] at pm
  obtain ⟨L1, p1, rfl⟩ := perm_map_inv pm L rfl
  have e1 := each_rows (K := X.K) (H := H) ht (L := L1) fun p hp => hs.sub p (p1.mem_iff.mp hp)
  have few1 : (L1.map (·.2.2)).length < 4000 := by rw [List.length_map, p1.length_eq]; exact hl
  refine wpAny_bind (wpAny_mono (sort_tail (R := fun v s' => Q v s') (E := E) hu I k1 hz g1 o1 e1 few1 fun s' p ys hp hk I' => ?_) (fun l s2 h2 => wpAny_bind (wpAny_mono h2 (fun _ s3 h3 => wpAny_pure ⟨_, rfl, h3⟩) fun _ _ z => z)) fun _ _ z => z)
  rw [sortK_perm ((p1.map _).trans hs.perm)] at hk
  exact hQ s' p ys hp hk I'
end
end Q

namespace Q
open PySem PySem.Spec PyProof.Rows L2
variable [Gh : Ghost]
/-! ### sets in the mirror: their keys, in the order of adding -/
abbrev MKs := En → Store → Res (List (List Int))
def intsX : List D → Option (List Int)
  | [] => some []
  | .int i :: l => (intsX l).map (i :: ·)
  | _ :: _ => none
def keyX : D → Option (List Int)
  | .tup xs => intsX xs
  | _ => none
theorem intsX_map : ∀ k : List Int, intsX (k.map D.int) = some k
  | [] => rfl
  | i :: k => by rw [List.map_cons]; unfold intsX; rw [intsX_map k]; rfl
theorem intsX_some : ∀ {xs : List D} {k : List Int}, intsX xs = some k → xs = k.map D.int
  | [], _, h => by cases h; rfl
  | x :: l, k, h => by
    cases x with
    | int i =>
      unfold intsX at h
      obtain ⟨k', h1, h2⟩ := Option.map_eq_some_iff.mp h
      rw [← h2, List.map_cons, ← intsX_some h1]
    | _ => cases h
theorem keyX_tup (k : List Int) : keyX (tupD k) = some k := intsX_map k
theorem keyX_some {d : D} {k : List Int} (h : keyX d = some k) : d = tupD k := by
  cases d with
  | tup xs => rw [intsX_some (show intsX xs = some k from h)]; rfl
  | _ => cases h
def RKs (K : PySem.W.Frag) : List Addr → Hp → List (List Int) → List (Addr × List Int) → Prop := fun _ H ks acc => acc.map (·.2) = ks ∧ ∀ q ∈ acc, TupH H q.1 q.2
theorem vrs_ints {K : PySem.W.Frag} {r : List Addr} {H : Hp} : ∀ {k : List Int} {vs : List V}, VRs K r H (k.map D.int) vs → vs = k.map V.int
  | [], _, h => h
  | i :: k, _, ⟨v, ws, e, h1, h2⟩ => by rw [e, vrs_ints h2, show v = .int i from h1]; rfl
theorem vr_tupD {K : PySem.W.Frag} {r : List Addr} {H : Hp} {k : List Int} {v : V} (h : VR K r H (tupD k) v) : ∃ t, v = .ref t ∧ TupH H t k := by
  obtain ⟨a, vs, e, hq, hv⟩ := h
  rw [vrs_ints hv] at hq
  exact ⟨a, e, hq⟩
/-- a set has come: its record stands aside -/
def SetOut (X : Cx) (pins : List (Addr × Obj)) (σ : L2.St) (Q : List (Addr × List Int) → Hp → Prop) (v : Value) (s' : Shared) : Prop :=
  ∃ D L acc H', v = .ref D ∧ Inv X pins σ H' s' ∧ H' D = none ∧ SetX X.prog X.w s'.heap D L ∧ Has L acc ∧ (∀ q ∈ acc, TupH H' q.1 q.2) ∧ Q acc H'
structure SndSt (X : Cx) (e : Expr) (m : MKs) : Prop where
  run : ∀ (W : WX), Takes X W → ∀ (en : En) (σ : L2.St) (r : List Addr) (H : Hp) (S : Store) (Q : List (Addr × List Int) → Hp → Prop), ER X.K r H en σ → ROk X.K r H S → Dn X.K r H (RKs X.K) (m en S) Q (WE W σ) →
    ∀ (pins : List (Addr × Obj)) (s : Shared), Inv X pins σ H s → wpAny (model X.prog X.w) X.A (eval e X.env) (SetOut X pins σ Q) X.xe s
def compS (mi : MI) (g : Pat) (mt : MT) (me : ME) : Nat → Nat → List (List Int) → En → Store → Res (List (List Int))
  | 0, _, _, _, _ => .bad
  | n + 1, i, acc, en, S => match nextM mi i S with
    | none => .bad
    | some none => .ok acc S
    | some (some d) => match g d S with
      | none => .bad
      | some ps => (mt (setsE en ps) S).calm.bind fun b S1 => match b with
        | false => compS mi g mt me n (i + 1) acc en S1
        | true => (me (setsE en ps) S1).calm.bind fun z S2 => match keyX z with
          | some k => if (nub acc).length < 1228 then compS mi g mt me n (i + 1) (acc ++ [k]) en S2 else .bad
          | none => .bad
def mSetC1 (m : MIt) (g : Pat) (mt : MT) (me : ME) (own : List Nat) (n : Nat) : MKs := fun en S => (m en S).bind fun mi S1 => compS mi g mt me n 0 [] (wipeD en own) S1
section
variable {X : Cx} {k : Nat} {e : Expr} {me : ME} {mt : MT} {pos : Pos} {tg iter : Expr} {mi : MIt} {g : Pat}
theorem st_setC {scope : Scope} {ow : List (Str × Nat)} {ifs : List Expr} (n : Nat) (gd : Gd X k) (hN : X.N.Nodup) (hi : SndI X tg iter mi) (ok : BlkOk X.N X.env.scope scope ow)
    (hg : InBlk X scope fun Y => SndG Y tg (ow.map (·.2)) g) (ht : InBlk X scope fun Y => SndF Y ifs mt) (he : InBlk X scope fun Y => SndE Y e me) (hs : ∀ x, foldedSetIterable iter X.env x = pure x := by intro _; rfl) :
    SndSt X (.SetComp e [⟨tg, iter, ifs, 0⟩] scope pos) (mSetC1 mi g mt me (ow.map (·.2)) n) := by
  refine ⟨?_⟩
  intro W tk en σ r H S Q er ro dn pins s I
  have hu := gd.room.un
  refine sc_raw (wi := wI X tg iter) (g := bG X scope tg) (tt := bF X scope ifs) (te := bE X scope e) gd.calm hN (by omega) I (pi_wI X tg iter) ok (pg_bG scope) (pts_bF scope) (pe_bE scope) hs (Rf := Q) ?_ fun D acc L s' H' I' hD hS hh ht hq => ⟨D, L, acc, H', rfl, I', hD, hS, hh, ht, hq⟩
  refine hi.run W tk en σ r H S _ er ro (Dn.imp (Dn.bind dn) fun J H1 ⟨mi, S1, r1, e1, s1, o1, k1, d1⟩ => ?_)
  obtain ⟨own, hown⟩ : ∃ own, own = ow.map (·.2) := ⟨_, rfl⟩
  rw [← hown] at d1 hg ⊢
  refine ⟨fun i m acc H' => ∃ r' S', ER X.K r' H' (wipeD en own) (wipe σ own) ∧ ROk X.K r' H' S' ∧ WkR X.K r' H' mi J ∧ (∀ q ∈ acc, TupH H' q.1 q.2) ∧ Dn X.K r' H' (RKs X.K) (compS mi g mt me m i (acc.map (·.2)) (wipeD en own) S') Q (WE W σ),
    ⟨n, r1, S1, (er.mono s1).wipe own, o1, k1, (fun q hq => nomatch hq), d1⟩, fun i m acc H' ⟨_, _, _, _, _, h, _⟩ => h, ?_⟩
  rintro i m acc H2 ⟨r2, S2, er2, o2, k2, t2, d2⟩
  cases m with
  | zero => exact d2.elim
  | succ m =>
    unfold compS at d2
    obtain ⟨w1, w2⟩ := k2 r2 H2 S2 i (Stp.refl _ _) o2
    cases q : nextM mi i S2 with
    | none => rw [q] at d2; exact d2.elim
    | some od =>
      cases od with
      | none => rw [q] at d2; exact .inl ⟨w1 q, Dn.ok_here (R := RKs X.K) (a := acc.map (·.2)) d2 o2 ⟨rfl, t2⟩⟩
      | some d =>
        rw [q] at d2
        obtain ⟨hgo, hy⟩ := w2 d q
        dsimp only at d2
        cases qg : g d S2 with
        | none => rw [qg] at d2; exact d2.elim
        | some ps =>
          rw [qg] at d2
          dsimp only at d2
          refine .inr ⟨hgo, fun acc' H' => ∃ r' S', ER X.K r' H' (wipeD en own) (wipe σ own) ∧ ROk X.K r' H' S' ∧ WkR X.K r' H' mi J ∧ (∀ q ∈ acc', TupH H' q.1 q.2) ∧ Dn X.K r' H' (RKs X.K) (compS mi g mt me m (i + 1) (acc'.map (·.2)) (wipeD en own) S') Q (WE W σ), fun acc' H' h => ⟨m, Nat.lt_succ_self m, h⟩, fun x H3 y => ?_⟩
          obtain ⟨s3, o3, k3⟩ := hy x H3 y
          have d2 := Dn.mono s3 d2
          have er3 := er2.mono s3
          have wk3 := k2.mono s3
          have t3 : ∀ q ∈ acc, TupH H3 q.1 q.2 := fun q hq => s3.tup _ _ (t2 q hq)
          refine fun s0 H0 C cl fp => (hg s0 H0 C cl fp).run d x ps _ r2 H3 S2 _ qg k3 o3 fun vs hps hw => ⟨wipe_sets σ own vs hw, ?_⟩
          have ers := hps.sets er3
          refine fun s0 H0 C cl fp => (ht s0 H0 C cl fp).run _ takes_blk _ _ r2 H3 S2 _ ers o3 (Dn.calm (Dn.imp (Dn.bind d2) fun b H4 ⟨b', S4, r4, e4, s4, o4, k4, d4⟩ => ?_))
          have k4 : b = b' := k4
          subst k4
          cases b with
          | false => exact ⟨r4, S4, er3.mono s4, o4, wk3.mono s4, fun q hq => s4.tup _ _ (t3 q hq), d4⟩
          | true =>
            show bE X scope e _ H4 _
            refine fun s0 H0 C cl fp => (he s0 H0 C cl fp).run _ takes_blk _ _ r4 H4 S4 _ (ers.mono s4) o4 (Dn.calm (Dn.imp (Dn.bind d4) fun y H5 ⟨z, S5, r5, e5, s5, o5, k5, d5⟩ => ?_))
            cases qk : keyX z with
            | none => rw [qk] at d5; exact d5.elim
            | some kk =>
              rw [qk] at d5
              dsimp only at d5
              obtain ⟨hf, d5⟩ := dn_if d5
              rw [keyX_some qk] at k5
              obtain ⟨t, ey, hq⟩ := vr_tupD k5
              have t5 : ∀ q ∈ acc, TupH H5 q.1 q.2 := fun q hq => s5.tup _ _ (s4.tup _ _ (t3 q hq))
              refine ⟨t, kk, ey, hq, t5, hf, r5, S5, (er3.mono s4).mono s5, o5, (wk3.mono s4).mono s5, fun q hq' => ?_, by rw [List.map_append]; exact d5⟩
              rcases List.mem_append.mp hq' with z | z
              · exact t5 q z
              · rw [List.mem_singleton.mp z]; exact hq
/-! sorted(a set) -/
def sortS (ks : List (List Int)) (S : Store) : Res D := if (nub ks).length < 4000 then .ok (.ref S.length) (S ++ [.lst ((sortK (nub ks)).map tupD)]) else .bad
def mSortS (m : MKs) : ME := fun en S => (m en S).bind fun ks S1 => sortS ks S1
theorem e_sortS {x : Str} {p : Pos} {m : MKs} (gd : Gd X k) (hg : Gl X x) (hm : X.mg x = none) (hv : bootBuiltins x = some (.builtin "sorted")) (ha : SndSt X e m) (hn : x ≠ "__name__" := by decide) (hdb : (x == ("__debug__" : Str)) = false := by decide)
    (he : starEach [e] X.env = (false, eval e X.env) :: starEach [] X.env := by rfl) (hpl : (backTo pos (starEach [] X.env)).any (·.1) = false := by rfl) : SndE X (.Call (.Name x p) [e] [] pos) (mSortS m) := by
  refine ⟨?_⟩
  intro W tk en σ r H S Q er ro dn pins s I
  refine wpAny_Call_Name_kw (ld_blt I hg hm hv ?_ hn hdb)
  refine PyProof.Rows.callWith_builtin1 ?_ he hpl
  rw [he]
  refine Calls.spliced_cons (thn (ha.run W tk en σ r H S _ er ro (Dn.bind dn) pins s I) fun v s1 ⟨D, L, acc, H1, ev, I1, hD, hS, hh, ht, ks, S1, r1, e1, st1, o1, k1, d1⟩ => Calls.spliced_nil ?_)
  subst ev
  unfold sortS at d1
  obtain ⟨hl, d1⟩ := dn_if d1
  rw [← k1.1] at hl d1
  have hu := gd.room.un
  refine sorted_raw gd.calm (by omega) I1 hS hh ht hl fun s' p ys hp hk I2 => ⟨.ref p, _, I2, rfl, ?_⟩
  obtain ⟨n1, n2, n3⟩ := new_lst (X := X) (ds := (sortK (nub (acc.map (·.2)))).map tupD) o1 hk.vrs hp
  exact d1 _ _ _ n1 n2 n3
end
end Q

namespace Q
open PySem PySem.Spec PyProof.Rows L2
theorem len_of_sub {α : Type} [DecidableEq α] : ∀ {l m : List α}, l.Nodup → (∀ x ∈ l, x ∈ m) → l.length ≤ m.length
  | [], _, _, _ => Nat.zero_le _
  | x :: l, m, nd, h => by
    obtain ⟨h1, h2⟩ := List.nodup_cons.mp nd
    have hx : x ∈ m := h x List.mem_cons_self
    have := len_of_sub (l := l) (m := m.erase x) h2 fun y hy => (List.mem_erase_of_ne (fun e : y = x => h1 (by rw [← e]; exact hy))).mpr (h y (List.mem_cons_of_mem _ hy))
    rw [List.length_erase_of_mem hx] at this
    have : 0 < m.length := List.length_pos_of_mem hx
    rw [List.length_cons]
    omega
section
variable {P : Program} {w : World} {A : Around} {E : Value → Shared → Prop} {s : Shared}
end
end Q

namespace Q
open PySem PySem.Spec PyProof.Rows L2
variable [Gh : Ghost]
/-! ### dicts whose keys are tuples of ints -/
def inlK (k : List Int) : List Key := k.map Sum.inl
theorem inlK_inj : ∀ {a b : List Int}, inlK a = inlK b → a = b
  | [], [], _ => rfl
  | [], _ :: _, h => by cases h
  | _ :: _, [], h => by cases h
  | x :: a, y :: b, h => by
    unfold inlK at h
    rw [List.map_cons, List.map_cons] at h
    obtain ⟨h1, h2⟩ := List.cons.inj h
    rw [Sum.inl.inj h1, inlK_inj h2]
theorem kV_inlK (k : List Int) : (inlK k).map kV = k.map V.int := by
  unfold inlK
  rw [List.map_map]
  exact List.map_congr_left fun _ _ => rfl
def getT (kvs : List (List Int × D)) (k : List Int) : Option D := (kvs.find? fun p => decide (p.1 = k)).map (·.2)
def putT (kvs : List (List Int × D)) (k : List Int) (z : D) : List (List Int × D) := if (kvs.any fun p => decide (p.1 = k)) = true then kvs.map (fun p => if p.1 = k then (p.1, z) else p) else kvs ++ [(k, z)]
section
variable {K : PySem.W.Frag} {r : List Addr} {H : Hp} {k : List Int}
theorem KTR.length : ∀ {ds : List (List Int × D)} {vs : List (List Key × V)}, KTR K r H ds vs → ds.length = vs.length
  | [], _, h => by rw [show _ = [] from h]; rfl
  | p :: ds, _, ⟨v, ws, e, _, h⟩ => by rw [e, List.length_cons, List.length_cons, KTR.length h]
theorem KTR.any : ∀ {ds : List (List Int × D)} {vs : List (List Key × V)}, KTR K r H ds vs → (ds.any fun p => decide (p.1 = k)) = vs.any fun p => decide (p.1 = inlK k)
  | [], _, h => by rw [show _ = [] from h]; rfl
  | p :: ds, _, ⟨v, ws, e, _, h⟩ => by
    rw [e, List.any_cons, List.any_cons, KTR.any h]
    refine congrArg (· || _) ?_
    by_cases c : p.1 = k
    · rw [decide_eq_true c, decide_eq_true (show (p.1.map Sum.inl : List Key) = inlK k by rw [c]; rfl)]
    · rw [decide_eq_false c, decide_eq_false (show ¬ ((p.1.map Sum.inl : List Key), v).1 = inlK k from fun z => c (inlK_inj z))]
theorem KTR.get : ∀ {ds : List (List Int × D)} {vs : List (List Key × V)}, KTR K r H ds vs → (getT ds k = none ∧ valV vs (inlK k) = none) ∨ ∃ d v, getT ds k = some d ∧ valV vs (inlK k) = some v ∧ VR K r H d v
  | [], _, h => by rw [show _ = [] from h]; exact .inl ⟨rfl, rfl⟩
  | p :: ds, _, ⟨v, ws, e, hv, h⟩ => by
    subst e
    unfold getT
    rw [List.find?_cons]
    by_cases c : p.1 = k
    · rw [decide_eq_true c]
      refine .inr ⟨p.2, v, rfl, ?_, hv⟩
      exact valV_pos (show (p.1.map Sum.inl : List Key) = inlK k by rw [c]; rfl)
    · rw [decide_eq_false c]
      rw [valV_neg (show ¬ ((p.1.map Sum.inl : List Key), v).1 = inlK k from fun z => c (inlK_inj z))]
      exact KTR.get h
theorem KTR.repl {d : D} {v : V} (hd : VR K r H d v) : ∀ {ds : List (List Int × D)} {vs : List (List Key × V)}, KTR K r H ds vs → KTR K r H (ds.map fun p => if p.1 = k then (p.1, d) else p) (vs.map fun p => if p.1 = inlK k then (p.1, v) else p)
  | [], _, h => by rw [show _ = [] from h]; rfl
  | p :: ds, _, ⟨w, ws, e, hw, h⟩ => by
    subst e
    rw [List.map_cons, List.map_cons]
    by_cases c : p.1 = k
    · rw [if_pos c, if_pos (show (p.1.map Sum.inl : List Key) = inlK k by rw [c]; rfl)]
      exact ⟨v, _, rfl, hd, KTR.repl hd h⟩
    · rw [if_neg c, if_neg (show ¬ ((p.1.map Sum.inl : List Key), w).1 = inlK k from fun z => c (inlK_inj z))]
      exact ⟨w, _, rfl, hw, KTR.repl hd h⟩
theorem KTR.snoc {d : D} {v : V} (hd : VR K r H d v) : ∀ {ds : List (List Int × D)} {vs : List (List Key × V)}, KTR K r H ds vs → KTR K r H (ds ++ [(k, d)]) (vs ++ [(inlK k, v)])
  | [], _, h => by rw [show _ = [] from h]; exact ⟨v, [], rfl, hd, rfl⟩
  | p :: ds, _, ⟨w, ws, e, hw, h⟩ => by subst e; exact ⟨w, _, rfl, hw, KTR.snoc hd h⟩
theorem KTR.put {d : D} {v : V} (hd : VR K r H d v) {ds : List (List Int × D)} {vs : List (List Key × V)} (h : KTR K r H ds vs) : KTR K r H (putT ds k d) (putK vs (inlK k) v) := by
  unfold putT putK
  rw [h.any]
  split
  · exact h.repl hd
  · exact h.snoc hd
end
/-! a dict whose rows are known, locked or not -/
def RdT (S : Store) (n : Nat) (kvs : List (List Int × D)) : Prop := S[n]? = some (.dcT kvs) ∨ S[n]? = some (.lkT kvs)
theorem ROk.rdT {K : PySem.W.Frag} {r : List Addr} {H : Hp} {S : Store} {n : Nat} {kvs : List (List Int × D)} (ro : ROk K r H S) (h : RdT S n kvs) (a : Addr) (ha : r[n]? = some a) : ∃ vs, Rd H a (.dT vs) ∧ KTR K r H kvs vs := by
  rcases h with h | h
  · obtain ⟨vs, h1, h2⟩ := ro.ob n _ a h ha
    exact ⟨vs, .inl h1, h2⟩
  · obtain ⟨o, vs, h1, h2⟩ := ro.ob n _ a h ha
    exact ⟨vs, .inr ⟨o, h1⟩, h2⟩
/-! in, not in: dicts too -/
def dctIn (d e : D) (S : Store) : Option Bool := match e with
  | .ref n => match S[n]? with
    | some (.dcT kvs) => (keyX d).map fun k => (getT kvs k).isSome
    | some (.dct kvs) => (keyD d).map fun k => (lookK kvs k).isSome
    | some (.lkT kvs) => (keyX d).map fun k => (getT kvs k).isSome
    | _ => inD d e S
  | _ => inD d e S
def gInD : G2 := fun d e S => (dctIn d e S).map fun b => (.bl b, S)
section
variable {X : Cx} {k : Nat}
theorem dctIn_ok {d e : D} {S : Store} {b : Bool} (h : dctIn d e S = some b) : inD d e S = some b ∨ (∃ n kvs k, e = .ref n ∧ RdT S n kvs ∧ keyX d = some k ∧ b = (getT kvs k).isSome) ∨ ∃ n kvs k, e = .ref n ∧ S[n]? = some (.dct kvs) ∧ keyD d = some k ∧ b = (lookK kvs k).isSome := by
  unfold dctIn at h
  split at h
  · rename_i n
    split at h
    · rename_i kvs q
      obtain ⟨k, h1, h2⟩ := Option.map_eq_some_iff.mp h
      exact .inr (.inl ⟨n, kvs, k, rfl, .inl q, h1, h2.symm⟩)
    · rename_i kvs q
      obtain ⟨k, h1, h2⟩ := Option.map_eq_some_iff.mp h
      exact .inr (.inr ⟨n, kvs, k, rfl, q, h1, h2.symm⟩)
    · rename_i kvs q
      obtain ⟨k, h1, h2⟩ := Option.map_eq_some_iff.mp h
      exact .inr (.inl ⟨n, kvs, k, rfl, .inr q, h1, h2.symm⟩)
    · exact .inl h
  · exact .inl h
theorem dget_T {r : List Addr} {H : Hp} {S : Store} {d : D} {n : Nat} {kvs : List (List Int × D)} {k : List Int} {x y : V} (k1 : VR X.K r H d x) (k2 : VR X.K r H (.ref n) y) (ro : ROk X.K r H S) (q : RdT S n kvs) (hk : keyX d = some k) :
    ∃ a o, y = .ref a ∧ DGet H a x o ∧ o.isSome = (getT kvs k).isSome ∧ ∀ z, getT kvs k = some z → ∃ v, o = some v ∧ VR X.K r H z v := by
  obtain ⟨a, ha, rfl⟩ := k2
  obtain ⟨vs, h1, h2⟩ := ro.rdT q a ha
  rw [keyX_some hk] at k1
  obtain ⟨t, rfl, ht⟩ := vr_tupD k1
  have g : DGet H a (.ref t) (valV vs (inlK k)) := .inr ⟨vs, inlK k, t, h1, rfl, by rw [kV_inlK]; exact ht, rfl⟩
  refine ⟨a, _, rfl, g, ?_, fun z hz => ?_⟩
  · rcases h2.get (k := k) with ⟨e1, e2⟩ | ⟨z, v, e1, e2, _⟩
    · rw [e1, e2]; rfl
    · rw [e1, e2]; rfl
  · rcases h2.get (k := k) with ⟨e1, _⟩ | ⟨z', v, e1, e2, hv⟩
    · rw [e1] at hz; cases hz
    · rw [e1] at hz; cases hz; exact ⟨v, e2, hv⟩
theorem dget_K {r : List Addr} {H : Hp} {S : Store} {d : D} {n : Nat} {kvs : List (Key × D)} {k : Key} {x y : V} (k1 : VR X.K r H d x) (k2 : VR X.K r H (.ref n) y) (ro : ROk X.K r H S) (q : S[n]? = some (.dct kvs)) (hk : keyD d = some k) :
    ∃ a o, y = .ref a ∧ DGet H a x o ∧ o.isSome = (lookK kvs k).isSome := by
  obtain ⟨a, ha, rfl⟩ := k2
  obtain ⟨vs, h1, h2⟩ := ro.ob n _ a q ha
  have ex : x = kV k := keyD_ok hk k1
  subst ex
  refine ⟨a, valV vs k, rfl, DGet.k h1, ?_⟩
  have z := h2.look k
  cases q' : lookK kvs k with
  | none => rw [q'] at z; rw [show valV vs k = none from z]; rfl
  | some d => rw [q'] at z; obtain ⟨v, e, _⟩ := z; rw [e]; rfl
theorem o_inD (hu : X.A.units + 65 < cLine) : OpD X (compareOp .In) gInD := by
  refine ⟨?_⟩
  intro d e z x y r H S S' Q q k1 k2 ro ed
  obtain ⟨b, h, q⟩ := Option.map_eq_some_iff.mp q
  cases q
  rcases dctIn_ok h with h | ⟨n, kvs, kk, rfl, hs, hk, rfl⟩ | ⟨n, kvs, kk, rfl, hs, hk, rfl⟩
  · exact (o_in hu).run d e _ x y r H S S Q (by unfold gIn; rw [h]; rfl) k1 k2 ro ed
  · obtain ⟨a, o, rfl, g, hb, _⟩ := dget_T k1 k2 ro hs hk
    intro pins s σ v u I rx ry
    obtain rfl : u = Value.ref a := ry
    refine d_in (by omega) I g rx fun s' I' => ?_
    rw [hb]
    exact ⟨.bl _, H, I', rfl, ed.flat ro rfl⟩
  · obtain ⟨a, o, rfl, g, hb⟩ := dget_K k1 k2 ro hs hk
    intro pins s σ v u I rx ry
    obtain rfl : u = Value.ref a := ry
    refine d_in (by omega) I g rx fun s' I' => ?_
    rw [hb]
    exact ⟨.bl _, H, I', rfl, ed.flat ro rfl⟩
/-! {key: value for .. in ..} -/
theorem d_dictSetT {pins : List (Addr × Obj)} {σ : L2.St} {H : Hp} {s : Shared} {E : Value → Shared → Prop} {D b : Addr} {kvs : List (List Key × V)} {k : List Key} {v : V} {r : Value} {Q : Unit → Shared → Prop} (hu : X.A.units + 1 < cLine) (I : Inv X pins σ H s) (hD : H D = some (.dT kvs)) (hb : H b = some (.tup (k.map kV))) (hz : kvs.length < sizeLine)
    (rv : RelV v r) (h : ∀ s', Inv X pins σ (upd H D (.dT (putK kvs k v))) s' → Q () s') : wpAny (model X.prog X.w) X.A (dictSet D (.ref b) r) Q E s := by
  obtain ⟨z, hd, xs, rel, dd⟩ := dt_of I.hok hD
  have hxs : xs.length ≤ sizeLine := by rw [← Paired.length rel]; exact z
  have hl : (putK kvs k v).length ≤ sizeLine := by have := length_putK kvs k v; omega
  have key := key_of I.hok hb
  show wpAny _ _ (holding [.ref b, r] (do dictSetHashed D (.ref b) (← pyHash (.ref b)) r)) _ _ _
  refine wpAny_holding (wpAny_bind ((tupleKind (mixKind X.prog X.w)).pyHash (A := X.A) (show X.A.units < cLine by omega) key ?_))
  refine wpAny_dictSetHashed_heap (s := { s with toks := s.toks + (tupleKind (mixKind X.prog X.w)).draws k }) (hsz := hxs) (show X.A.units < cLine by omega) key dd fun h' dd' hs => ?_
  obtain ⟨q, es, ep, hq, h2, h3, h4, _, h5⟩ := dd'
  refine h _ (d_write (t' := s.toks + (tupleKind (mixKind X.prog X.w)).draws k) (I.tok (s.toks + (tupleKind (mixKind X.prog X.w)).draws k)) (by rw [hD]; exact True.intro) hs ⟨q, hq⟩ ⟨hl, hd, _, (rel.put k hb rv).keeps fun c ys ec => ?_, q, es, ep, hq, h2, h3, h4, h5⟩)
  rw [upd_ne (ne_of ec hD (fun z => nomatch z))]
  exact ec
def tDs (wi : TI) (g : TG) (tt : TT) (tk tv : TE) (vs : List Nat) : TE := fun σ H Q => wi σ H fun J H1 => ∀ D, H1 D = none → ∃ W : Nat → Nat → Hp → Prop, (∃ m, W 0 m (upd H1 D (.dT []))) ∧ ∀ i m H, W i m H →
  (J.stop i H ∧ Q (.ref D) H) ∨ (J.go i H ∧ ∃ Nx : Hp → Prop, (∀ H', Nx H' → ∃ m', m' < m ∧ W (i + 1) m' H') ∧ ∀ x H', J.yld i H x H' → g x (wipe σ vs) H' fun σ2 H2 => wipe σ2 vs = wipe σ vs ∧ tt σ2 H2 fun b H3 =>
    if b = true then tk σ2 H3 fun y H4 => tv σ2 H4 fun z H5 => ∃ kvs k t, y = .ref t ∧ H5 t = some (.tup (k.map kV)) ∧ H5 D = some (.dT kvs) ∧ kvs.length < sizeLine ∧ Nx (upd H5 D (.dT (putK kvs k z))) else Nx H3)
theorem dct_core {pins : List (Addr × Obj)} {s : Shared} {σ : L2.St} {H : Hp} {Q : VK} {kx vx tg iter : Expr} {ifs : List Expr} {scope : Scope} {own : List (Str × Nat)} {pos pos2 : Pos} {use : Option (Value → Sem Unit)} {Qf : Value → Shared → Prop} {wi : TI} {g : TG} {tt : TT} {tk tv : TE} (hc : X.calm = true) (hN : X.N.Nodup) (hu : X.A.units + 2 < cLine)
    (I : Inv X pins σ H s) (hi : PI X tg iter wi) (ok : BlkOk X.N X.env.scope scope own)
    (hg : ∀ (s : Shared) (H : Hp) (C : Addr) (cl : List (Str × Addr)) (fp : List Addr), PG (X.blk s H scope (compEnvC scope cl C X.env) fp) tg g) (ht : ∀ (s : Shared) (H : Hp) (C : Addr) (cl : List (Str × Addr)) (fp : List Addr), PTs (X.blk s H scope (compEnvC scope cl C X.env) fp) ifs tt)
    (hk : ∀ (s : Shared) (H : Hp) (C : Addr) (cl : List (Str × Addr)) (fp : List Addr), PE (X.blk s H scope (compEnvC scope cl C X.env) fp) kx tk) (he : ∀ (s : Shared) (H : Hp) (C : Addr) (cl : List (Str × Addr)) (fp : List Addr), PE (X.blk s H scope (compEnvC scope cl C X.env) fp) vx tv) (hs : ∀ x, foldedSetIterable iter X.env x = pure x)
    (h : tDs wi g tt tk tv (own.map (·.2)) σ H Q)
    (hRR : ∀ D C s' m H', Inv X pins σ H' s' → Q (.ref D) H' → s'.heap.Ns C m → FpOk X pins H' C → compPost (model X.prog X.w) X.A X.xe use Qf (.ref D) C (.ok .next) s') :
    wpAny (model X.prog X.w) X.A (comprehension (.DictComp kx vx [⟨tg, iter, ifs, 0⟩] scope pos) scope X.env pos2 newDict false (eval iter X.env) use) Qf X.xe s := by
  have hfree : ∀ y ∈ scope.names, y.2 = .free → ∃ c, X.env.cells.lookup y.1 = some c := fun y hy e => (ok.free y hy e).elim (fun k => I.ok.has _ (.inl k)) fun k => I.ok.has _ (.inr k)
  refine wpAny_comprehension_free (use := use) rfl hs (closure_ok hfree) ok.kind (fun y hy e => by rw [ok.uniq y hy, e]) (thn (hi.run pins s σ H _ I h) fun xv s1 hx => thn hx fun itv s2 h2 => ?_)
  obtain ⟨it, fp, tn, J, H2, rfl, I2, T, st2, f2, q⟩ := h2
  refine wpAny_newObj_type (newEnv_comp ?_)
  obtain ⟨D, hD⟩ : ∃ D, D = s2.heap.objs.size := ⟨_, rfl⟩
  rw [← hD]
  obtain ⟨W, ⟨m0, w0⟩, turn⟩ := q D (I2.hok.fresh (Nat.le_of_eq hD.symm))
  obtain ⟨s3, hs3⟩ : ∃ s3 : Shared, s3 = { s2 with heap := s2.heap.push { cls := .type "dict", data := .dict #[] } } := ⟨_, rfl⟩
  rw [← hs3]
  obtain ⟨H3, hH3⟩ : ∃ H3, H3 = upd H2 D (.dT []) := ⟨_, rfl⟩
  rw [← hH3] at w0
  have old : ∀ b o, s2.heap.get? b = some o → s3.heap.get? b = some o := fun b o e => by rw [hs3]; exact Heap.get?_push_of_some _ e
  have I3 : Inv X pins σ H3 s3 := by
    rw [hs3, hH3, hD]
    exact I2.laid (t' := s2.toks) (fun b o e => Heap.get?_push_of_some _ e) (Nat.le_refl _) (dt_empty s2.heap I2.big)
  have fpo : ∀ b ∈ fp, FpOk X pins H3 b ∧ b < s3.heap.objs.size := fun b hb => by
    obtain ⟨o, e, _⟩ := T.obj _ _ st2 b hb
    refine ⟨⟨?_, (f2 b hb).2⟩, Heap.lt_size (old b o e)⟩
    rw [hH3, upd_ne (by rw [hD]; exact Nat.ne_of_lt (Heap.lt_size e))]
    exact (f2 b hb).1
  have I4 := block_start I3 ok hN fpo
  obtain ⟨ce, hce⟩ : ∃ ce, ce = compEnvC scope (cellsFrom (s3.heap.objs.size + 1) scope.names (cloFrom X.env.cells scope.names [])) s3.heap.objs.size X.env := ⟨_, rfl⟩
  have cL : ce.locals = s3.heap.objs.size := by rw [hce]; rfl
  have pg := hg s3 H3 s3.heap.objs.size (cellsFrom (s3.heap.objs.size + 1) scope.names (cloFrom X.env.cells scope.names [])) fp
  have pt := ht s3 H3 s3.heap.objs.size (cellsFrom (s3.heap.objs.size + 1) scope.names (cloFrom X.env.cells scope.names [])) fp
  have pk := hk s3 H3 s3.heap.objs.size (cellsFrom (s3.heap.objs.size + 1) scope.names (cloFrom X.env.cells scope.names [])) fp
  have pe := he s3 H3 s3.heap.objs.size (cellsFrom (s3.heap.objs.size + 1) scope.names (cloFrom X.env.cells scope.names [])) fp
  rw [← hce] at I4 pg pt pk pe
  obtain ⟨Y, hY⟩ : ∃ Y, Y = X.blk s3 H3 scope ce fp := ⟨_, rfl⟩
  rw [← hY] at I4 pg pt pk pe
  have yp : Y.prog = X.prog ∧ Y.w = X.w ∧ Y.K = X.K ∧ Y.A = X.A ∧ Y.env = ce ∧ Y.calm = true ∧ Y.ex = fp ∧ Y.pn = [] := by rw [hY]; exact ⟨rfl, rfl, rfl, rfl, rfl, hc, rfl, rfl⟩
  have frame : ∀ {σ' : L2.St} {H' : Hp} {s' : Shared} {b : Addr}, Inv Y [] σ' H' s' → b ∈ fp → H' b = none → FpOk Y [] H' b := fun {σ' H' s' b} I' hb hn =>
    have hb' : b ∈ Y.ex := by rw [yp.2.2.2.2.2.2.1]; exact hb
    ⟨hn, (I'.ok.exf b hb').1, I'.ok.exfs b hb', .inl hb', fun x c e => (I'.ok.exf b hb').2 x c e, fun p hp' => by rw [yp.2.2.2.2.2.2.2] at hp'; cases hp'⟩
  let At : Nat → Nat → Hp → Shared → Prop := fun i n H' s' => Inv Y [] (wipe σ (own.map (·.2))) H' s' ∧ tn i s'.heap ∧ (∀ b ∈ fp, H' b = none) ∧ W i n H'
  obtain ⟨s4, hs4⟩ : ∃ s4 : Shared, s4 = { s3 with heap := pushCells (s3.heap.push { cls := .type "dict", data := .dict #[] }) scope.names } := ⟨_, rfl⟩
  rw [← hs4] at I4
  have keep4 : ∀ b o, s3.heap.get? b = some o → s4.heap.get? b = some o := fun b o e => by rw [hs4]; exact pushCells_keeps _ _ _ _ (Heap.get?_push_of_some _ e)
  have at4 : At 0 m0 H3 s4 := ⟨I4, T.keep _ _ _ st2 fun b _ o e => keep4 b o (old b o e), fun b hb => (fpo b hb).1.1, w0⟩
  have loop : codeAny (model X.prog X.w) X.A (.compLoop (.DictComp kx vx [⟨tg, iter, ifs, 0⟩] scope pos) 0 (.ref it) (.ref D) ce) (compPost (model X.prog X.w) X.A X.xe use Qf (.ref D) ce.locals) s4 := by
    refine compLoop_anyD (fun n s' => ∃ i H', At i n H' s') ?_ m0 ⟨0, H3, at4⟩
    rintro n s5 ⟨i, H5, I5, st5, n5, w5⟩
    rcases turn i n H5 w5 with ⟨stop, qq⟩ | ⟨go, Nx, hNx, step⟩
    · have td := T.done Y yp.1 yp.2.1 yp.2.2.1 yp.2.2.2.2.2.1 i _ s5 _ H5 (fun _ _ => False) I5 (fun b hb => frame I5 hb (n5 b hb)) st5 stop
      rw [yp.2.2.2.1] at td
      refine thnF td fun r s6 ⟨hr, I6⟩ => ?_
      subst hr
      have I7 : Inv X pins σ H5 s6 := by
        rw [hY] at I6
        exact I3.call' (ch := fp) I6.os I6.base I6.hok I6.bare fun b hb => ⟨(fpo b hb).1.2.2.2.1, (fpo b hb).1.2.1, (fpo b hb).1.2.2.2.2.1, (fpo b hb).1.2.2.2.2.2⟩
      have fC : FpOk X pins H5 ce.locals := by
        refine I3.fpOk (by rw [cL]; exact Nat.le_refl _) ?_
        have z := I6.free
        rw [yp.2.2.2.2.1] at z
        exact z
      obtain ⟨m, hn, _⟩ := I6.loc
      rw [yp.2.2.2.2.1] at hn
      exact hRR D ce.locals s6 m H5 I7 qq hn fC
    · have ti := T.item Y yp.1 yp.2.1 yp.2.2.1 yp.2.2.2.2.2.1 i _ s5 _ H5 (fun _ _ => False) I5 (fun b hb => frame I5 hb (n5 b hb)) st5 go
      rw [yp.2.2.2.1] at ti
      refine thnF ti fun r s6 ⟨u, hr, h6⟩ => ?_
      subst hr
      refine thnF h6 fun _ s7 ⟨x, H7, I7, r7, y7, st7, n7⟩ => ?_
      have I7' := I7.pinned (fun b hb => frame I7 hb (n7 b hb)) (T.obj _ _ st7)
      have rg := pg.run _ s7 _ H7 x u _ I7' r7 (step x H7 y7)
      rw [yp.1, yp.2.1, yp.2.2.2.1, yp.2.2.2.2.1] at rg
      refine wpAny_mono rg (fun _ s8 ⟨σ8, H8, I8, hw8, q8⟩ => ?_) fun _ _ z => by rw [hY] at z; exact z.elim
      have rt := pt.run _ s8 σ8 H8 _ I8 q8
      rw [yp.1, yp.2.1, yp.2.2.2.1, yp.2.2.2.2.1] at rt
      refine wpAny_mono rt (fun b s9 ⟨H9, I9, q9⟩ => ?_) fun _ _ z => by rw [hY] at z; exact z.elim
      have back : ∀ {s' : Shared} {H' : Hp}, Inv Y ([] ++ pinsAt fp s7.heap) σ8 H' s' → Nx H' → ∃ m, m < n ∧ ∃ i H', At i m H' s' := fun {s' H'} I' nx => by
        obtain ⟨m', hm, w'⟩ := hNx H' nx
        have kp : ∀ b ∈ fp, ∀ o, s7.heap.get? b = some o → s'.heap.get? b = some o ∧ H' b = none := fun b hb o e => let z := I'.pin (b, o) (List.mem_append_right _ (List.mem_append_right _ (mem_pinsAt hb e))); ⟨z.1, z.2.1⟩
        have hl : (wipe σ (own.map (·.2))).length = σ8.length := by rw [← hw8, wipe_length]
        refine ⟨m', hm, i + 1, H', (I'.pins_of fun p hp => by cases hp).weak hl (fun j v e => ?_), T.keep _ _ _ st7 fun b hb o e => (kp b hb o e).1, fun b hb => ?_, w'⟩
        · rw [← hw8] at e; exact (wipe_some e).1
        · obtain ⟨o, e, _⟩ := T.obj _ _ st7 b hb
          exact (kp b hb o e).2
      cases b with
      | false =>
        simp only [Bool.false_eq_true, if_false] at q9 ⊢
        exact back I9 q9
      | true =>
        simp only [if_true] at q9 ⊢
        have rk := pk.run _ s9 σ8 H9 _ I9 q9
        rw [yp.1, yp.2.1, yp.2.2.2.1, yp.2.2.2.2.1] at rk
        refine wpAny_mono rk (fun z s10 ⟨yk, H10, I10, r10, q10⟩ => ?_) fun _ _ z => by rw [hY] at z; exact z.elim
        have rv := pe.run _ s10 σ8 H10 _ I10 q10
        rw [yp.1, yp.2.1, yp.2.2.2.1, yp.2.2.2.2.1] at rv
        refine wpAny_mono rv (fun z2 s11 ⟨yv, H11, I11, r11, kvs, kk, t, ek, htp, hD11, hz11, nx⟩ => ?_) fun _ _ z => by rw [hY] at z; exact z.elim
        subst ek
        cases (show z = Value.ref t from r10)
        have ds := d_dictSetT (X := Y) (E := fun _ _ => False) (Q := fun _ s' => ∃ m, m < n ∧ ∃ i H', At i m H' s') (by rw [yp.2.2.2.1]; omega) I11 hD11 htp hz11 r11 fun s12 I12 => back I12 nx
        rw [yp.1, yp.2.1, yp.2.2.2.1] at ds
        exact thnF ds fun _ _ q => q
  have goal := codeAny_compStart_dict loop (T.self X.A 0 _ _ _ (show tn 0 s4.heap from at4.2.1) loop)
  rw [hce] at goal
  rw [hs4] at goal
  exact goal
theorem dct_raw {pins : List (Addr × Obj)} {s : Shared} {σ : L2.St} {H : Hp} {Q : VK} {kx vx tg iter : Expr} {ifs : List Expr} {scope : Scope} {own : List (Str × Nat)} {pos : Pos} {wi : TI} {g : TG} {tt : TT} {tk tv : TE} (hc : X.calm = true) (hN : X.N.Nodup) (hu : X.A.units + 2 < cLine)
    (I : Inv X pins σ H s) (hi : PI X tg iter wi) (ok : BlkOk X.N X.env.scope scope own)
    (hg : ∀ (s : Shared) (H : Hp) (C : Addr) (cl : List (Str × Addr)) (fp : List Addr), PG (X.blk s H scope (compEnvC scope cl C X.env) fp) tg g) (ht : ∀ (s : Shared) (H : Hp) (C : Addr) (cl : List (Str × Addr)) (fp : List Addr), PTs (X.blk s H scope (compEnvC scope cl C X.env) fp) ifs tt)
    (hk : ∀ (s : Shared) (H : Hp) (C : Addr) (cl : List (Str × Addr)) (fp : List Addr), PE (X.blk s H scope (compEnvC scope cl C X.env) fp) kx tk) (he : ∀ (s : Shared) (H : Hp) (C : Addr) (cl : List (Str × Addr)) (fp : List Addr), PE (X.blk s H scope (compEnvC scope cl C X.env) fp) vx tv) (hs : ∀ x, foldedSetIterable iter X.env x = pure x)
    (h : tDs wi g tt tk tv (own.map (·.2)) σ H Q) :
    wpAny (model X.prog X.w) X.A (eval (.DictComp kx vx [⟨tg, iter, ifs, 0⟩] scope pos) X.env) (EP X pins σ Q) X.xe s := by
  rw [arm_eval_DictComp]
  refine dct_core (pos2 := firstIterPos [⟨tg, iter, ifs, 0⟩] pos) hc hN hu I hi ok hg ht hk he hs h fun D C s' m H' I' q hn f => ⟨m, hn, fun h'' sb => ?_⟩
  obtain ⟨f0, f1, f2, f3, f4, f5⟩ := f
  exact ⟨.ref D, H', I'.turned (t' := s'.toks) (fun b o hb e => (sb.2 b hb).trans e) f0 f1 f3 f4 f5, rfl, q⟩
/-- name = {..} on one line, the name a local -/
theorem ps_setDt {i : Nat} {y : Str} {py : Pos} {kx vx tg iter : Expr} {ifs : List Expr} {scope : Scope} {own : List (Str × Nat)} {pos spos : Pos} {wi : TI} {g : TG} {tt : TT} {tk tv : TE} (hc : X.calm = true) (hN : X.N.Nodup) (hu : X.A.units + 2 < cLine) (hy : X.N[i]? = some y) (hyl : X.env.scope.names.lookup y = some .local)
    (hsw : swapsWith (.DictComp kx vx [⟨tg, iter, ifs, 0⟩] scope pos) (some (.Name y py)) spos.line X.env = pure true) (hi : PI X tg iter wi) (ok : BlkOk X.N X.env.scope scope own)
    (hg : ∀ (s : Shared) (H : Hp) (C : Addr) (cl : List (Str × Addr)) (fp : List Addr), PG (X.blk s H scope (compEnvC scope cl C X.env) fp) tg g) (ht : ∀ (s : Shared) (H : Hp) (C : Addr) (cl : List (Str × Addr)) (fp : List Addr), PTs (X.blk s H scope (compEnvC scope cl C X.env) fp) ifs tt)
    (hk : ∀ (s : Shared) (H : Hp) (C : Addr) (cl : List (Str × Addr)) (fp : List Addr), PE (X.blk s H scope (compEnvC scope cl C X.env) fp) kx tk) (he : ∀ (s : Shared) (H : Hp) (C : Addr) (cl : List (Str × Addr)) (fp : List Addr), PE (X.blk s H scope (compEnvC scope cl C X.env) fp) vx tv) (hs : ∀ x, foldedSetIterable iter X.env x = pure x) :
    PS X (.Assign [.Name y py] (.DictComp kx vx [⟨tg, iter, ifs, 0⟩] scope pos) spos) (tAsg (tDs wi g tt tk tv (own.map (·.2))) (gName i)) := by
  refine ⟨fun pins s σ H D I h => ?_⟩
  rw [exec_Assign_Name_used _ _ _ _ hsw]
  refine wpAny_bind (wpAny_standAt (wpAny_bind ?_))
  show wpAny _ X.A (do let _ ← comprehension (.DictComp kx vx [⟨tg, iter, ifs, 0⟩] scope pos) scope X.env (firstIterPos [⟨tg, iter, ifs, 0⟩] pos) newDict false (eval iter X.env) (some (assign (.Name y py) X.env))) _ _ s
  have h : tDs wi g tt tk tv (own.map (·.2)) σ H (fun x H1 => gName i x σ H1 D.nx) := h
  refine wpAny_bind (thn (dct_core (Qf := fun _ s' => SP X pins D .next s') hc hN hu I hi ok hg ht hk he hs h fun L C s' m H' I' q hn f => ?_) fun _ s' hq => wpAny_pure (wpAny_pure hq))
  refine wpAny_assign_Name (store_ok2 (v := V.ref L) I' hN hy (.inl hyl) rfl (fun s2 I2 ⟨a, sb, ha⟩ => ?_) (.inr hyl))
  obtain ⟨f0, f1, f2, f3, f4, f5⟩ := f
  have haC : C ≠ a := ha.elim (fun z => by rw [z]; exact f1) fun z e => f4 y a z e.symm
  exact ⟨m, hn.sameBut sb haC, fun h3 sb3 => ⟨_, H', I2.turned (t' := s2.toks) (fun b o hb e => (sb3.2 b hb).trans e) f0 f1 f3 f4 f5, q⟩⟩
end
end Q

namespace Q
open PySem PySem.Spec PyProof.Rows L2
variable [Gh : Ghost]
/-! ### set(a list) -/
section
variable {X : Cx} {k : Nat} {e : Expr} {pos p : Pos} {x : Str}
/-! len(a set) -/
/-! {key: value for .. in ..}, the keys tuples of ints -/
def compDT (mi : MI) (g : Pat) (mt : MT) (mk mv : ME) (n0 : Nat) : Nat → Nat → En → Store → Res D
  | 0, _, _, _ => .bad
  | n + 1, i, en, S => match nextM mi i S with
    | none => .bad
    | some none => .ok (.ref n0) S
    | some (some d) => match g d S with
      | none => .bad
      | some ps => (mt (setsE en ps) S).calm.bind fun b S1 => match b with
        | false => compDT mi g mt mk mv n0 n (i + 1) en S1
        | true => (mk (setsE en ps) S1).calm.bind fun y S2 => (mv (setsE en ps) S2).calm.bind fun z S3 => match keyX y with
          | none => .bad
          | some k => match S3[n0]? with
            | some (.dcT acc) => if acc.length < sizeLine then compDT mi g mt mk mv n0 n (i + 1) en (S3.set n0 (.dcT (putT acc k z))) else .bad
            | _ => .bad
def mDctT (m : MIt) (g : Pat) (mt : MT) (mk mv : ME) (own : List Nat) (n : Nat) : ME := fun en S => (m en S).bind fun mi S1 => compDT mi g mt mk mv S1.length n 0 (wipeD en own) (S1 ++ [.dcT []])
theorem new_dcT {r : List Addr} {H : Hp} {S : Store} {q : Addr} (o : ROk X.K r H S) (hq : H q = none) :
    Stp r H (r ++ [q]) (upd H q (.dT [])) ∧ ROk X.K (r ++ [q]) (upd H q (.dT [])) (S ++ [.dcT []]) ∧ (r ++ [q])[S.length]? = some q :=
  ⟨Stp.new hq, o.new hq ⟨[], upd_same, rfl⟩, by rw [← o.len, List.getElem?_append_right (Nat.le_refl _), Nat.sub_self]; rfl⟩
theorem tDs_dn {tg iter kx vx : Expr} {scope : Scope} {ow : List (Str × Nat)} {ifs : List Expr} {mi : MIt} {g : Pat} {mt : MT} {mk mv : ME} (n : Nat) (gd : Gd X k) (hN : X.N.Nodup) (hi : SndI X tg iter mi) (ok : BlkOk X.N X.env.scope scope ow)
    (hg : InBlk X scope fun Y => SndG Y tg (ow.map (·.2)) g) (ht : InBlk X scope fun Y => SndF Y ifs mt) (hk : InBlk X scope fun Y => SndE Y kx mk) (he : InBlk X scope fun Y => SndE Y vx mv) (hs : ∀ x, foldedSetIterable iter X.env x = pure x := by intro _; rfl)
    (W : WX) (tk : Takes X W) {en : En} {σ : L2.St} {r : List Addr} {H : Hp} {S : Store} {Q : VK} (er : ER X.K r H en σ) (ro : ROk X.K r H S) (dn : Dn X.K r H (VR X.K) (mDctT mi g mt mk mv (ow.map (·.2)) n en S) Q (WE W σ)) :
    tDs (wI X tg iter) (bG X scope tg) (bF X scope ifs) (bE X scope kx) (bE X scope vx) (ow.map (·.2)) σ H Q := by
  refine hi.run W tk en σ r H S _ er ro (Dn.imp (Dn.bind dn) fun J H1 ⟨mi, S1, r1, e1, s1, o1, k1, d1⟩ => ?_)
  obtain ⟨own, hown⟩ : ∃ own, own = ow.map (·.2) := ⟨_, rfl⟩
  rw [← hown] at d1 hg ⊢
  intro Dd hD
  obtain ⟨n1, n2, n3⟩ := new_dcT (X := X) o1 hD
  refine ⟨fun i m H' => ∃ r' S', ER X.K r' H' (wipeD en own) (wipe σ own) ∧ ROk X.K r' H' S' ∧ WkR X.K r' H' mi J ∧ r'[S1.length]? = some Dd ∧ Dn X.K r' H' (VR X.K) (compDT mi g mt mk mv S1.length m i (wipeD en own) S') Q (WE W σ),
    ⟨n, r1 ++ [Dd], S1 ++ [.dcT []], ((er.mono s1).mono n1).wipe own, n2, k1.mono n1, n3, Dn.mono n1 d1⟩, ?_⟩
  rintro i m H2 ⟨r2, S2, er2, o2, k2, hd2, d2⟩
  cases m with
  | zero => exact d2.elim
  | succ m =>
    unfold compDT at d2
    obtain ⟨w1, w2⟩ := k2 r2 H2 S2 i (Stp.refl _ _) o2
    cases q : nextM mi i S2 with
    | none => rw [q] at d2; exact d2.elim
    | some od =>
      cases od with
      | none => rw [q] at d2; exact .inl ⟨w1 q, Dn.ok_here (R := VR X.K) (a := .ref S1.length) d2 o2 ⟨Dd, hd2, rfl⟩⟩
      | some d =>
        rw [q] at d2
        obtain ⟨hgo, hy⟩ := w2 d q
        dsimp only at d2
        cases qg : g d S2 with
        | none => rw [qg] at d2; exact d2.elim
        | some ps =>
          rw [qg] at d2
          dsimp only at d2
          refine .inr ⟨hgo, fun H' => ∃ r' S', ER X.K r' H' (wipeD en own) (wipe σ own) ∧ ROk X.K r' H' S' ∧ WkR X.K r' H' mi J ∧ r'[S1.length]? = some Dd ∧ Dn X.K r' H' (VR X.K) (compDT mi g mt mk mv S1.length m (i + 1) (wipeD en own) S') Q (WE W σ), fun H' h => ⟨m, Nat.lt_succ_self m, h⟩, fun x H3 y => ?_⟩
          obtain ⟨s3, o3, k3⟩ := hy x H3 y
          have d2 := Dn.mono s3 d2
          have er3 := er2.mono s3
          have wk3 := k2.mono s3
          have hd3 := s3.pre _ _ hd2
          refine fun s0 H0 C cl fp => (hg s0 H0 C cl fp).run d x ps _ r2 H3 S2 _ qg k3 o3 fun vs hps hw => ⟨wipe_sets σ own vs hw, ?_⟩
          have ers := hps.sets er3
          refine fun s0 H0 C cl fp => (ht s0 H0 C cl fp).run _ takes_blk _ _ r2 H3 S2 _ ers o3 (Dn.calm (Dn.imp (Dn.bind d2) fun b H4 ⟨b', S4, r4, e4, s4, o4, k4, d4⟩ => ?_))
          have k4 : b = b' := k4
          subst k4
          cases b with
          | false => exact ⟨r4, S4, er3.mono s4, o4, wk3.mono s4, s4.pre _ _ hd3, d4⟩
          | true =>
            show bE X scope kx _ H4 _
            refine fun s0 H0 C cl fp => (hk s0 H0 C cl fp).run _ takes_blk _ _ r4 H4 S4 _ (ers.mono s4) o4 (Dn.calm (Dn.imp (Dn.bind d4) fun y H5 ⟨z, S5, r5, e5, s5, o5, k5, d5⟩ => ?_))
            refine fun s0 H0 C cl fp => (he s0 H0 C cl fp).run _ takes_blk _ _ r5 H5 S5 _ ((ers.mono s4).mono s5) o5 (Dn.calm (Dn.imp (Dn.bind d5) fun y2 H6 ⟨z2, S6, r6, e6, s6, o6, k6, d6⟩ => ?_))
            have hd6 := s6.pre _ _ (s5.pre _ _ (s4.pre _ _ hd3))
            cases qk : keyX z with
            | none => rw [qk] at d6; exact d6.elim
            | some kk =>
              rw [qk] at d6
              dsimp only at d6
              rw [keyX_some qk] at k5
              obtain ⟨t, ey, hq⟩ := vr_tupD k5
              cases ql : S6[S1.length]? with
              | none => rw [ql] at d6; exact d6.elim
              | some ob =>
                rw [ql] at d6
                have ho := o6.ob _ ob Dd ql hd6
                cases ob with
                | dcT acc =>
                  obtain ⟨ws, h1, h2⟩ := ho
                  obtain ⟨hz, d6⟩ := dn_if d6
                  have ss : Stp r6 H6 r6 (upd H6 Dd (.dT (putK ws (inlK kk) y2))) := Stp.mut h1 trivial
                  refine ⟨ws, inlK kk, t, ey, by rw [kV_inlK]; exact s6.tup _ _ hq, h1, by rw [← h2.length]; exact hz, r6, _, (((er3.mono s4).mono s5).mono s6).mono ss, o6.mut (o := .dcT (putT acc kk z2)) hd6 h1 trivial ⟨_, upd_same, (h2.mono ss).put (k6.mono ss)⟩, (((wk3.mono s4).mono s5).mono s6).mono ss, hd6, Dn.mono ss d6⟩
                | _ => exact d6.elim
/-! sorted(..): also of a dict -/
theorem e_dctT {tg iter kx vx : Expr} {scope : Scope} {ow : List (Str × Nat)} {ifs : List Expr} {mi : MIt} {g : Pat} {mt : MT} {mk mv : ME} (n : Nat) (gd : Gd X k) (hN : X.N.Nodup) (hi : SndI X tg iter mi) (ok : BlkOk X.N X.env.scope scope ow)
    (hg : InBlk X scope fun Y => SndG Y tg (ow.map (·.2)) g) (ht : InBlk X scope fun Y => SndF Y ifs mt) (hk : InBlk X scope fun Y => SndE Y kx mk) (he : InBlk X scope fun Y => SndE Y vx mv) (hs : ∀ x, foldedSetIterable iter X.env x = pure x := by intro _; rfl) :
    SndE X (.DictComp kx vx [⟨tg, iter, ifs, 0⟩] scope pos) (mDctT mi g mt mk mv (ow.map (·.2)) n) := by
  refine ⟨?_⟩
  intro W tk en σ r H S Q er ro dn pins s I
  have hu := gd.room.un
  refine dct_raw (wi := wI X tg iter) (g := bG X scope tg) (tt := bF X scope ifs) (tk := bE X scope kx) (tv := bE X scope vx) gd.calm hN (by omega) I (pi_wI X tg iter) ok (pg_bG scope) (pts_bF scope) (pe_bE scope) (pe_bE scope) hs (tDs_dn n gd hN hi ok hg ht hk he hs W tk er ro dn)
/-- y = {..} on one line -/
theorem s_setD {i : Nat} {y : Str} {py spos : Pos} {tg iter kx vx : Expr} {scope : Scope} {ow : List (Str × Nat)} {ifs : List Expr} {mi : MIt} {g : Pat} {mt : MT} {mk mv : ME} (n : Nat) (gd : Gd X k) (hN : X.N.Nodup) (hy : X.N[i]? = some y) (hyl : X.env.scope.names.lookup y = some .local) (hsw : swapsWith (.DictComp kx vx [⟨tg, iter, ifs, 0⟩] scope pos) (some (.Name y py)) spos.line X.env = pure true) (hi : SndI X tg iter mi) (ok : BlkOk X.N X.env.scope scope ow)
    (hg : InBlk X scope fun Y => SndG Y tg (ow.map (·.2)) g) (ht : InBlk X scope fun Y => SndF Y ifs mt) (hk : InBlk X scope fun Y => SndE Y kx mk) (he : InBlk X scope fun Y => SndE Y vx mv) (hs : ∀ x, foldedSetIterable iter X.env x = pure x := by intro _; rfl) :
    SndS X (.Assign [.Name y py] (.DictComp kx vx [⟨tg, iter, ifs, 0⟩] scope pos) spos) (mSet i (mDctT mi g mt mk mv (ow.map (·.2)) n)) := by
  refine ⟨fun W tk en σ r H S D er ro dn => ?_⟩
  have hu := gd.room.un
  refine wS_of (ps_setDt gd.calm hN (by omega) hy hyl hsw (pi_wI X tg iter) ok (pg_bG scope) (pts_bF scope) (pe_bE scope) (pe_bE scope) hs) ?_
  exact tDs_dn (Q := fun x H1 => D.nx (σ.set i (some x)) H1) n gd hN hi ok hg ht hk he hs W tk er ro (Dn.imp (DnS.stm (R := VR X.K) er dn) fun x H1 ⟨d, S1, r1, e1, s1, o1, k1, er1, d1⟩ => DnS.nx_here (e := en.set i (some d)) (σ := σ.set i (some x)) d1 o1 (er1.set k1))
end
end Q

namespace Q
open PySem PySem.Spec PyProof.Rows L2
variable [Gh : Ghost]
/-! ### C.m(..), m a static method -/
structure StatOf (K : PySem.W.Frag) (C : Addr) (mc : Value) (nm : Str) (p f : Addr) : Prop where
  ga : PySem.W.specialIn K (.ref C) "__getattribute__" = some (some (.builtin "type.__getattribute__"))
  rd : PySem.W.readsIn K C mc = true
  at_ : PySem.W.findCls K (.ref C) mc nm = some (.get (.builtin "staticmethod.__get__") (.ref p) .none (.ref C))
  rc : ∃ rest, PySem.W.recIn K p "staticmethod" = some (.ref f :: rest)
  kp : PySem.W.keepIn K (.ref f) = true
section
variable {X : Cx} {k : Nat} {f p C : Addr} {fd : FuncData} {ps : List Str} {M : MF} {dvs : List V} {dds : List D} {dsv : List Value} {x y nm : Str} {pc pos apos p1 px : Pos} {e : Expr} {es : List Expr} {m : MA} {mo : ME} {mc : Value}
theorem e_stat {pl : Sem Bool} (st : StatOf X.K C mc nm p f) (F : FnM X.prog X.w X.K X.mg X.base k f fd ps M) (g : Gd X k) (hb : Binds X.K fd ps dsv) (hd : Vals dvs dsv) (kd : ∀ r H, VRs X.K r H dds dvs) (hg : Gl X x) (hm : X.mg x = some (.ref C)) (ha : SndA X (e :: es) m)
    (hdb : (x == ("__debug__" : Str)) = false := by decide) (hst : starEach (e :: es) X.env = (false, eval e X.env) :: starEach es X.env := by rfl) (hpl : (backTo pos (starEach es X.env)).any (·.1) = false := by rfl)
    (ht : eval (.Call (.Attribute (.Name x pc) nm apos) (e :: es) [] pos) X.env = (do
      let ov ← eval (.Name x pc) X.env
      standAt apos.atName
      let (f, first) ← holding [ov] (getMethod ov nm pl)
      callWith pos f first (backTo pos (starEach (e :: es) X.env)) (backToKw pos (keywordEach [] X.env))) := by rfl) :
    SndE X (.Call (.Attribute (.Name x pc) nm apos) (e :: es) [] pos) (mCallF M ps.length dds m) := by
  refine ⟨?_⟩
  intro W tk en σ r H S Q er ro dn pins s I
  refine PySem.W.methodCall_KW (pl := pl) (ld_glob I hg hm ?_ hdb) ht
  obtain ⟨rest, hp⟩ := st.rc
  refine PySem.W.method_cls I.kIn st.ga (PySem.W.cls_bind I.kIn st.rd st.at_ (wpAny_call (PySem.W.sm_get (s := { s with toks := s.toks + 1 }) I.kIn hp (PySem.W.handed_on rfl ?_))))
  have I1 := I.tok (s.toks + 1)
  refine PySem.W.callWith_K (first := []) (h₀ := X.base) I1.ok.mod.kin st.kp (thn (ha.run W tk en σ r H S _ er ro (Dn.bind dn) pos pins _ I1) fun us s2 ⟨vs2, H2, I2, rv, ds, S2, r2, e2, st2, o2, k2, d2⟩ => ⟨I2.kIn, ?_⟩) hst hpl
  obtain ⟨hl, d2⟩ := dn_if d2
  exact run_M F g hb hd tk I2 rv hl k2 (kd r2 H2) o2 d2
/-! ### len(e) -/
/-! ### isinstance(e, C): objects of several own classes -/
end
/-! ### what is known of a class's place among the others -/
theorem all_nil {α : Type} {P : α → Prop} : ∀ c ∈ ([] : List α), P c := fun _ h => nomatch h
theorem all_cons {α : Type} {P : α → Prop} {a : α} {l : List α} (h : P a) (t : ∀ c ∈ l, P c) : ∀ c ∈ a :: l, P c := fun c hc => by
  rcases List.mem_cons.mp hc with e | e
  · rw [e]; exact h
  · exact t c e
/-! ### a def that asks super(), by its text -/
open NdefX
structure SupFn (K : PySem.W.Frag) (x qual : Str) (params : Arguments) (body : List Stmt) (scope : Scope) (f : Addr) (fd : FuncData) (cda cc D : Addr) (file : Str) : Prop where
  ex : ∃ oc od kV doc pm an ct osl, fd = PySem.W.fnX x qual params body scope (clsCl cc) .none kV doc pm an (.ref cda) ct ∧ K.lookup f = some ⟨oc, od, .func fd, osl⟩
  cd : PySem.W.codeIn K (.ref cda) qual = true
  cell : ∃ cl cld csl, K.lookup cc = some ⟨cl, cld, .cell (some (.ref D)), csl⟩
  code : ∃ ccl cdd vs ccs tf, K.lookup cda = some ⟨ccl, cdd, .fields vs, ccs⟩ ∧ vs[2]? = some (.str file tf)
theorem SupFn.bindsN {K : PySem.W.Frag} {x qual : Str} {params : Arguments} {body : List Stmt} {scope : Scope} {f : Addr} {fd : FuncData} {cda cc D : Addr} {file : Str} {ps : List Str} (S : SupFn K x qual params body scope f fd cda cc D file)
    (h : ∀ (kV doc pm : Value) (an : Option Addr) (ct : Value) (us : List Value), us.length = ps.length → bindArgs (PySem.W.fnX x qual params body scope (clsCl cc) .none kV doc pm an (.ref cda) ct) ⟨us, []⟩ = pure (ps.zip us)) : L2.Binds K fd ps [] := by
  obtain ⟨oc, od, kV, doc, pm, an, ct, osl, rfl, _⟩ := S.ex
  exact .all (h kV doc pm an ct)
section
variable {P : Program} {w : World} {K : PySem.W.Frag} {mg : Str → Option Value} {base : Heap}
theorem fnM_sup {k : Nat} {f cda cc D : Addr} {x qual : Str} {params : Arguments} {body : List Stmt} {scope : Scope} {fd : FuncData} {file : Str} {N ps : List Str} {m : MS} (S : SupFn K x qual params body scope f fd cda cc D file) (Sc : NScope N ps ["__class__"] scope)
    (hbody : ∀ (A : Around) (outer : List Env) (s : Shared) (H : Hp) (E : XK), Gd (ncM P w K mg base N ⟨x, qual, params, body, scope, clsCl cc, cda⟩ f A outer s H E) k → PassesOwn (model P w) (ncM P w K mg base N ⟨x, qual, params, body, scope, clsCl cc, cda⟩ f A outer s H E).A (ncM P w K mg base N ⟨x, qual, params, body, scope, clsCl cc, cda⟩ f A outer s H E).env (ncM P w K mg base N ⟨x, qual, params, body, scope, clsCl cc, cda⟩ f A outer s H E).xe →
      SndB (ncM P w K mg base N ⟨x, qual, params, body, scope, clsCl cc, cda⟩ f A outer s H E) (.func body (ncM P w K mg base N ⟨x, qual, params, body, scope, clsCl cc, cda⟩ f A outer s H E).env) body m) :
    FnM P w K mg base (k + 1) f fd ps (mDef N.length m) := by
  obtain ⟨oc, od, kV, doc, pm, an, ct, osl, rfl, lk⟩ := S.ex
  obtain ⟨cl, cld, csl, hc⟩ := S.cell
  exact fnM_ofSup lk S.cd hc Sc hbody
theorem u_supF {k : Nat} {N : List Str} {A : Around} {outer : List Env} {s : Shared} {H : Hp} {E : XK} {Cs : List Addr} {D0 cc f f2 cda : Addr} {fd fd2 : FuncData} {ps : List Str} {M : MF} {m : MA} {p0 p1 apos pos spos : Pos} {e : Expr} {es : List Expr} {self : Str} {pl : Sem Bool} {ar : Arg} {x qual : Str} {params : Arguments} {body : List Stmt} {scope : Scope} {file : Str} [po : ProgOk P]
    (S : SupFn K x qual params body scope f fd cda cc D0 file) (hC : ∀ C ∈ Cs, SupOk K C D0 cc f2) (F : FnM P w K mg base k f2 fd2 ps M) (g : Gd (ncM P w K mg base N ⟨x, qual, params, body, scope, clsCl cc, cda⟩ f A outer s H E) k) (hb : L2.Binds K fd2 ps [])
    (hks : scope.names.lookup ("super" : Str) = some .globalImplicit) (hkc : scope.names.lookup ("__class__" : Str) = some .free) (hms : mg "super" = none) (hbs : bootBuiltins "super" = some (.type "super"))
    (hp : (params.posonlyargs ++ params.args).head? = some ar) (har : ar.arg = self) (hN : N[0]? = some self) (hka : scope.names.lookup self = some .local) (hfile : ((P.main.file : Str) == file) = true)
    (ha : SndA (ncM P w K mg base N ⟨x, qual, params, body, scope, clsCl cc, cda⟩ f A outer s H E) (e :: es) m) (hi : interactive (ncM P w K mg base N ⟨x, qual, params, body, scope, clsCl cc, cda⟩ f A outer s H E).env = false := by rfl) (hsw : swapsWith (.Call (.Attribute (.Call (.Name "super" p0) [] [] p1) "__init__" apos) (e :: es) [] pos) none spos.line (ncM P w K mg base N ⟨x, qual, params, body, scope, clsCl cc, cda⟩ f A outer s H E).env = pure false := by rfl)
    (hst : starEach (e :: es) (ncM P w K mg base N ⟨x, qual, params, body, scope, clsCl cc, cda⟩ f A outer s H E).env = (false, eval e (ncM P w K mg base N ⟨x, qual, params, body, scope, clsCl cc, cda⟩ f A outer s H E).env) :: starEach es (ncM P w K mg base N ⟨x, qual, params, body, scope, clsCl cc, cda⟩ f A outer s H E).env := by rfl)
    (hpl : (backTo pos (starEach es (ncM P w K mg base N ⟨x, qual, params, body, scope, clsCl cc, cda⟩ f A outer s H E).env)).any (·.1) = false := by rfl)
    (he : eval (.Call (.Attribute (.Call (.Name "super" p0) [] [] p1) "__init__" apos) (e :: es) [] pos) (ncM P w K mg base N ⟨x, qual, params, body, scope, clsCl cc, cda⟩ f A outer s H E).env = (do
      let ov ← attributeBase (.Call (.Name "super" p0) [] [] p1) "__init__" (ncM P w K mg base N ⟨x, qual, params, body, scope, clsCl cc, cda⟩ f A outer s H E).env (eval (.Call (.Name "super" p0) [] [] p1) (ncM P w K mg base N ⟨x, qual, params, body, scope, clsCl cc, cda⟩ f A outer s H E).env)
      standAt apos.atName
      let (fv, first) ← holding [ov] (getMethod ov "__init__" pl)
      callWith pos fv first (backTo pos (starEach (e :: es) (ncM P w K mg base N ⟨x, qual, params, body, scope, clsCl cc, cda⟩ f A outer s H E).env)) []) := by rfl) :
    SndU (ncM P w K mg base N ⟨x, qual, params, body, scope, clsCl cc, cda⟩ f A outer s H E) (.func body (ncM P w K mg base N ⟨x, qual, params, body, scope, clsCl cc, cda⟩ f A outer s H E).env) (.Expr (.Call (.Attribute (.Call (.Name "super" p0) [] [] p1) "__init__" apos) (e :: es) [] pos) spos) (mExpr (mSupE Cs M ps.length m)) := by
  obtain ⟨oc, od, kV, doc, pm, an, ct, osl, rfl, lk⟩ := S.ex
  obtain ⟨ccl, cdd, vs, ccs, tf, hcode, hvs⟩ := S.code
  exact u_sup (X := ncM P w K mg base N ⟨x, qual, params, body, scope, clsCl cc, cda⟩ f A outer s H E) (od0 := .none) (po := (po : ProgOk P)) hC F g hb hks hkc (show List.lookup ("__class__" : Str) (clsCl cc) = some cc by unfold clsCl; rw [List.lookup_cons, beq_self_eq_true]) rfl rfl hms hbs lk hp har hN hka hcode hvs hfile ha hi hsw hst hpl he
end
end Q

namespace Q
open PySem PySem.Spec PyProof.Rows L2
variable [Gh : Ghost]
/-! ### zip of three -/
def ItZ3 (J1 J2 J3 : It) : It :=
  ⟨fun i H => J1.go i H ∧ J2.go i H ∧ J3.go i H, fun i H v H' => ∃ T x y q, J1.yld i H x H ∧ J2.yld i H y H ∧ J3.yld i H q H ∧ H T = none ∧ v = .ref T ∧ H' = upd H T (.tup [x, y, q]), fun i H => J1.stop i H ∨ (J1.go i H ∧ J2.stop i H) ∨ (J1.go i H ∧ J2.go i H ∧ J3.stop i H)⟩
abbrev Zst3 (z TI TO i1 i2 i3 : Addr) (tn1 tn2 tn3 : Nat → Heap → Prop) (i : Nat) (h : Heap) : Prop :=
  (∃ t f, IsZ h z TI TO t f) ∧ IsTupOf3 h TI (.ref i1) (.ref i2) (.ref i3) ∧ (∃ a b c, IsTupOf3 h TO a b c) ∧ tn1 i h ∧ tn2 i h ∧ tn3 i h
section
variable {P : Program} {w : World} {K : PySem.W.Frag} {J1 J2 J3 : It} {fp1 fp2 fp3 : List Addr} {z TI TO i1 i2 i3 : Addr} {tn1 tn2 tn3 : Nat → Heap → Prop}
end
end Q

namespace Q
open PySem PySem.Spec PyProof.Rows L2
variable [Gh : Ghost]
section
variable {P : Program} {w : World} {K : PySem.W.Frag} {J1 J2 J3 : It} {fp1 fp2 fp3 : List Addr} {z TI TO i1 i2 i3 : Addr} {tn1 tn2 tn3 : Nat → Heap → Prop}
theorem Zst3.keep {i : Nat} {h h' : Heap} (D1 : Drw P w K J1 fp1 i1 tn1) (D2 : Drw P w K J2 fp2 i2 tn2) (D3 : Drw P w K J3 fp3 i3 tn3) (st : Zst3 z TI TO i1 i2 i3 tn1 tn2 tn3 i h) (k : ∀ b ∈ z :: TI :: TO :: (fp1 ++ fp2 ++ fp3), ∀ o, h.get? b = some o → h'.get? b = some o) : Zst3 z TI TO i1 i2 i3 tn1 tn2 tn3 i h' := by
  obtain ⟨⟨t, f, hz⟩, hTI, ⟨a, b, c, hTO⟩, st1, st2, st3⟩ := st
  exact ⟨⟨t, f, k _ (by simp) _ hz⟩, k _ (by simp) _ hTI, ⟨a, b, c, k _ (by simp) _ hTO⟩, D1.keep i _ _ st1 fun c hc o q => k c (by simp [hc]) o q, D2.keep i _ _ st2 fun c hc o q => k c (by simp [hc]) o q, D3.keep i _ _ st3 fun c hc o q => k c (by simp [hc]) o q⟩
theorem Zst3.obj {i : Nat} {h : Heap} (D1 : Drw P w K J1 fp1 i1 tn1) (D2 : Drw P w K J2 fp2 i2 tn2) (D3 : Drw P w K J3 fp3 i3 tn3) (st : Zst3 z TI TO i1 i2 i3 tn1 tn2 tn3 i h) : ∀ b ∈ z :: TI :: TO :: (fp1 ++ fp2 ++ fp3), ∃ o, h.get? b = some o ∧ ∀ v, o.data ≠ .cell v := by
  obtain ⟨⟨t, f, hz⟩, hTI, ⟨a, c, d, hTO⟩, st1, st2, st3⟩ := st
  intro b hb
  have hb : b = z ∨ b = TI ∨ b = TO ∨ b ∈ fp1 ∨ b ∈ fp2 ∨ b ∈ fp3 := by simpa [or_assoc] using hb
  rcases hb with q | q | q | q | q | q
  · rw [q]; exact ⟨_, hz, fun v q => nomatch q⟩
  · rw [q]; exact ⟨_, hTI, fun v q => nomatch q⟩
  · rw [q]; exact ⟨_, hTO, fun v q => nomatch q⟩
  · exact D1.obj i h st1 b q
  · exact D2.obj i h st2 b q
  · exact D3.obj i h st3 b q
variable {r : List Addr} {H : Hp} {m1 m2 m3 : MI}
theorem WkR.zip3 (k1 : WkR K r H m1 J1) (k2 : WkR K r H m2 J2) (k3 : WkR K r H m3 J3) : WkR K r H (.zip3 m1 m2 m3) (ItZ3 J1 J2 J3) := by
  intro r' H' S i s o
  obtain ⟨a1, a2⟩ := k1 r' H' S i s o
  obtain ⟨b1, b2⟩ := k2 r' H' S i s o
  obtain ⟨c1, c2⟩ := k3 r' H' S i s o
  unfold nextM
  cases q1 : nextM m1 i S with
  | none => exact ⟨fun z => (nomatch z), fun _ z => (nomatch z)⟩
  | some od =>
    cases od with
    | none => exact ⟨fun _ => .inl (a1 q1), fun _ z => (nomatch z)⟩
    | some d =>
      obtain ⟨g1, y1⟩ := a2 d q1
      cases q2 : nextM m2 i S with
      | none => exact ⟨fun z => (nomatch z), fun _ z => (nomatch z)⟩
      | some oe =>
        cases oe with
        | none => exact ⟨fun _ => .inr (.inl ⟨g1, b1 q2⟩), fun _ z => (nomatch z)⟩
        | some e =>
          obtain ⟨g2, y2⟩ := b2 e q2
          cases q3 : nextM m3 i S with
          | none => exact ⟨fun z => (nomatch z), fun _ z => (nomatch z)⟩
          | some og =>
            cases og with
            | none => exact ⟨fun _ => .inr (.inr ⟨g1, g2, c1 q3⟩), fun _ z => (nomatch z)⟩
            | some g =>
              obtain ⟨g3, y3⟩ := c2 g q3
              refine ⟨fun z => (nomatch z), fun f z => ⟨⟨g1, g2, g3⟩, fun x H2 y => ?_⟩⟩
              cases z
              obtain ⟨T, x1, x2, x3, u1, u2, u3, hT, rfl, rfl⟩ := y
              obtain ⟨_, _, v1⟩ := y1 x1 H' u1
              obtain ⟨_, _, v2⟩ := y2 x2 H' u2
              obtain ⟨_, _, v3⟩ := y3 x3 H' u3
              exact ⟨Stp.loose hT, o.loose hT, T, [x1, x2, x3], rfl, upd_same, x1, [x2, x3], rfl, v1.mono (Stp.loose hT), x2, [x3], rfl, v2.mono (Stp.loose hT), x3, [], rfl, v3.mono (Stp.loose hT), rfl⟩
end
section
variable {X : Cx} {pins : List (Addr × Obj)} {σ : L2.St} {r : List Addr} {H : Hp} {s : Shared} {S : Store}
end
section
variable {X : Cx} {k : Nat} {a b c : Expr} {tg : Expr} {m : MA} {p pos : Pos}
end
end Q

namespace Q
open PySem PySem.Spec PyProof.Rows L2
variable [Gh : Ghost]
/-! ### a, b, c = x, y, z with three plain local names -/
def mPar3 (i j l : Nat) (m : MA) : MS := fun en S => (m en S).stm en fun ds S1 => match ds with
  | [d, e, f] => .nx (((en.set i (some d)).set j (some e)).set l (some f)) S1
  | _ => .bad
section
variable {X : Cx} {a b c : Expr} {pos : Pos}
end
end Q

namespace Q
open PySem PySem.Spec PyProof.Rows L2
/-! ### wp rules: three at once, sets, dicts of tuples, super() -/
section
variable {en : En} {S : Store} {E : EK} {N : En → Store → Prop} {R : D → Store → Prop} {B C : En → Store → Prop} {X : XKs} {P : D → Store → Prop}
theorem wpS_par3 {i j l : Nat} {m : MA} (h : wpE (m en S) (fun ds T => ∃ d e f, ds = [d, e, f] ∧ N (((en.set i (some d)).set j (some e)).set l (some f)) T) (fun c n T => X c n en T)) : wpS (mPar3 i j l m en S) N R B C X :=
  wpS_stm (wpE_mono h (fun ds T ⟨d, e, f, hd, q⟩ => by subst hd; exact q) fun _ _ _ q => q)
theorem nub_len {α : Type} [DecidableEq α] : ∀ l : List α, (nub l).length ≤ l.length
  | [] => Nat.le_refl _
  | k :: l => by
    unfold nub
    have h1 := List.length_filter_le (fun x => decide (x ≠ k)) (nub l)
    have h2 := nub_len l
    simp only [List.length_cons]
    omega
theorem set_at {i : Nat} {e : En} {d : D} (h : i < e.length) : (e.set i (some d))[i]? = some (some d) := by rw [List.getElem?_set_self h]
theorem wipe_len {own : List Nat} (e : En) : (wipeD e own).length = e.length := by
  induction own with
  | nil => rfl
  | cons i l ih => show ((wipeD e l).set i none).length = _; rw [List.length_set]; exact ih
theorem wpE_sortS {m : MKs} (h : wpE (m en S) (fun ks T => ks.length < 4000 ∧ ∀ n U, Kp T U → T.length ≤ n → U[n]? = some (.lst ((sortK (nub ks)).map tupD)) → P (.ref n) U) E) : wpE (mSortS m en S) P E := by
  refine wpE_bind (wpE_mono h (fun ks T ⟨h1, q⟩ => ?_) fun _ _ _ z => z)
  have := nub_len ks
  refine wpE_eq (if_pos (by omega)) (q _ _ Kp.app (Nat.le_refl _) at_mid)
/-- the dict that has True at the given keys -/
def trueT (ks : List (List Int)) (acc : List (List Int × D)) : List (List Int × D) := ks.foldl (fun a k => putT a k (.bl true)) acc
theorem getT_any (a : List (List Int × D)) (q : List Int) : (getT a q).isSome = a.any fun p => decide (p.1 = q) := by
  unfold getT
  rw [Option.isSome_map]
  induction a with
  | nil => rfl
  | cons p l ih =>
    rw [List.find?_cons, List.any_cons]
    cases h : decide (p.1 = q) with
    | true => rfl
    | false => exact ih
theorem getT_put (acc : List (List Int × D)) (k q : List Int) (z : D) : (getT (putT acc k z) q).isSome = (decide (k = q) || (getT acc q).isSome) := by
  rw [getT_any, getT_any]
  unfold putT
  by_cases h : (acc.any fun p => decide (p.1 = k)) = true
  · rw [if_pos h, List.any_map]
    have e : ((fun p : List Int × D => decide (p.1 = q)) ∘ fun p => if p.1 = k then (p.1, z) else p) = fun p => decide (p.1 = q) := by
      funext p
      show decide ((if p.1 = k then (p.1, z) else p).1 = q) = _
      by_cases hp : p.1 = k
      · rw [if_pos hp]
      · rw [if_neg hp]
    rw [e]
    by_cases hq : k = q
    · rw [← hq, h, decide_eq_true rfl]; rfl
    · rw [decide_eq_false hq, Bool.false_or]
  · rw [if_neg h, List.any_append, Bool.or_comm]
    simp only [List.any_cons, List.any_nil, Bool.or_false]
theorem putT_len (acc : List (List Int × D)) (k : List Int) (z : D) : (putT acc k z).length ≤ acc.length + 1 := by
  unfold putT
  split
  · rw [List.length_map]; omega
  · rw [List.length_append]; exact Nat.le_refl _
theorem getT_true : ∀ (ks : List (List Int)) (acc : List (List Int × D)) (q : List Int), (getT (trueT ks acc) q).isSome = (decide (q ∈ ks) || (getT acc q).isSome)
  | [], acc, q => by rw [show decide (q ∈ ([] : List (List Int))) = false from decide_eq_false (fun h => nomatch h)]; rfl
  | k :: ks, acc, q => by
    show (getT (trueT ks (putT acc k (.bl true))) q).isSome = _
    rw [getT_true ks, getT_put]
    by_cases h1 : q ∈ ks
    · rw [decide_eq_true h1, decide_eq_true (List.mem_cons_of_mem _ h1)]; rfl
    · by_cases h2 : k = q
      · subst h2; rw [decide_eq_true rfl, decide_eq_true (List.mem_cons_self)]; simp
      · rw [decide_eq_false h1, decide_eq_false h2, decide_eq_false (fun h => (List.mem_cons.mp h).elim (fun z => h2 z.symm) h1)]; rfl
theorem trueT_snoc (ks : List (List Int)) (k : List Int) : trueT (ks ++ [k]) [] = putT (trueT ks []) k (.bl true) := by unfold trueT; rw [List.foldl_append]; rfl
theorem trueT_len : ∀ (ks : List (List Int)) (acc : List (List Int × D)), (trueT ks acc).length ≤ acc.length + ks.length
  | [], acc => Nat.le_refl _
  | k :: ks, acc => by
    have h1 := trueT_len ks (putT acc k (.bl true))
    have h2 := putT_len acc k (.bl true)
    show (trueT ks (putT acc k (.bl true))).length ≤ _
    rw [List.length_cons]
    omega
theorem compDT_var {mi : MI} {i n0 : Nat} {ks : List (List Int)} {e : En} (hi : i < e.length) (hl : ks.length < 4000) {T : Store} (hT : n0 < T.length)
    (hm : ∀ (U : Store), KpX n0 T U → ∀ j, nextM mi j U = some (ks.map tupD)[j]?) :
    ∀ (r n j : Nat) (U : Store), KpX n0 T U → U[n0]? = some (.dcT (trueT (ks.take j) [])) → j + r = ks.length → r < n →
      wpE (compDT mi (pName i) mYes (mVar i) (mC (.bl true)) n0 n j e U) (fun d V => d = .ref n0 ∧ KpX n0 T V ∧ V[n0]? = some (.dcT (trueT ks []))) E
  | 0, n, j, U, hU, h0, h1, h2 => by
    obtain ⟨n', rfl⟩ : ∃ q, n = q + 1 := ⟨n - 1, by omega⟩
    unfold compDT
    rw [hm U hU j, List.getElem?_eq_none (by rw [List.length_map]; omega)]
    rw [List.take_of_length_le (by omega)] at h0
    exact ⟨rfl, hU, h0⟩
  | r + 1, n, j, U, hU, h0, h1, h2 => by
    obtain ⟨n', rfl⟩ : ∃ q, n = q + 1 := ⟨n - 1, by omega⟩
    have hj : j < ks.length := by omega
    unfold compDT
    rw [hm U hU j, List.getElem?_map, List.getElem?_eq_getElem hj]
    have hv : (mVar i) (setsE e [(i, tupD ks[j])]) U = .ok (tupD ks[j]) U := by
      unfold mVar
      rw [show (setsE e [(i, tupD ks[j])])[i]? = some (some (tupD ks[j])) from set_at hi]
    show wpE ((Res.calm ((mVar i) (setsE e [(i, tupD ks[j])]) U)).bind _) _ E
    rw [hv]
    show wpE (match keyX (tupD ks[j]) with | none => .bad | some k => match U[n0]? with | some (.dcT acc) => if acc.length < sizeLine then compDT mi (pName i) mYes (mVar i) (mC (.bl true)) n0 n' (j + 1) e (U.set n0 (.dcT (putT acc k (.bl true)))) else .bad | _ => .bad) _ E
    rw [keyX_tup]
    dsimp only
    rw [h0]
    dsimp only
    have hlen := trueT_len (ks.take j) []
    have h3 : (ks.take j).length ≤ j := List.length_take_le ..
    have hz : 4000 < sizeLine := by decide
    simp only [List.length_nil] at hlen
    rw [if_pos (by omega)]
    have e2 : putT (trueT (ks.take j) []) ks[j] (.bl true) = trueT (ks.take (j + 1)) [] := by
      rw [List.take_succ, List.getElem?_eq_getElem hj]
      exact (trueT_snoc _ _).symm
    rw [e2]
    have hlU := hU.len
    exact compDT_var hi hl hT hm r n' (j + 1) _ (hU.trans KpX.set) (by rw [List.getElem?_set_self (by omega)]) (by omega) (by omega)
theorem wpE_dctT {i : Nat} {m : MIt} {own : List Nat} (h : wpE (m en S) (fun mi T => ∃ ks, (∀ U, Kp T U → ∀ j, nextM mi j U = some (ks.map tupD)[j]?) ∧ ks.length < 4000 ∧ i < en.length ∧ ∀ n U, Kp T U → T.length ≤ n → U[n]? = some (.dcT (trueT ks [])) → P (.ref n) U) E) :
    wpE (mDctT m (pName i) mYes (mVar i) (mC (.bl true)) own bigN en S) P E := by
  refine wpE_bind (wpE_mono h (fun mi T ⟨ks, h1, h2, h3, q⟩ => ?_) fun _ _ _ z => z)
  have kk : ∀ U, KpX T.length (T ++ [.dcT []]) U → Kp T U := fun U kU a o ha => kU.k a o (by have := lt_of_at ha; omega) (Kp.app a o ha)
  refine wpE_mono (compDT_var (T := T ++ [.dcT []]) (by rw [wipe_len]; exact h3) h2 (by simp) (fun U kU j => h1 U (kk U kU) j) ks.length bigN 0 _ (KpX.refl _ _) at_mid (by omega) (by unfold bigN; omega)) (fun d V ⟨e, kV, hV⟩ => ?_) fun _ _ _ z => z
  subst e
  exact q _ V (kk V kV) (Nat.le_refl _) hV
theorem wpO_inT {n : Nat} {kvs : List (List Int × D)} {k : List Int} (h : S[n]? = some (.dcT kvs)) (q : P (.bl (getT kvs k).isSome) S) : wpO (gInD (tupD k) (.ref n) S) P := by
  refine wpO_of ?_ q
  unfold gInD dctIn
  dsimp only
  rw [h]
  dsimp only
  rw [keyX_tup]
  rfl
theorem wpE_supE {Cs : List Addr} {M : MF} {n k : Nat} {m : MA} {A : Addr} {fs : List (Str × D)} (h0 : en[0]? = some (some (.ref k))) (h1 : S[k]? = some (.ins A fs)) (hA : A ∈ Cs) (h : wpE (m en S) (fun ds T => (D.ref k :: ds).length = n ∧ wpE (M (.ref k :: ds) T) P E) E) : wpE (mSupE Cs M n m en S) P E := by
  refine wpE_bind ?_
  refine wpE_var h0 ?_
  rw [show insD (.ref k) S = some (A, fs) from by unfold insD; dsimp only; rw [h1]]
  dsimp only
  rw [if_pos hA]
  exact wpE_bind (wpE_mono h (fun ds T ⟨e, q⟩ => by rw [if_pos e]; exact q) fun _ _ _ z => z)
end
end Q

namespace Q
open PySem PySem.Spec PyProof.Rows L2
variable [Gh : Ghost]
/-! ### tuple * 1 is the tuple itself -/
theorem times1 (l : Addr) (items : Array Value) (n : Nat) (dd : Option Addr) (sl : Array (Option Value)) (u : Tok) :
    Meets (Builtin.«tuple.__mul__» ⟨[.ref l, .int 1 u], []⟩) (fun _ R s => s.heap.get? l = some { cls := .type "tuple", dict := dd, data := .seq items n, slots := sl } ∧ R (.ok (.ret (Value.ref l))) s) :=
  .of_wp fun prog w A R s h => by
    obtain ⟨hp, g, d, tk, os⟩ := s
    obtain ⟨hl, h⟩ := h
    have f1 := AutoSeq1.idx_int
    have c1 : (items.isEmpty || ((1 : Int) == 1)) = true := Bool.or_true _
    wp_walk using wpAny_loadPart' hl
    repeat (first
      | (refine wpAny_ite_true (decide_eq_true c1) ?_; wp_walk using wpAny_loadPart' hl)
      | (refine wpAny_ite_true c1 ?_; wp_walk using wpAny_loadPart' hl))
    exact ⟨_, rfl, h⟩
section
variable {X : Cx} {k : Nat}
theorem op_times1 : OpR X (binaryOp .Mult) (fun x y H Q => ∃ l xs, x = .ref l ∧ y = .int 1 ∧ SqT X.K H l xs ∧ Q (.ref l) H) := by
  intro pins s σ H x y v u Q I rx ry h
  obtain ⟨l, xs, rfl, rfl, hT, q⟩ := h
  cases rx
  obtain ⟨t, rfl⟩ := ry
  obtain ⟨its, r, ⟨⟨cls, dd, data, sl⟩, ho, hc, n, hd⟩, hs⟩ := I.tuple hT
  simp only at hc hd
  subst hc hd
  refine wpAny_binaryOp_repeat_ref (T := "tuple") (U := "int") (by decide) ⟨_, ho, rfl⟩ (fun s' => typeIs_int s' 1 t) noFill_tuple_mul F.fills_int_mul F.slot_int_rmul repeat_tuple F.slot_int_index.lookup
    (call_meets F.slot_int_rmul (typeIs_int s 1 t) F.entry_int_rmul (F.args_int_rmul_2 _ _) (int_rmul_tuple 1 t l its.toArray n dd sl)
      ⟨ho, rfl, ⟨_, ho, rfl⟩, call_meets F.slot_tuple_mul ⟨_, ho, rfl⟩ F.entry_tuple_mul (F.args_tuple_mul_2 _ _) (times1 l its.toArray n dd sl t) ⟨ho, ?_⟩⟩)
  exact ⟨.ref l, H, I, rfl, q⟩
def gMulT : G2 := fun d e S => match d, e with
  | .tup xs, .int k => if k = 1 then some (.tup xs, S) else gMul (.tup xs) (.int k) S
  | d, e => gMul d e S
theorem o_mulT : OpD X (binaryOp .Mult) gMulT := by
  refine ⟨?_⟩
  intro d e z x y r H S S' Q q k1 k2 ro ed
  unfold gMulT at q
  split at q
  · split at q
    · rename_i he
      subst he
      cases q
      obtain ⟨a, vs, rfl, ha, hv⟩ := k1
      exact wO_of op_times1 ⟨a, vs, rfl, k2, sqT_of ha, ed.flat ro ⟨a, vs, rfl, ha, hv⟩⟩
    · exact o_mul.run _ _ z x y r H S S' Q q k1 k2 ro ed
  · exact o_mul.run _ _ z x y r H S S' Q q k1 k2 ro ed
end
/-! ### max(t), min(t) of a tuple of ints -/
section
variable {prog : Program} {w : World} {A : Around} {E : Value → Shared → Prop} {s : Shared} {l : Addr} {its : List Value} {ns : List Int} {Q : Value → Shared → Prop}
end
section
variable {X : Cx} {k : Nat}
/-! ### str(t) of a tuple -/
end
end Q

namespace Q
open PySem PySem.Spec PyProof.Rows L2
variable [Gh : Ghost]
/-! ### C.f, a constant of the class C (an int) -/
section
variable {X : Cx} {C : Addr} {x f : Str} {i : Int} {p pos : Pos}
end
end Q

namespace Q
open PySem PySem.Spec PyProof.Rows L2
variable [Gh : Ghost]
/-! ### [e for a in x if .. for b in y if ..] -/
section
variable {X : Cx} {k : Nat} {e : Expr} {me : ME} {mt mt1 : MT} {pos : Pos} {tg iter tg1 iter1 : Expr} {mi m1 : MIt} {g g1 : Pat}
end
end Q

namespace Q
open PySem PySem.Spec PyProof.Rows L2
variable [Gh : Ghost]
/-! ### o[i] += e (a list of ints), del o[i] -/
section
variable {X : Cx} {k : Nat} {o i v : Expr} {mo mi mv : ME} {pos tpos : Pos} {op : Operator} {f : Int → Int → Int}
end
end Q

namespace Q
open PySem PySem.Spec PyProof.Rows L2
variable [Gh : Ghost]
/-! ### o.f, a constant (an int) of o's class -/
section
variable {X : Cx} {e : Expr} {f : Str} {i : Int} {pos : Pos} {m : ME} {Cs : List Addr}
end
end Q

namespace Q
open PySem PySem.Spec PyProof.Rows L2
variable [Gh : Ghost]
/-! ### generator methods: what they hand out; list(o.m()) -/
abbrev MG := List D → Store → Res (List D)
section
variable {P : Program} {w : World} {K : PySem.W.Frag} {mg : Str → Option Value} {base : Heap}
end
section
variable {X : Cx} {k : Nat} {f : Addr} {fd : FuncData} {ps : List Str} {M : MG} {Cs : List Addr} {mo : ME} {o : Expr} {nm x : Str} {apos pos pos' p : Pos} {mgen : En → Store → Res (List D)} {dsv : List Value}
end
end Q

namespace Q
open PySem PySem.Spec PyProof.Rows L2
/-! ### generators, in what is wished -/
section
variable {en : En} {S : Store} {E : EK} {P : D → Store → Prop} {Cs : List Addr} {nm : Str} {M : MG} {mo : ME} {m : MA}
end
end Q

namespace Q
open PySem PySem.Spec PyProof.Rows L2
variable [Gh : Ghost]
/-! ### isinstance(e, (A, B)) in a suite -/
section
variable {Y : Cx} {a C d : Addr} {oe : Obj} {pn : List (Addr × Obj)} {od : Option Addr} {n : Option Nat} {B newId initId : String} {bb : List Value} {x : Str} {p pos p3 : Pos} {px : Nat} {e t1 t2 : Expr} {m : ME}
def rIsX2 (K : PySem.W.Frag) (C a : Addr) (od : Option Addr) : List V → Hp → VK → Prop := fun xs H Q => ∃ (tp : Addr) (cs : List V) (us : List Value) (b : Bool), xs = [.ref a, .ref tp] ∧ H tp = some (.tup cs) ∧ Paired ClsV cs us ∧ PySem.W.kitAny K (.ref C) us = some b ∧ (∀ y, od = some y → H y ≠ none) ∧ Q (.bl b) H
end
end Q

namespace Q
open PySem PySem.Spec PyProof.Rows L2
variable [Gh : Ghost]
/-! ### zip(*rows) begins: an iterator for each row -/
/-! ### a step of it -/
abbrev ZstN (z TI TO : Addr) (prs : List (Addr × Addr)) (i : Nat) (h : Heap) : Prop :=
  (∃ t f, IsZ h z TI TO t f) ∧ h.get? TI = some { cls := .type "tuple", data := .seq (prs.map fun p => Value.ref p.1).toArray } ∧
  (∃ outs : List Value, outs.length = prs.length ∧ h.get? TO = some { cls := .type "tuple", data := .seq outs.toArray }) ∧ ∀ p ∈ prs, h.IsTupleIter p.1 p.2 i
section
variable {P : Program} {w : World} {K : PySem.W.Frag} {z TI TO : Addr} {prs : List (Addr × Addr)}
/-- what holds while the rows are drawn from, one behind the other; dn: done, td: still to do; h₁: the heap ahead -/
structure MidN (X : Cx) (K : PySem.W.Frag) (prs : List (Addr × Addr)) (pins : List (Addr × Obj)) (σ : L2.St) (H : Hp) (far : List Addr) (h₁ : Heap) (i : Nat) (dn td : List (Addr × Addr)) (us : List Value) (vs : List V) (s' : Shared) : Prop where
  e : prs = dn ++ td
  rv : Vals vs us
  len : vs.length = dn.length
  col : ∀ (k : Nat) (p : Addr × Addr), dn[k]? = some p → ∃ x, vs[k]? = some x ∧ ∀ l, SqT K H p.2 l → l[i]? = some x
  inv : Inv X pins σ H s'
  new : ∀ p ∈ dn, s'.heap.IsTupleIter p.1 p.2 (i + 1)
  old : ∀ p ∈ td, s'.heap.IsTupleIter p.1 p.2 i
  sz : h₁.objs.size ≤ s'.heap.objs.size
  fr : ∀ b o, b ∉ far → h₁.get? b = some o → s'.heap.get? b = some o
theorem tit_keep {it a : Addr} {i : Nat} {h h' : Heap} (st : h.IsTupleIter it a i) (k : ∀ o, h.get? it = some o → h'.get? it = some o) : h'.IsTupleIter it a i := st.at fun o e => k o e
/-- one more row is drawn from -/
theorem MidN.go {X : Cx} (hP : X.prog = P) (hw : X.w = w) (hK : X.K = K) {pins : List (Addr × Obj)} {σ : L2.St} {H : Hp} {far : List Addr} {h₁ : Heap} {i : Nat} {dn td : List (Addr × Addr)} {p : Addr × Addr} {us : List Value} {vs : List V} {s' : Shared} {A : Around} {Q : Value → Shared → Prop} {E : Value → Shared → Prop}
    (M : MidN X K prs pins σ H far h₁ i dn (p :: td) us vs s') (nd : (prs.map (·.1)).Nodup) (hfar : ∀ q ∈ prs, q.1 ∈ far) (hf : ∀ q ∈ prs, FpOk X pins H q.1) (hg : ∃ xs x, SqT K H p.2 xs ∧ xs[i]? = some x)
    (h : ∀ (u : Value) (v : V) (s2 : Shared), MidN X K prs pins σ H far h₁ i (dn ++ [p]) td (us ++ [u]) (vs ++ [v]) s2 → (∀ b o, b ≠ p.1 → s'.heap.get? b = some o → s2.heap.get? b = some o) → Q u s2) : wpAny (model P w) A (Builtin.SmallTypes.nextOf (.ref p.1)) Q E s' := by
  have hp : p ∈ prs := by rw [M.e]; simp
  rw [M.e, List.map_append, List.map_cons] at nd
  obtain ⟨_, nd2, nd3⟩ := List.nodup_append.mp nd
  obtain ⟨nd4, _⟩ := List.nodup_cons.mp nd2
  have ne1 : ∀ q ∈ dn, q.1 ≠ p.1 := fun q hq => nd3 q.1 (List.mem_map.mpr ⟨q, hq, rfl⟩) p.1 List.mem_cons_self
  have ne2 : ∀ q ∈ td, q.1 ≠ p.1 := fun q hq e => nd4 (by rw [← e]; exact List.mem_map.mpr ⟨q, hq, rfl⟩)
  refine (drw_tuple (P := P) (w := w) (K := K) p.2 p.1).item X hP hw hK A i pins s' σ H Q E M.inv (fun b hb => by rw [List.mem_singleton.mp hb]; exact hf p hp) (M.old p List.mem_cons_self) hg fun u v s2 H' I2 r2 y2 n2 z2 _ k2 => ?_
  obtain ⟨eH, yv⟩ := y2
  subst eH
  have k2' : ∀ b o, b ≠ p.1 → s'.heap.get? b = some o → s2.heap.get? b = some o := fun b o hb e => k2 b o (by simpa using hb) e
  refine h u v s2 ⟨by rw [M.e]; simp, M.rv.append (.cons r2 .nil), by rw [List.length_append, List.length_append, M.len]; rfl, fun k q hq => ?_, I2, fun q hq => ?_, fun q hq => tit_keep (M.old q (List.mem_cons_of_mem _ hq)) fun o e => k2' _ o (ne2 q hq) e, Nat.le_trans M.sz z2, fun b o hb e => k2' b o (fun z => hb (by rw [z]; exact hfar p hp)) (M.fr b o hb e)⟩ k2'
  · by_cases hk : k < dn.length
    · rw [List.getElem?_append_left hk] at hq
      obtain ⟨x, h1, h2⟩ := M.col k q hq
      exact ⟨x, by rw [List.getElem?_append_left (by rw [M.len]; exact hk)]; exact h1, h2⟩
    · have : k = dn.length := by have := (List.getElem?_eq_some_iff.mp hq).1; rw [List.length_append, List.length_singleton] at this; omega
      subst this
      rw [List.getElem?_append_right (Nat.le_refl _), Nat.sub_self] at hq
      cases hq
      exact ⟨v, by rw [← M.len, List.getElem?_append_right (Nat.le_refl _), Nat.sub_self]; rfl, yv⟩
  · rcases List.mem_append.mp hq with q1 | q1
    · exact tit_keep (M.new q q1) fun o e => k2' _ o (ne1 q q1) e
    · rw [List.mem_singleton.mp q1]; exact n2
end
end Q

namespace Q
open PySem PySem.Spec PyProof.Rows L2
variable [Gh : Ghost]
section
variable {P : Program} {w : World} {K : PySem.W.Frag} {z TI TO : Addr} {prs : List (Addr × Addr)}
end
end Q

namespace Q
open PySem PySem.Spec PyProof.Rows L2
variable [Gh : Ghost]
section
variable {P : Program} {w : World} {K : PySem.W.Frag} {z TI TO : Addr} {prs : List (Addr × Addr)}
theorem ZstN.keep {i : Nat} {h h' : Heap} (st : ZstN z TI TO prs i h) (k : ∀ b ∈ z :: TI :: TO :: prs.map (·.1), ∀ o, h.get? b = some o → h'.get? b = some o) : ZstN z TI TO prs i h' := by
  obtain ⟨⟨t, f, hz⟩, hTI, ⟨outs, hol, hTO⟩, st1⟩ := st
  exact ⟨⟨t, f, k _ (by simp) _ hz⟩, k _ (by simp) _ hTI, ⟨outs, hol, k _ (by simp) _ hTO⟩, fun q hq => tit_keep (st1 q hq) fun o e => k _ (by simp only [List.mem_cons]; exact .inr (.inr (.inr (List.mem_map.mpr ⟨q, hq, rfl⟩)))) o e⟩
theorem ZstN.obj {i : Nat} {h : Heap} (st : ZstN z TI TO prs i h) : ∀ b ∈ z :: TI :: TO :: prs.map (·.1), ∃ o, h.get? b = some o ∧ ∀ v, o.data ≠ .cell v := by
  obtain ⟨⟨t, f, hz⟩, hTI, ⟨outs, hol, hTO⟩, st1⟩ := st
  intro b hb
  simp only [List.mem_cons] at hb
  rcases hb with q | q | q | q
  · rw [q]; exact ⟨_, hz, fun v q => nomatch q⟩
  · rw [q]; exact ⟨_, hTI, fun v q => nomatch q⟩
  · rw [q]; exact ⟨_, hTO, fun v q => nomatch q⟩
  · obtain ⟨p, hp, rfl⟩ := List.mem_map.mp q
    obtain ⟨o, e, _, d⟩ := st1 p hp
    exact ⟨o, e, fun v z => by rw [d] at z; cases z⟩
end
/-! ### the columns -/
section
variable {X : Cx} {pins : List (Addr × Obj)} {σ : L2.St} {r : List Addr} {H : Hp} {s : Shared} {S : Store}
/-- rows that are told: their addresses, their items -/
def RowsAt (K : PySem.W.Frag) (r : List Addr) (H : Hp) (rows : List (List D)) (as : List Addr) : Prop := rows.length = as.length ∧ ∀ (k : Nat) (xs : List D), rows[k]? = some xs → ∃ a vs, as[k]? = some a ∧ H a = some (.tup vs) ∧ VRs K r H xs vs
theorem RowsAt.mono {K : PySem.W.Frag} {r r' : List Addr} {H H' : Hp} {rows : List (List D)} {as : List Addr} (h : RowsAt K r H rows as) (s : Stp r H r' H') : RowsAt K r' H' rows as := ⟨h.1, fun k xs e => let ⟨a, vs, h1, h2, h3⟩ := h.2 k xs e; ⟨a, vs, h1, s.tup _ _ h2, h3.mono s⟩⟩
end
end Q

namespace Q
open PySem PySem.Spec PyProof.Rows L2
variable [Gh : Ghost]
/-! ### the columns are what the zip of the rows gives -/
section
variable {K : PySem.W.Frag} {r : List Addr} {H : Hp}
end
/-! ### zip(*rows) is made -/
section
variable {X : Cx} {pins : List (Addr × Obj)} {σ : L2.St} {r : List Addr} {H : Hp} {s : Shared} {S : Store}
end
/-! ### the call with a star; zip(*e) -/
section
variable {M : Model} {A : Around} {E : Value → Shared → Prop} {s : Shared} {env : Env}
end
section
variable {X : Cx} {k : Nat} {e : Expr} {me : ME} {p p2 p3 pos pos2 : Pos}
end
end Q

namespace Q
open PySem PySem.Spec PyProof.Rows L2
variable [Gh : Ghost]
/-! ### list(zip(*e)) -/
section
variable {X : Cx} {pins : List (Addr × Obj)} {σ : L2.St} {S : Store} {cs : List D} {L z TI TO : Addr} {prs : List (Addr × Addr)} {r0 : List Addr} {H0 : Hp}
/-- what holds ahead of the turn i of the loop that fills the list at L -/
structure Drn (X : Cx) (pins : List (Addr × Obj)) (σ : L2.St) (S : Store) (cs : List D) (L z TI TO : Addr) (prs : List (Addr × Addr)) (r0 : List Addr) (H0 : Hp) (i : Nat) (r : List Addr) (H : Hp) (s : Shared) : Prop where
  le : i ≤ cs.length
  stp : Stp r0 H0 r H
  inv : Inv X pins σ H s
  ro : ROk X.K r H (S ++ [.lst (cs.take i)])
  at_ : r[S.length]? = some L
  fp : ∀ b ∈ z :: TI :: TO :: prs.map (·.1), FpOk X pins H b
  st : ZstN z TI TO prs i s.heap
theorem Drn.lst {i : Nat} {r : List Addr} {H : Hp} {s : Shared} (d : Drn X pins σ S cs L z TI TO prs r0 H0 i r H s) : ∃ vs, H L = some (.lst vs) ∧ VRs X.K r H (cs.take i) vs := d.ro.ob S.length (.lst (cs.take i)) L (by rw [List.getElem?_append_right (Nat.le_refl _), Nat.sub_self]; rfl) d.at_
end
end Q

namespace Q
open PySem PySem.Spec PyProof.Rows L2
/-! ### the loop of any comprehension's clause, by what stands behind its tests -/
section
variable {prog : Program} {w : World} {A : Around} {F : Result → Shared → Prop} {s : Shared} {env : Env} {elt : Expr} {gens : List Comprehension} {scope : Scope} {pos : Pos} {d : Nat} {it acc : Value}
end
section
variable {prog : Program} {w : World} {A : Around} {env : Env} {elt t0 i0 t1 i1 : Expr} {fs0 fs1 : List Expr} {scope : Scope} {pos : Pos} {it acc : Value}
end
end Q

namespace Q
open PySem PySem.Spec PyProof.Rows L2
section
variable {X : Cx}
end
end Q

namespace Q
open PySem PySem.Spec PyProof.Rows L2
variable [Gh : Ghost]
/-! ### {e for a in x if .. for b in y if ..} -/
section
variable {X : Cx} {k : Nat} {e : Expr} {me : ME} {mt mt1 : MT} {pos : Pos} {tg iter tg1 iter1 : Expr} {mi m1 : MIt} {g g1 : Pat}
end
end Q

namespace Q
open PySem PySem.Spec PyProof.Rows L2
variable [Gh : Ghost]
/-! ### tuple * 0 is a new empty tuple -/
theorem times0 (l : Addr) (items : Array Value) (n : Nat) (dd : Option Addr) (sl : Array (Option Value)) (u : Tok) (hne : items.isEmpty = false) :
    Meets (Builtin.«tuple.__mul__» ⟨[.ref l, .int 0 u], []⟩) (fun _ R s => s.heap.get? l = some { cls := .type "tuple", dict := dd, data := .seq items n, slots := sl } ∧ R (.ok (.ret (Value.ref s.heap.objs.size))) { s with heap := s.heap.push { cls := Value.type "tuple", data := Data.seq #[] } }) :=
  .of_wp fun prog w A R s h => by
    obtain ⟨hp, g, d, tk, os⟩ := s
    obtain ⟨hl, h⟩ := h
    have f1 := AutoSeq1.idx_int
    have c1 : (items.isEmpty || ((0 : Int) == 1)) = false := by rw [hne]; rfl
    have c2 : (decide ((0 : Int) ≤ 0) || items.isEmpty) = true := rfl
    wp_walk using wpAny_loadPart' hl
    repeat (first
      | (refine wpAny_ite_false (decide_eq_false (by rw [c1]; exact Bool.false_ne_true)) ?_; wp_walk using wpAny_loadPart' hl)
      | (refine wpAny_ite_false c1 ?_; wp_walk using wpAny_loadPart' hl)
      | (refine wpAny_ite_true (decide_eq_true c2) ?_; wp_walk using wpAny_loadPart' hl)
      | (refine wpAny_ite_true c2 ?_; wp_walk using wpAny_loadPart' hl))
    exact ⟨_, rfl, h⟩
section
variable {X : Cx} {k : Nat}
theorem op_times0 : OpR X (binaryOp .Mult) (fun x y H Q => ∃ l xs, x = .ref l ∧ y = .int 0 ∧ SqT X.K H l xs ∧ xs ≠ [] ∧ ∀ p, H p = none → Q (.ref p) (upd H p (.tup []))) := by
  intro pins s σ H x y v u Q I rx ry h
  obtain ⟨l, xs, rfl, rfl, hT, hne, q⟩ := h
  cases rx
  obtain ⟨t, rfl⟩ := ry
  obtain ⟨its, r, ⟨⟨cls, dd, data, sl⟩, ho, hc, n, hd⟩, hs⟩ := I.tuple hT
  simp only at hc hd
  subst hc hd
  have hi : its.toArray.isEmpty = false := by
    cases r with
    | nil => exact absurd rfl hne
    | cons a b => rfl
  have fr : H s.heap.objs.size = none := I.hok.fresh (Nat.le_refl _)
  refine wpAny_binaryOp_repeat_ref (T := "tuple") (U := "int") (by decide) ⟨_, ho, rfl⟩ (fun s' => typeIs_int s' 0 t) noFill_tuple_mul F.fills_int_mul F.slot_int_rmul repeat_tuple F.slot_int_index.lookup
    (call_meets F.slot_int_rmul (typeIs_int s 0 t) F.entry_int_rmul (F.args_int_rmul_2 _ _) (int_rmul_tuple 0 t l its.toArray n dd sl)
      ⟨ho, rfl, ⟨_, ho, rfl⟩, call_meets F.slot_tuple_mul ⟨_, ho, rfl⟩ F.entry_tuple_mul (F.args_tuple_mul_2 _ _) (times0 l its.toArray n dd sl t hi) ⟨ho, ?_⟩⟩)
  exact ⟨.ref s.heap.objs.size, _, I.laid (t' := s.toks) (o := .tup []) (fun b o e => Heap.get?_push_of_some _ e) (Nat.le_refl _) ⟨Nat.zero_le _, [], .nil, IsTup.new _ _⟩, rfl, q _ fr⟩
def gMulZ : G2 := fun d e S => match d, e with
  | .tup xs, .int k => if k = 0 ∧ xs ≠ [] then some (.tup [], S) else gMulT (.tup xs) (.int k) S
  | d, e => gMulT d e S
theorem o_mulZ : OpD X (binaryOp .Mult) gMulZ := by
  refine ⟨?_⟩
  intro d e z x y r H S S' Q q k1 k2 ro ed
  unfold gMulZ at q
  split at q
  · split at q
    · rename_i he
      obtain ⟨rfl, hne⟩ := he
      cases q
      obtain ⟨a, vs, rfl, ha, hv⟩ := k1
      refine wO_of op_times0 ⟨a, vs, rfl, k2, sqT_of ha, fun z => hne ?_, fun p hp => ?_⟩
      · have := hv.length
        rw [z] at this
        exact List.eq_nil_of_length_eq_zero this
      · exact ed _ _ _ (Stp.loose hp) (ro.loose hp) ⟨p, [], rfl, upd_same, rfl⟩
    · exact o_mulT.run _ _ z x y r H S S' Q q k1 k2 ro ed
  · exact o_mulT.run _ _ z x y r H S S' Q q k1 k2 ro ed
end
end Q

namespace Q
open PySem PySem.Spec PyProof.Rows L2
variable [Gh : Ghost]
/-! ### dict(l): a list of pairs whose keys are tuples of ints -/
section
variable {X : Cx} {k : Nat} {K : PySem.W.Frag} {r : List Addr} {H : Hp} {S : Store}
end
end Q

namespace Q
open PySem PySem.Spec PyProof.Rows L2
variable [Gh : Ghost]
/-! ### tuple(range(n)) -/
/-! ### xs.clear() -/
/-! ### sum of a tuple -/
section
variable {prog : Program} {w : World} {A : Around} {E : Value → Shared → Prop} {s : Shared} {l : Addr} {its : List Value} {ns : List Int} {Q : Value → Shared → Prop}
end
section
variable {X : Cx} {k : Nat}
end
end Q

namespace Q
open PySem PySem.Spec PyProof.Rows L2
variable [Gh : Ghost]
/-! ### an error kept beyond its suite: what stands behind the try runs where the error's object is pinned -/
def Cx.pin (X : Cx) (p : Addr × Obj) : Cx := { X with pn := p :: X.pn }
end Q
namespace Q
open PySem PySem.Spec PyProof.Rows L2
variable [Gh : Ghost]
section
variable {X : Cx} {pins : List (Addr × Obj)} {σ : L2.St} {H : Hp} {s : Shared} {p : Addr × Obj}
theorem ok_pin (o : X.Ok) : (Cx.pin X p).Ok := ⟨o.mod, o.kind, o.glob, o.blt, o.above, o.inj, o.has, o.cab, o.hd, o.frames, o.stk, o.exf, o.bs, o.bsz, o.noex, o.exfs, o.funs, o.frf⟩
theorem ok_unpin (o : (Cx.pin X p).Ok) : X.Ok := ⟨o.mod, o.kind, o.glob, o.blt, o.above, o.inj, o.has, o.cab, o.hd, o.frames, o.stk, o.exf, o.bs, o.bsz, o.noex, o.exfs, o.funs, o.frf⟩
theorem inv_pin (I : Inv X (p :: pins) σ H s) : Inv (Cx.pin X p) pins σ H s :=
  ⟨ok_pin I.ok, I.os, I.bare, I.base, I.loc, I.cell, I.free, I.freeC, fun q hq => I.pin q (by
    have hq : q ∈ (p :: X.pn) ++ pins := hq
    rcases List.mem_append.mp hq with h | h
    · rcases List.mem_cons.mp h with h | h
      · exact List.mem_append_right _ (h ▸ List.mem_cons_self)
      · exact List.mem_append_left _ h
    · exact List.mem_append_right _ (List.mem_cons_of_mem _ h)), I.hok, I.len⟩
theorem inv_unpin (I : Inv (Cx.pin X p) pins σ H s) : Inv X pins σ H s :=
  ⟨ok_unpin I.ok, I.os, I.bare, I.base, I.loc, I.cell, I.free, I.freeC, fun q hq => I.pin q (by
    show q ∈ (p :: X.pn) ++ pins
    rcases List.mem_append.mp hq with h | h
    · exact List.mem_append_left _ (List.mem_cons_of_mem _ h)
    · exact List.mem_append_right _ h), I.hok, I.len⟩
theorem takes_pin {W : WX} (tk : Takes X W) : Takes (Cx.pin X p) W := fun u s' ⟨a, B, sI, pins, σ, H, cls, d, e, I, nb, up, sky, na, os, ag, w⟩ => tk u s' ⟨a, B, sI, pins, σ, H, cls, d, e, inv_unpin I, nb, up, sky, na, os, ag, w⟩
theorem sp_unpin {D : Ends} {f : Flow} (h : SP (Cx.pin X p) pins D f s) : SP X pins D f s := by
  cases f with
  | next => obtain ⟨σ', H', I, w⟩ := h; exact ⟨σ', H', inv_unpin I, w⟩
  | brk => obtain ⟨σ', H', I, w⟩ := h; exact ⟨σ', H', inv_unpin I, w⟩
  | cont => obtain ⟨σ', H', I, w⟩ := h; exact ⟨σ', H', inv_unpin I, w⟩
  | ret u => obtain ⟨v, σ', H', I, r, w⟩ := h; exact ⟨v, σ', H', inv_unpin I, r, w⟩
theorem Gd.pin {k : Nat} (g : Gd X k) : Gd (Cx.pin X p) k := ⟨g.calm, g.room, g.gd⟩
theorem inv_kept {a : Addr} {oe : Obj} (I : Inv (X.suite a ((a, oe) :: (X.pn ++ pins))) [] σ H s) (ok : X.Ok) : Inv X ((a, oe) :: pins) σ H s :=
  ⟨ok, I.os, I.bare, I.base, I.loc, I.cell, I.free, I.freeC, fun q hq => I.pin q (by
    show q ∈ ((a, oe) :: (X.pn ++ pins)) ++ []
    rw [List.append_nil]
    rcases List.mem_append.mp hq with h | h
    · exact List.mem_cons_of_mem _ (List.mem_append_left _ h)
    · rcases List.mem_cons.mp h with h | h
      · rw [h]; exact List.mem_cons_self
      · exact List.mem_cons_of_mem _ (List.mem_append_right _ h)), I.hok, I.len⟩
end
/-! the try's one clause `except C as e: kept = e` -/
section
variable {X : Cx} {b0 : Stmt} {body su : List Stmt} {pos np hp : Pos} {x nm : Str} {j : Nat} {C : Addr} {tb : WX → TS} {pins : List (Addr × Obj)} {σ : L2.St} {H : Hp} {s : Shared} {Q : Flow → Shared → Prop} {Wf : WX} {D0 : Ends}
theorem try_keep (hs : X.stack = X.env :: X.outer) (hfr : X.env.frame = some X.env.locals) (nd : X.N.Nodup)
    (hb : ∀ (W : WX) (pn : List (Addr × Obj)) (xe : Value → Shared → Prop), Takes (X.tr pn xe) W → PassesOwn (model X.prog X.w) X.A X.env xe → PSs (X.tr pn xe) body (tb W))
    (hg : Gl X x) (hm : X.mg x = some (.ref C)) (hdb : (x == ("__debug__" : Str)) = false) (hi : X.N[j]? = some nm) (hl : X.env.kindOf nm = some .local) (I : Inv X pins σ H s) (h : tb Wf D0 σ H) (h0 : ∀ f s', SP X pins D0 f s' → Q f s')
    (hW : ∀ cls d σ1 H1, Wf cls d σ1 H1 → PySem.W.exmOne X.K cls (.ref C) = some true ∧ ∀ a oe, H1 a = none → Zc cls d oe → (∃ vs, oe.data = .fields vs) →
      ∃ nx, wSs (X.suite a ((a, oe) :: (X.pn ++ pins))) (b0 :: su) { nx := nx, rt := fun _ _ => False, bk := fun _ _ => False, ct := fun _ _ => False } (σ1.set j (some (.ref a))) H1 ∧ ∀ σ6 H6 s7, nx σ6 H6 → Inv X ((a, oe) :: pins) (σ6.set j none) H6 s7 → Q .next s7) :
    wpAny (model X.prog X.w) X.A (exec (.Try body [.ExceptHandler (some (.Name x np)) (some nm) (b0 :: su) hp] [] [] pos) X.env) Q X.xe s := by
  have ok := I.ok
  have frames : X.A.frames = some (X.env :: X.outer) := by rw [ok.frames, hs]
  refine wpAny_Try_except ?_
  let catch_ : Value → Shared → Prop := fun e s₁ => wpAny (model X.prog X.w) X.A (noteFrame e X.env) (fun _ s₂ => wpAny (model X.prog X.w) X.A (setFlight e none) (fun _ s₃ => wpAny (model X.prog X.w) X.A (handleBy e X.env [.ExceptHandler (some (.Name x np)) (some nm) (b0 :: su) hp]) Q X.xe s₃) X.xe s₂) X.xe s₁
  refine wpAny_mono ((hb Wf (X.pn ++ pins) catch_ (fun u s' x => ?_) PassesOwn.looking).run [] s σ H D0 (I.toTry _) h) (fun f s1 hsp => ?_) (fun e s1 he => he)
  · obtain ⟨a, G, sI, pI, σ1, H1, cls, d, rfl, J', ng, up, sky, na, os, bare, wish⟩ := x
    have J : Inv X pins σ1 H1 sI := J'.ofTry ok
    have sky2 : Sky G (X.env :: X.outer) a (Zc cls d) X.env.locals s'.heap := by rw [← hs]; exact sky
    show wpAny (model X.prog X.w) X.A (noteFrame (.ref a) X.env) _ _ _
    refine Sky.land Zc.steady frames hfr sky2 fun g3 fly3 up3 => ?_
    have J3 : Inv X pins σ1 H1 { s' with heap := g3 } := J.landed ng fly3.1 (up.trans up3) os bare
    obtain ⟨oe3, v3, at3, z3, d3⟩ := fly3.there
    have noFrame : ∀ {g : Heap} {o : Obj} {vs : Array Value}, g.FunFrames G (X.env :: X.outer) → g.get? a = some o → o.data = .fields vs → a ∉ frs (X.env :: X.outer) := fun {g o vs} ff ea ed hm => by
      obtain ⟨_, o2, e2, hno⟩ := ff.mem hm
      rw [ea] at e2
      cases e2
      exact hno _ ed
    have nfr := noFrame fly3.2.2.1 at3 d3
    have notL : a ≠ X.env.locals := fun z => nfr (List.mem_filterMap.mpr ⟨X.env, List.mem_cons_self, by rw [hfr, z]⟩)
    have notF : a ∉ X.fs := fun hm => by
      obtain ⟨e, he, q⟩ := List.mem_filterMap.mp hm
      exact nfr (List.mem_filterMap.mpr ⟨e, List.mem_cons_of_mem _ he, q⟩)
    have S3 := J3.suite at3 d3 na notL notF
    obtain ⟨hb1, yes⟩ := hW cls d σ1 H1 wish
    refine wpAny_handleBy_cons (codeAny_handlers_test ?_) (by intro q; cases q)
    have lT : PySem.W.Looks (model X.prog X.w) g3 (typeOf (.ref a)) cls := fun A Q E s k q => wpAny_typeOf_ref (k _ _ at3) (by rw [z3.1]; exact q)
    have lM := PySem.W.exm_one (M := model X.prog X.w) (J3.kIn) lT hb1
    refine ld_glob (X := X.suite a ((a, oe3) :: (X.pn ++ pins))) S3 hg hm (lM.here ?_) hdb
    refine codeAny_handlers_suite_as ?_
    refine HandSPX.lands_againZ fly3 fun g4 fly4 up4 => ?_
    have J4 : Inv X pins σ1 H1 { s' with heap := g4 } := J.landed ng fly4.1 ((up.trans up3).trans up4) os bare
    obtain ⟨oe4, v4, at4, z4, d4⟩ := fly4.there
    have S4 := J4.suite at4 d4 na notL notF
    obtain ⟨nx, w1, w2⟩ := yes a oe4 na z4 ⟨_, d4⟩
    refine store_ok (X := X.suite a ((a, oe4) :: (X.pn ++ pins))) (v := .ref a) S4 nd hi (.inl hl) rfl (fun s5 S5 => ?_) (.inr hl)
    refine wpAny_mono (w1 [] s5 S5) (fun f s6 hsp => ?_) (fun _ _ z => False.elim z)
    cases f with
    | next =>
      obtain ⟨σ6, H6, S6, w6⟩ := hsp
      exact gone_ok (inv_kept S6 ok) nd hi hl fun s7 J7 => w2 σ6 H6 s7 w6 J7
    | brk => obtain ⟨_, _, _, w6⟩ := hsp; exact w6.elim
    | cont => obtain ⟨_, _, _, w6⟩ := hsp; exact w6.elim
    | ret u => obtain ⟨_, _, _, _, _, w6⟩ := hsp; exact w6.elim
  · cases f with
    | next =>
      obtain ⟨σ1, H1, J1, w1⟩ := hsp
      exact wpAny_execs_nil (h0 .next s1 ⟨σ1, H1, J1.ofTry ok, w1⟩)
    | brk =>
      obtain ⟨σ1, H1, J1, w1⟩ := hsp
      exact h0 .brk s1 ⟨σ1, H1, J1.ofTry ok, w1⟩
    | cont =>
      obtain ⟨σ1, H1, J1, w1⟩ := hsp
      exact h0 .cont s1 ⟨σ1, H1, J1.ofTry ok, w1⟩
    | ret u =>
      obtain ⟨v1, σ1, H1, J1, r1, w1⟩ := hsp
      exact h0 (.ret u) s1 ⟨v1, σ1, H1, J1.ofTry ok, r1, w1⟩
end
end Q
namespace Q
open PySem PySem.Spec PyProof.Rows L2
variable [Gh : Ghost]
/-- `try: .. except C as e: kept = e`, and what stands behind it -/
def keepR (i : Nat) (ms rK : MS) (e : En) (S : Store) : SRes := match ms e S with
  | .nx e2 S2 => rK (e2.set i none) S2
  | _ => .bad
open Classical in
noncomputable def keepC (i : Nat) (ms rK : Addr → Addr → Option Nat → MS) (n : Option Nat) (e : En) (S : Store) : SRes :=
  if ok : ∃ q, ∀ a d, keepR i (ms a d n) (rK a d n) (e.set i (some (excV a d n))) S = q then ok.choose else .bad
theorem keepC_eq {i : Nat} {ms rK : Addr → Addr → Option Nat → MS} {n : Option Nat} {e : En} {S : Store} {q : SRes} (h : ∀ a d, keepR i (ms a d n) (rK a d n) (e.set i (some (excV a d n))) S = q) : keepC i ms rK n e S = q := by
  have ok : ∃ q, ∀ a d, keepR i (ms a d n) (rK a d n) (e.set i (some (excV a d n))) S = q := ⟨q, h⟩
  unfold keepC
  rw [dif_pos ok]
  have := ok.choose_spec 0 0
  rw [h] at this
  exact this.symm
noncomputable def mTryK (C : Addr) (i : Nat) (mb : MS) (ms rK : Addr → Addr → Option Nat → MS) (r0 : MS) : MS := fun en S => match mb en S with
  | .nx e S1 => r0 e S1
  | .err C' n e S1 => if C' = C then keepC i ms rK n e S1 else .bad
  | q => q
section
variable {X : Cx} {b0 : Stmt} {su body rest : List Stmt} {x nm : Str} {np hp pos : Pos} {i : Nat} {C : Addr} {mb r0 : MS} {ms rK : Addr → Addr → Option Nat → MS} {B newId initId : String} {bb : List Value}
theorem s_tryK (hs : X.stack = X.env :: X.outer) (hfr : X.env.frame = some X.env.locals) (nd : X.N.Nodup) (T : EcOk X.K B newId initId bb C) (hg : Gl X x) (hm : X.mg x = some (.ref C)) (hi : X.N[i]? = some nm) (hl : X.env.kindOf nm = some .local)
    (hb : ∀ (pn : List (Addr × Obj)) (xe : Value → Shared → Prop), PassesOwn (model X.prog X.w) X.A X.env xe → SndSs (X.tr pn xe) body mb)
    (hsu : ∀ (a d : Addr) (n : Option Nat) (oe : Obj) (od : Option Addr) (pn : List (Addr × Obj)), Zc (.ref C) od oe → (∃ vs, oe.data = .fields vs) → od = n.map (fun _ => d) → SndSs (X.suite a ((a, oe) :: pn)) (b0 :: su) (ms a d n))
    (hK : ∀ (a d : Addr) (n : Option Nat) (oe : Obj) (od : Option Addr), Zc (.ref C) od oe → (∃ vs, oe.data = .fields vs) → od = n.map (fun _ => d) → SndSs (Cx.pin X (a, oe)) rest (rK a d n))
    (h0 : SndSs X rest r0) (hdb : (x == ("__debug__" : Str)) = false := by decide) :
    SndSs X (.Try body [.ExceptHandler (some (.Name x np)) (some nm) (b0 :: su) hp] [] [] pos :: rest) (mTryK C i mb ms rK r0) := by
  refine ⟨?_⟩
  intro W tk en σ r H S D er ro dn
  intro pins s I
  have run0 : ∀ {σ' : L2.St} {H' : Hp} {s' : Shared}, Inv X pins σ' H' s' → wSs X rest D σ' H' → wpAny (model X.prog X.w) X.A (execs rest X.env) (SP X pins D) X.xe s' := fun I' w => w pins _ I'
  refine wpAny_execs_cons (try_keep (Wf := fun cls x σ1 H1 => cls = .ref C ∧ ∀ a oe, Zc cls x oe → (∃ vs, oe.data = .fields vs) → wSs (X.suite a ((a, oe) :: (X.pn ++ pins))) (b0 :: su) { nx := fun σ6 H6 => wSs (Cx.pin X (a, oe)) rest D (σ6.set i none) H6, rt := fun _ _ => False, bk := fun _ _ => False, ct := fun _ _ => False } (σ1.set i (some (.ref a))) H1)
    (D0 := { D with nx := fun σ' H' => wSs X rest D σ' H' })
    (tb := fun (W' : WX) (D2 : Ends) (σ2 : L2.St) (H2 : Hp) => ∀ (pn : List (Addr × Obj)) (xe : Value → Shared → Prop), Takes (X.tr pn xe) W' → PassesOwn (model X.prog X.w) X.A X.env xe → wSs (X.tr pn xe) body D2 σ2 H2)
    hs hfr nd (fun W' pn xe tk' own => ⟨fun pins s σ' H' D' I h => h pn xe tk' own pins s I⟩) hg hm hdb hi hl I ?_ ?_ ?_)
  · intro pn xe tk' own
    refine (hb pn xe own).run _ tk' en σ r H S _ er ro ?_
    replace dn : DnS X.K r H (mTryK C i mb ms rK r0 en S) D W := dn
    unfold mTryK at dn
    cases q : mb en S with
    | nx e S1 =>
      rw [q] at dn
      intro r' H' σ' s' o' er'
      exact h0.run W tk e σ' r' H' S1 D er' o' (DnS.mono s' dn)
    | rt d S1 => rw [q] at dn; exact dn
    | bk e S1 => rw [q] at dn; exact dn
    | ct e S1 => rw [q] at dn; exact dn
    | bad => rw [q] at dn; exact dn
    | err C' n e S1 =>
      rw [q] at dn
      dsimp only at dn
      by_cases hC : C' = C
      · rw [if_pos hC] at dn
        subst hC
        intro r' H' σ' x s' o' er' hn
        refine ⟨rfl, fun a oe hz hf => ?_⟩
        have key : ∃ q, ∀ a d, keepR i (ms a d n) (rK a d n) (e.set i (some (excV a d n))) S1 = q := by
          unfold keepC at dn
          by_cases ok : ∃ q, ∀ a d, keepR i (ms a d n) (rK a d n) (e.set i (some (excV a d n))) S1 = q
          · exact ok
          · rw [dif_neg ok] at dn
            exact dn.elim
        obtain ⟨q, hq⟩ := key
        rw [keepC_eq hq] at dn
        have hd : ∃ d : Addr, x = n.map (fun _ => d) ∧ VR X.K r' H' (excV a d n) (.ref a) := by
          cases n with
          | none => exact ⟨0, hn, rfl⟩
          | some k =>
            obtain ⟨d, h1, h2⟩ := hn
            exact ⟨d, h2, rfl, h1⟩
        obtain ⟨d, hd1, hd2⟩ := hd
        refine (hsu a d n oe x _ hz hf hd1).run (fun _ _ _ _ => False) noTakes (e.set i (some (excV a d n))) _ r' H' S1 _ (er'.set hd2) o' ?_
        have hq1 := hq a d
        cases q6 : ms a d n (e.set i (some (excV a d n))) S1 with
        | nx e6 S6 =>
          unfold keepR at hq1
          rw [q6] at hq1
          intro r6 H6 σ6 s6 o6 er6
          refine (hK a d n oe x hz hf hd1).run W (takes_pin tk) (e6.set i none) _ r6 H6 S6 D (er6.noneAt i) o6 ?_
          have hq2 : rK a d n (e6.set i none) S6 = q := hq1
          rw [hq2]
          exact DnS.mono (s'.trans s6) dn
        | rt d6 S6 => unfold keepR at hq1; rw [q6] at hq1; rw [← hq1] at dn; exact dn.elim
        | bk e6 S6 => unfold keepR at hq1; rw [q6] at hq1; rw [← hq1] at dn; exact dn.elim
        | ct e6 S6 => unfold keepR at hq1; rw [q6] at hq1; rw [← hq1] at dn; exact dn.elim
        | bad => unfold keepR at hq1; rw [q6] at hq1; rw [← hq1] at dn; exact dn.elim
        | err c6 n6 e6 S6 => unfold keepR at hq1; rw [q6] at hq1; rw [← hq1] at dn; exact dn.elim
      · rw [if_neg hC] at dn
        exact dn.elim
  · intro f s' hsp
    cases f with
    | next =>
      obtain ⟨σ', H', I', w⟩ := hsp
      exact w pins s' I'
    | brk => exact hsp
    | cont => exact hsp
    | ret u => exact hsp
  · intro cls d σ1 H1 hw
    obtain ⟨rfl, hw⟩ := hw
    refine ⟨?_, fun a oe ha hz hf => ⟨_, hw a oe hz hf, fun σ6 H6 s7 w6 J7 => ?_⟩⟩
    · have := T.exm T
      simpa using this
    · exact thn (w6 pins s7 (inv_pin J7)) fun f s8 q => sp_unpin q
end
end Q
namespace Q
open PySem PySem.Spec PyProof.Rows L2
variable [Gh : Ghost]
/-! ### behind the try: kept.f, isinstance(kept, T) -/
section
variable {Y : Cx} {a d C : Addr} {n : Option Nat} {oe : Obj} {od : Option Addr} {e t t1 t2 : Expr} {m : ME} {B newId initId : String} {bb : List Value} {f x : Str} {p pos p3 : Pos} {px : Nat}
theorem pin_mem {pins : List (Addr × Obj)} : (a, oe) ∈ (Cx.pin Y (a, oe)).pn ++ pins := List.mem_append.mpr (.inl List.mem_cons_self)
theorem pin_at {pins : List (Addr × Obj)} {σ : L2.St} {H : Hp} {s : Shared} (I : Inv (Cx.pin Y (a, oe)) pins σ H s) (hz : Zc (.ref C) od oe) (hf : ∃ vs, oe.data = .fields vs) (hod : ∀ z, od = some z → H z ≠ none) : ∃ o, PySem.W.InstAt s.heap a oe C o := by
  obtain ⟨hat, _⟩ := I.pin (a, oe) pin_mem
  obtain ⟨vs, hv⟩ := hf
  obtain ⟨oc, dt, oda, osl⟩ := oe
  obtain ⟨z1, z2⟩ := hz
  dsimp only at z1 z2 hv
  subst z1 z2 hv
  cases dt with
  | none => exact ⟨none, hat, rfl, rfl, trivial⟩
  | some z =>
    obtain ⟨ho, hH⟩ := Option.ne_none_iff_exists'.mp (hod z rfl)
    obtain ⟨o, eo⟩ := obj_there (I.hok z ho hH)
    exact ⟨some o, hat, rfl, rfl, eo⟩
theorem e_xfP (T : EcOk Y.K B newId initId bb C) (hno : PySem.W.findIn Y.K (.ref C) f = some none) (hz : Zc (.ref C) od oe) (hf : ∃ vs, oe.data = .fields vs) (hd : od = n.map fun _ => d) (ha : SndE (Cx.pin Y (a, oe)) e m)
    (hb : attributeBase e f Y.env (eval e Y.env) = eval e Y.env := by rfl) : SndE (Cx.pin Y (a, oe)) (.Attribute e f pos) (mXf a d n f m) := by
  refine ⟨?_⟩
  intro W tk en σ r H S Q er ro dn pins s I
  have first := ha.run W tk en σ r H S (fun v H1 => v = .ref a ∧ ∃ (vs : List (Str × V)) (v1 : V), od = some d ∧ H1 d = some (.xd vs) ∧ vs.lookup f = some v1 ∧ Q v1 H1) er ro (Dn.imp (Dn.bind dn) fun v H1 ⟨z, S1, r1, e1, s1, o1, k1, d1⟩ => ?_) pins s I
  · refine attr_of (env := Y.env) hb (thn first fun u s1 ⟨v, H1, I1, rx, ex, vs, v1, ed, ea, l, q⟩ => ?_)
    subst ex
    obtain rfl : u = Value.ref a := rx
    have hx : ObjOk Y.prog Y.w H1 s1.heap d (.xd vs) := I1.hok d _ ea
    obtain ⟨mA, hns, hr⟩ := hx
    obtain ⟨o2, ho, hl⟩ := lookIn_ns hns
    obtain ⟨u, hu, ru⟩ := RelO.some_of (v := v1) (o := mA f) (by rw [← l]; exact hr f)
    obtain ⟨hat, _⟩ := I1.pin (a, oe) pin_mem
    obtain ⟨ws, hw⟩ := hf
    have J : PySem.W.InstAt s1.heap a oe C (some o2) := ⟨hat, hz.1, by unfold PySem.W.notCls; rw [hw] <;> rfl, by rw [hz.2, ed]; exact ho⟩
    exact HandSPX.exc_get I1.kIn J T.ga T.gg T.exC (PySem.W.findObj_own T.hd hno rfl (by rw [hl, hu])) (handed_of ru) ⟨v1, H1, I1.tok _, ru, q⟩
  · cases z with
    | exc a' d' k =>
      cases n with
      | none => exact d1.elim
      | some j =>
        have d2 : Dn Y.K r1 H1 (VR Y.K) (if a' = a ∧ d' = d then (match S1[k]? with | some (.xd fs) => (match fs.lookup f with | some z => .ok z S1 | none => .bad) | _ => .bad) else .bad) Q (WE W σ) := d1
        by_cases hc : a' = a ∧ d' = d
        · rw [if_pos hc] at d2
          obtain ⟨rfl, rfl⟩ := hc
          obtain ⟨rfl, hr⟩ := k1
          cases q : S1[k]? with
          | none => rw [q] at d2; exact d2.elim
          | some o =>
            rw [q] at d2
            have oo := o1.ob k o d' q hr
            cases o with
            | xd fs =>
              obtain ⟨vs, h1, h2⟩ := oo
              dsimp only at d2
              cases ql : fs.lookup f with
              | none => rw [ql] at d2; exact d2.elim
              | some z =>
                rw [ql] at d2
                obtain ⟨v, hv1, hv2⟩ := FR_lookup h2 ql
                exact ⟨rfl, vs, v, hd, h1, hv1, Dn.ok_here (R := VR Y.K) d2 o1 hv2⟩
            | _ => exact d2.elim
        · rw [if_neg hc] at d2
          exact d2.elim
    | _ => cases n <;> exact d1.elim
theorem isX_ref {K : PySem.W.Frag} {r1 : List Addr} {H1 : Hp} {S1 : Store} {z : D} {v : V} (hd : od = n.map fun _ => d) (hc : isX a d n S1 z = true) (k1 : VR K r1 H1 z v) (o1 : ROk K r1 H1 S1) : V.ref a = v ∧ ∀ y, od = some y → H1 y ≠ none := by
  cases z with
  | exc a' d' k =>
    cases n with
    | none => cases hc
    | some j =>
      have hc : (decide (a' = a) && decide (d' = d) && (S1[k]?).isSome) = true := hc
      simp only [Bool.and_eq_true, decide_eq_true_eq] at hc
      obtain ⟨⟨rfl, rfl⟩, hs⟩ := hc
      obtain ⟨rfl, hr⟩ := k1
      refine ⟨rfl, fun y hy => ?_⟩
      rw [hd] at hy
      cases hy
      obtain ⟨o, ho⟩ := Option.isSome_iff_exists.mp hs
      exact (o1.ob k o d' ho hr).some
  | adr a' =>
    cases n with
    | none =>
      have hc : decide (a' = a) = true := hc
      obtain rfl := of_decide_eq_true hc
      refine ⟨(show v = .ref a' from k1).symm, fun y hy => ?_⟩
      rw [hd] at hy
      cases hy
    | some j => cases hc
  | _ => cases n <;> cases hc
theorem call_isXP (T : EcOk Y.K B newId initId bb C) (hz : Zc (.ref C) od oe) (hf : ∃ vs, oe.data = .fields vs) : CallR (Cx.pin Y (a, oe)) (.builtin "isinstance") (rIsX Y.K C a od) := by
  intro pins s σ H xs us Q I rv ⟨c, cv, b, ex, hcv, kit, hod, q⟩
  subst ex
  obtain ⟨u, u2, rfl, ru, ru2⟩ := vals2 rv
  obtain rfl : u = Value.ref a := ru
  obtain rfl := hcv _ ru2
  exact PySem.W.kia_one (err_kit T) I.kIn (pin_at I hz hf hod) kit (fun z => nomatch z) fun tk => ⟨.bl b, H, I.kept (t' := tk) fun _ _ z => z, rfl, q⟩
theorem call_isX2P (T : EcOk Y.K B newId initId bb C) (hz : Zc (.ref C) od oe) (hf : ∃ vs, oe.data = .fields vs) : CallR (Cx.pin Y (a, oe)) (.builtin "isinstance") (rIsX2 Y.K C a od) := by
  intro pins s σ H xs us Q I rv ⟨tp, cs, ws, b, ex, hT, k, kit, hod, q⟩
  subst ex
  obtain ⟨u, u2, rfl, ru, ru2⟩ := vals2 rv
  obtain rfl : u = Value.ref a := ru
  obtain rfl : u2 = Value.ref tp := ru2
  obtain ⟨_, its, rv, o, h1, h2, _, h3⟩ := (show ObjOk Y.prog Y.w H s.heap tp (.tup cs) from I.hok tp _ hT)
  obtain rfl := ClsV.all k rv
  obtain ⟨oc, od', dt, sl⟩ := o
  simp only at h2 h3
  subst h2 h3
  exact PySem.W.kia_tup (err_kit T) I.kIn (pin_at I hz hf hod) h1 kit (fun z => nomatch z) fun tk => ⟨.bl b, H, I.kept (t' := tk) fun _ _ z => z, rfl, q⟩
theorem e_isXP {tv : V} {cv : Value} {b : Bool} (T : EcOk Y.K B newId initId bb C) (hz : Zc (.ref C) od oe) (hf : ∃ vs, oe.data = .fields vs) (hd : od = n.map fun _ => d) (hg : Gl Y x) (hm : Y.mg x = none) (hv : bootBuiltins x = some (.builtin "isinstance"))
    (ha : SndE (Cx.pin Y (a, oe)) e m) (ht : PE (Cx.pin Y (a, oe)) t (tC tv)) (hcv : ∀ u, RelV tv u → u = cv) (kit : PySem.W.kitOne Y.K (.ref C) cv = some b)
    (hn : x ≠ "__name__" := by decide) (hdb : (x == ("__debug__" : Str)) = false := by decide)
    (he : starEach [e, t] (Cx.pin Y (a, oe)).env = (false, eval e Y.env) :: starEach [t] Y.env := by rfl) (he2 : starEach [t] (Cx.pin Y (a, oe)).env = (false, eval t Y.env) :: starEach [] Y.env := by rfl) (hpl : (backTo pos (starEach [t] Y.env)).any (·.1) = false := by rfl) :
    SndE (Cx.pin Y (a, oe)) (.Call (.Name x p) [e, t] [] pos) (mIsX a d n b m) := by
  refine ⟨?_⟩
  intro W tk en σ r H S Q er ro dn
  refine wE_of (pe_callB (X := Cx.pin Y (a, oe)) (call_isXP T hz hf) hg hm hv (pa_cons (pe_wE _ e) (pa_cons ht pa_nil he2) he) hn hdb he hpl) ?_
  refine ha.run W tk en σ r H S _ er ro (Dn.imp (Dn.bind dn) fun v H1 ⟨z, S1, r1, e1, s1, o1, k1, d1⟩ => ?_)
  by_cases hc : isX a d n S1 z = true
  · rw [if_pos hc] at d1
    obtain ⟨rfl, hod⟩ := isX_ref hd hc k1 o1
    exact ⟨tv, cv, b, rfl, hcv, kit, hod, Dn.ok_here (R := VR Y.K) (a := .bl b) (v := .bl b) d1 o1 rfl⟩
  · rw [if_neg hc] at d1
    exact d1.elim
theorem e_isX2P {tv1 tv2 : V} {cv1 cv2 : Value} {b : Bool} (T : EcOk Y.K B newId initId bb C) (hz : Zc (.ref C) od oe) (hf : ∃ vs, oe.data = .fields vs) (hd : od = n.map fun _ => d) (hg : Gl Y x) (hm : Y.mg x = none) (hv : bootBuiltins x = some (.builtin "isinstance"))
    (ha : SndE (Cx.pin Y (a, oe)) e m) (ht1 : PE (Cx.pin Y (a, oe)) t1 (tC tv1)) (ht2 : PE (Cx.pin Y (a, oe)) t2 (tC tv2)) (hc1 : ClsV tv1 cv1) (hc2 : ClsV tv2 cv2) (kit : PySem.W.kitAny Y.K (.ref C) [cv1, cv2] = some b)
    (hn : x ≠ "__name__" := by decide) (hdb : (x == ("__debug__" : Str)) = false := by decide)
    (he0 : starEach [t1, t2] (Cx.pin Y (a, oe)).env = (false, eval t1 Y.env) :: starEach [t2] Y.env := by rfl) (he1 : starEach [t2] (Cx.pin Y (a, oe)).env = (false, eval t2 Y.env) :: starEach [] Y.env := by rfl)
    (he : starEach [e, .Tuple [t1, t2] px p3] (Cx.pin Y (a, oe)).env = (false, eval e Y.env) :: starEach [.Tuple [t1, t2] px p3] Y.env := by rfl) (he2 : starEach [.Tuple [t1, t2] px p3] (Cx.pin Y (a, oe)).env = (false, eval (.Tuple [t1, t2] px p3) Y.env) :: starEach [] Y.env := by rfl) (hpl : (backTo pos (starEach [.Tuple [t1, t2] px p3] Y.env)).any (·.1) = false := by rfl) :
    SndE (Cx.pin Y (a, oe)) (.Call (.Name x p) [e, .Tuple [t1, t2] px p3] [] pos) (mIsX a d n b m) := by
  refine ⟨?_⟩
  intro W tk en σ r H S Q er ro dn
  refine wE_of (pe_callB (X := Cx.pin Y (a, oe)) (call_isX2P T hz hf) hg hm hv (pa_cons (pe_wE _ e) (pa_cons (pe_tup (pa_cons ht1 (pa_cons ht2 pa_nil he1) he0)) pa_nil he2) he) hn hdb he hpl) ?_
  refine ha.run W tk en σ r H S _ er ro (Dn.imp (Dn.bind dn) fun v H1 ⟨z, S1, r1, e1, s1, o1, k1, d1⟩ => ?_)
  by_cases hc : isX a d n S1 z = true
  · rw [if_pos hc] at d1
    obtain ⟨rfl, hod⟩ := isX_ref hd hc k1 o1
    refine ⟨by show 2 ≤ sizeLine; decide, fun q hq => ?_⟩
    exact ⟨q, [tv1, tv2], [cv1, cv2], b, rfl, upd_same, .cons hc1 (.cons hc2 .nil), kit, fun y hy => (by rw [upd_ne (fun z => hod y hy (by rw [z]; exact hq))]; exact hod y hy), d1 r1 _ _ (Stp.loose hq) (o1.loose hq) rfl⟩
  · rw [if_neg hc] at d1
    exact d1.elim
end
/-- what is never reached needs no proof -/
def mNo : ME := fun _ _ => .bad
theorem e_no {Y : Cx} {e : Expr} : SndE Y e mNo := ⟨fun _ _ _ _ _ _ _ _ _ _ dn => dn.elim⟩
end Q

namespace Q
open PySem PySem.Spec PyProof.Rows L2
variable [Gh : Ghost]
/-! ### dicts whose keys are tuples of ints: new, o[k], o[k] = v, o.get(k), o.get(k, v) -/
section
variable {X : Cx} {k : Nat} {a b c o i value : Expr} {ma mb mc mo mv mi : ME} {pos pos' apos cpos : Pos}
end
end Q

namespace Q
open PySem PySem.Spec PyProof.Rows L2
variable [Gh : Ghost]
/-! ### f(k = e, ..): a def called by names alone, in any order -/
section
variable {X : Cx} {k : Nat} {f : Addr} {fd : FuncData} {ps ks : List Str} {ixs : List Nat} {M : MF} {x : Str} {p pos : Pos} {kws : List Keyword} {m : MA}
end
end Q

namespace Q
open PySem PySem.Spec PyProof.Rows L2
/-! ### dicts with tuple keys, defs called by names: in what is wished -/
section
variable {en : En} {S : Store} {E : EK} {P : D → Store → Prop} {N : En → Store → Prop} {R : D → Store → Prop} {B C : En → Store → Prop} {X : XKs}
end
end Q

namespace Q
open PySem PySem.Spec PyProof.Rows L2
variable [Gh : Ghost]
/-! ### min(xs) of data that can be compared: the first of the least -/
section
variable {X : Cx} {k : Nat} {pins : List (Addr × Obj)} {σ : L2.St} {H : Hp} {s : Shared} {r : List Addr} {S : Store}
end
end Q

namespace Q
open PySem PySem.Spec PyProof.Rows L2
/-! ### lambdas that are kept as values: the function object is told of in H -/
/-- the object at f is this lambda -/
def LamO (f c' : Addr) (q : Str) (params : Arguments) (body : Expr) (scope : Scope) (cl : List (Str × Addr)) : HO := .ext fun h => ∃ pm ctv : Value, h.get? f = some (PySem.W.kla_obj "<lambda>" q params body scope cl pm c' ctv)
section
variable {X : Cx} {pins : List (Addr × Obj)} {σ : L2.St} {H : Hp} {s : Shared}
/-- one more code object in the table at P -/
theorem tabs_more {T : List (Addr × Str)} {P c' : Addr} {q : Str} {ps : Array Value} {l k : Nat} (hT : LamX.Tabs T H) (hP : H P = some (.tbl ps)) (ht : TriplesOk ps.toList) (ha : ∀ (pos : Pos) (cv : Value), codeAmong pos ps.toList = some cv → ∃ c, cv = .ref c ∧ H c = some (LamX.CodeO c q)) (hu : ∀ p ∈ T, p.1 = P → p.2 = q) (nC : H c' = none) :
    LamX.ExtN H (upd (upd H P (.tbl (ps ++ #[rawInt l, rawInt k, .ref c']))) c' (LamX.CodeO c' q)) ∧ LamX.Tabs T (upd (upd H P (.tbl (ps ++ #[rawInt l, rawInt k, .ref c']))) c' (LamX.CodeO c' q)) := by
  have far : ∀ {b o}, H b = some o → b ≠ c' := fun e z => by rw [z, nC] at e; cases e
  have eN : LamX.ExtN H (upd (upd H P (.tbl (ps ++ #[rawInt l, rawInt k, .ref c']))) c' (LamX.CodeO c' q)) := fun b o e n => by
    have hbP : b ≠ P := fun z => by
      rw [z, hP] at e
      exact n ps (Option.some.inj e).symm
    rw [upd_ne (far e), upd_ne hbP, e]
  refine ⟨eN, fun p hp => ?_⟩
  by_cases hb : p.1 = P
  · have e2 := hu p hp hb
    rw [show p = (P, q) from Prod.ext hb e2]
    have el : (ps ++ #[rawInt l, rawInt k, .ref c']).toList = ps.toList ++ [rawInt l, rawInt k, .ref c'] := by simp
    refine ⟨_, (upd_ne (far hP)).trans upd_same, el ▸ PySem.TriplesOk_snoc _ _ _ _ ht, fun pos cv hc => ?_⟩
    rw [el] at hc
    have := LamX.among_app (pos := ⟨l, k, 0, 0⟩) (p' := pos) (c := .ref c') ps.toList ht hc
    rcases this with z | z
    · obtain ⟨c0, e1, e3⟩ := ha pos cv z
      exact ⟨c0, e1, eN _ _ e3 LamX.codeO_ne⟩
    · exact ⟨c', z, upd_same⟩
  · obtain ⟨qs, a1, a2, a3⟩ := hT p hp
    refine ⟨qs, ?_, a2, fun pos cv hc => ?_⟩
    · rw [upd_ne (far a1), upd_ne hb, a1]
    · obtain ⟨c0, e1, e3⟩ := a3 pos cv hc
      exact ⟨c0, e1, eN _ _ e3 LamX.codeO_ne⟩
end
section
variable {X : Cx}
/-- a def called with a lambda that stands in a local name; me is read where the call stands -/
noncomputable def mAtom (i : Nat) (f : Addr) (M : MFT) (me : ME) : ME := fun en S => match (en[i]? : Option (Option D)) with
  | some (some (D.adr g)) => open Classical in if g = f ∧ ∀ f', M f' (fun U => me en U) S = M 0 (fun U => me en U) S then M 0 (fun U => me en U) S else .bad
  | _ => .bad
end
end Q

namespace Q
open PySem PySem.Spec PyProof.Rows L2
/-! ### lists of lambdas, walked by a for loop -/
section
variable {X : Cx}
/-- a thing of H that the store does not speak of changes -/
theorem stp_side {r : List Addr} {H H' : Hp} {p : Addr} (hp : H p = none ∨ ∃ xs, H p = some (.lst xs)) (he : ∀ a, a ≠ p → H' a = H a) : Stp r H r H' := by
  have ne : ∀ {a : Addr} {o : HO}, H a = some o → (∀ xs, o ≠ .lst xs) → a ≠ p := fun {a o} e n z => by
    subst z
    rcases hp with h | ⟨xs, h⟩
    · rw [h] at e; cases e
    · rw [h] at e; exact n xs (Option.some.inj e).symm
  exact ⟨fun _ _ h => h, fun a xs h => (he a (ne h fun _ z => by cases z)).trans h, fun a o u h => (he a (ne h fun _ z => by cases z)).trans h, fun a q h => (he a (ne h fun _ z => by cases z)).trans h⟩
theorem rok_side [G : Ghost] {K : PySem.W.Frag} {r : List Addr} {H H' : Hp} {S : Store} {p : Addr} (h : ROk K r H S) (hr : p ∉ r) (hp : H p = none ∨ ∃ xs, H p = some (.lst xs)) (he : ∀ a, a ≠ p → H' a = H a) : ROk K r H' S where
  sys := h.sys.mono (stp_side (r := r) hp he)
  gh := Ghost.mono (stp_side hp he) h.gh
  len := h.len
  nd := h.nd
  ob := fun n o a e1 e2 => (h.ob n o a e1 e2).mono (stp_side hp he) (he a fun z => hr (by rw [← z]; first | exact List.mem_of_getElem? e1 | exact List.mem_of_getElem? e2))
/-- a lambda's own facts -/
structure LamW (X : Cx) (k : Nat) (params : Arguments) (body : Expr) (scope : Scope) (me : ME) : Prop where
  L : LamX.LamS X.env.scope scope
  hdef : defaultsOf params X.env = ([], [])
  hbind : ∀ (q : Str) (cl : List (Str × Addr)) (pm cv ctv : Value), bindArgs (PySem.W.kla_fn "<lambda>" q params body scope cl pm cv ctv) ⟨[], []⟩ = pure []
  hbody : ∀ (A : Around) (outer : List Env) (s : Shared) (H : Hp) (E : XK) (f c' : Addr), Gd (LamX.lamCx X A outer s H E scope f c') k → PassesOwn (model X.prog X.w) (LamX.lamCx X A outer s H E scope f c').A (LamX.lamCx X A outer s H E scope f c').env (LamX.lamCx X A outer s H E scope f c').xe →
      ∀ G' : Ghost, @SndE G' (LamX.lamCx X A outer s H E scope f c') body me
/-- the object at f is a lambda of this frame that reads as me -/
def IsLam (X : Cx) (k : Nat) (H : Hp) (f : Addr) (me : ME) : Prop := ∃ (c' : Addr) (params : Arguments) (body : Expr) (scope : Scope), H f = some (LamO f c' (X.env.qual ++ "<lambda>") params body scope (cloFrom X.env.cells scope.names [])) ∧ H c' = some (LamX.CodeO c' (X.env.qual ++ "<lambda>")) ∧ LamW X k params body scope me
theorem IsLam.mono {k : Nat} {H H' : Hp} {r r' : List Addr} {f : Addr} {me : ME} (h : IsLam X k H f me) (s : Stp r H r' H') : IsLam X k H' f me := by
  obtain ⟨c', params, body, scope, h1, h2, w⟩ := h
  exact ⟨c', params, body, scope, s.ext _ _ h1, s.cod _ _ h2, w⟩
theorem ROk.no_in [G : Ghost] {K : PySem.W.Frag} {r : List Addr} {H : Hp} {S : Store} (h : ROk K r H S) {p : Addr} (hp : H p = none) : p ∉ r := fun z => h.mem_ne hp z
/-- what is left of an end when slot j is forgotten -/
def forgetJ (j : Nat) : SRes → SRes
  | .nx e S => .nx (e.set j none) S
  | .ct e S => .nx (e.set j none) S
  | .rt d S => .rt d S
  | _ => .bad
open Classical in
/-- the body once for each lambda; its answer must not hang on the lambda's address -/
noncomputable def mLams (j : Nat) (mb : Addr → ME → MS) (M : MFT) : List ME → MS
  | [] => fun en S => .nx en S
  | me :: r => fun en S =>
    if ∀ f, forgetJ j (mb f (mAtom j f M me) (en.set j (some (.adr f))) S) = forgetJ j (mb 0 (mAtom j 0 M me) (en.set j (some (.adr 0))) S) then
      match forgetJ j (mb 0 (mAtom j 0 M me) (en.set j (some (.adr 0))) S) with
      | .nx e S' => mLams j mb M r e S'
      | .rt d S' => .rt d S'
      | _ => .bad
    else .bad
theorem ER.drop {K : PySem.W.Frag} {r : List Addr} {H : Hp} {e : En} {σ : L2.St} (h : ER K r H e σ) (j : Nat) : ER K r H (e.set j none) σ :=
  ⟨by rw [List.length_set]; exact h.len, fun i d q => by
    by_cases hj : j = i
    · subst hj
      rw [List.getElem?_set] at q
      simp only [if_true] at q
      split at q <;> cases q
    · rw [List.getElem?_set_ne hj] at q
      exact h.at_ i d q⟩
theorem DnS.weak {G G' : Ghost} {K : PySem.W.Frag} {r : List Addr} {H : Hp} {m : SRes} {D : Ends} {W : WX} (w : ∀ r' H' S', @ROk G' K r' H' S' → @ROk G K r' H' S') (h : @DnS G K r H m D W) : @DnS G' K r H m D W := by
  cases m with
  | nx e S => exact fun r' H' σ s o => h r' H' σ s (w _ _ _ o)
  | ct e S => exact fun r' H' σ s o => h r' H' σ s (w _ _ _ o)
  | bk e S => exact fun r' H' σ s o => h r' H' σ s (w _ _ _ o)
  | rt d S => exact fun r' H' v s o => h r' H' v s (w _ _ _ o)
  | err C n e S => exact fun r' H' σ x s o => h r' H' σ x s (w _ _ _ o)
  | bad => exact h
end
end Q

namespace Q
open PySem PySem.Spec PyProof.Rows L2
/-! ### rules for lists of lambdas -/
section
variable {S : Store} {en : En} {N : En → Store → Prop} {R : D → Store → Prop} {B C : En → Store → Prop} {X : XKs}
theorem wpS_lams0 {j : Nat} {mb : Addr → ME → MS} {M : MFT} (h : N en S) : wpS (mLams j mb M [] en S) N R B C X := h
/-- `if refused(call) != rhs: return False`, once more -/
theorem wpS_lams1 {n j : Nat} {m : Addr → Thk → MS} {me rhs : ME} {mes : List ME} (hj : ∀ f : Addr, (en.set j (some (.adr f))).set j none = en) (hl : j < en.length) (hme : ∀ f : Addr, me (en.set j (some (.adr f))) = me en)
    (hA : wpE (me en S) (fun d U => ∃ d0 U0, Ans n m S (.ok d U) d0 U0 ∧ ∃ e0 U1 V, (∀ f : Addr, rhs (en.set j (some (.adr f))) U0 = .ok e0 U1) ∧ gNe d0 e0 U1 = some (.bl false, V) ∧ wpS (mLams j (fun _ at_ => mIfS (mB (m2 gNe at_ rhs)) (mRet (mC (.bl false))) mSkip) (mDefT n m) mes en V) N R B C X)
      (fun c q U => ∃ d0 U0, Ans n m S (.err c q U) d0 U0 ∧ ∃ e0 U1 V, (∀ f : Addr, rhs (en.set j (some (.adr f))) U0 = .ok e0 U1) ∧ gNe d0 e0 U1 = some (.bl false, V) ∧ wpS (mLams j (fun _ at_ => mIfS (mB (m2 gNe at_ rhs)) (mRet (mC (.bl false))) mSkip) (mDefT n m) mes en V) N R B C X)) :
    wpS (mLams j (fun _ at_ => mIfS (mB (m2 gNe at_ rhs)) (mRet (mC (.bl false))) mSkip) (mDefT n m) (me :: mes) en S) N R B C X := by
  have key : ∃ d0 U0, (∀ (f : Addr) (T : Thk), T S = me en S → mDefT n m f T S = .ok d0 U0) ∧ ∃ e0 U1 V, (∀ f : Addr, rhs (en.set j (some (.adr f))) U0 = .ok e0 U1) ∧ gNe d0 e0 U1 = some (.bl false, V) ∧ wpS (mLams j (fun _ at_ => mIfS (mB (m2 gNe at_ rhs)) (mRet (mC (.bl false))) mSkip) (mDefT n m) mes en V) N R B C X := by
    cases e : me en S with
    | ok d U => rw [e] at hA; obtain ⟨d0, U0, h1, h2⟩ := hA; exact ⟨d0, U0, fun f T hT => h1.eq f hT, h2⟩
    | err c k U => rw [e] at hA; obtain ⟨d0, U0, h1, h2⟩ := hA; exact ⟨d0, U0, fun f T hT => h1.eq f hT, h2⟩
    | bad => rw [e] at hA; exact hA.elim
  obtain ⟨d0, U0, h1, e0, U1, V, h2, h3, h4⟩ := key
  have at_ : ∀ f : Addr, mAtom j f (mDefT n m) me (en.set j (some (.adr f))) S = .ok d0 U0 := fun f => by
    unfold mAtom
    rw [List.getElem?_set_self hl]
    dsimp only
    have a : ∀ g : Addr, mDefT n m g (fun U => me (en.set j (some (.adr f))) U) S = .ok d0 U0 := fun g => h1 g _ (by rw [hme f])
    rw [if_pos ⟨rfl, fun f' => (a f').trans (a 0).symm⟩]
    exact a 0
  have body : ∀ f : Addr, mIfS (mB (m2 gNe (mAtom j f (mDefT n m) me) rhs)) (mRet (mC (.bl false))) mSkip (en.set j (some (.adr f))) S = .nx (en.set j (some (.adr f))) V := fun f => by
    have t : mB (m2 gNe (mAtom j f (mDefT n m) me) rhs) (en.set j (some (.adr f))) S = .ok false V := by
      show ((mAtom j f (mDefT n m) me (en.set j (some (.adr f))) S).bind fun d S1 => (rhs (en.set j (some (.adr f))) S1).bind fun e S2 => ofOpt (gNe d e S2)).bind (fun d S1 => asB (boolD d) S1) = _
      rw [at_ f]
      show ((rhs (en.set j (some (.adr f))) U0).bind fun e S2 => ofOpt (gNe d0 e S2)).bind (fun d S1 => asB (boolD d) S1) = _
      rw [h2 f]
      show (ofOpt (gNe d0 e0 U1)).bind (fun d S1 => asB (boolD d) S1) = _
      rw [h3]
      rfl
    unfold mIfS
    rw [t]
    rfl
  unfold mLams
  rw [if_pos fun f => by rw [body f, body 0]; show SRes.nx _ V = SRes.nx _ V; rw [hj f, hj 0]]
  rw [body 0]
  show wpS (mLams j _ _ mes ((en.set j (some (.adr 0))).set j none) V) N R B C X
  rw [hj 0]
  exact h4
end
end Q

namespace Q
open PySem PySem.Spec PyProof.Rows L2
/-! ### lambdas whose parameters all have defaults (whole numbers) -/
def TupO (T : Addr) (us : List Value) : HO := .ext fun h => h.get? T = some (PySem.W.kdv_tup us)
/-- the object at f is this lambda, its defaults at dV -/
def LamD (f c' : Addr) (q : Str) (params : Arguments) (body : Expr) (scope : Scope) (cl : List (Str × Addr)) (dV : Value) : HO := .ext fun h => ∃ pm ctv doc : Value, h.get? f = some (PySem.W.kdv_obj "<lambda>" q params (.expr body) scope cl dV doc pm c' ctv)
def DefA (H : Hp) (us : List Value) (dV : Value) : Prop := (us = [] ∧ dV = .none) ∨ us ≠ [] ∧ ∃ T, dV = .ref T ∧ H T = some (TupO T us)
theorem DefA.ext {H H' : Hp} {us : List Value} {dV : Value} (d : DefA H us dV) (k : ∀ T, H T = some (TupO T us) → H' T = some (TupO T us)) : DefA H' us dV := d.imp id fun ⟨n, T, e, h⟩ => ⟨n, T, e, k T h⟩
/-- displays of whole numbers -/
inductive CInts : List Expr → List Int → Prop
  | nil : CInts [] []
  | cons {z : Int} {j : Nat} {p : Pos} {es : List Expr} {zs : List Int} (r : CInts es zs) : CInts (.Constant (.int z) j p :: es) (z :: zs)
/-- the names of a lambda: captured ones, globals, and parameters that bear no name of the frame -/
structure LamDS (sc scope : Scope) (N as : List Str) : Prop where
  kind : scope.kind = .function
  co : scope.isCoroutine = false
  gen : scope.isGenerator = false
  own : ∀ y ∈ scope.names, y.2 ≠ .cell ∧ (y.2 = .local → y.1 ∉ N)
  free : ∀ y ∈ scope.names, y.2 = .free → sc.names.lookup y.1 = some .cell ∨ sc.names.lookup y.1 = some .free
  par : ∀ a ∈ as, scope.names.lookup a = some .local
def lamDB (sc scope : Scope) (N as : List Str) : Bool :=
  decide (scope.kind = .function) && !scope.isCoroutine && !scope.isGenerator && (scope.names.all fun y => !decide (y.2 = .cell) && (!decide (y.2 = .local) || !decide (y.1 ∈ N)) && (!decide (y.2 = .free) || decide (sc.names.lookup y.1 = some .cell) || decide (sc.names.lookup y.1 = some .free))) && as.all fun a => decide (scope.names.lookup a = some .local)
theorem lamD_by {sc scope : Scope} {N as : List Str} (h : lamDB sc scope N as = true) : LamDS sc scope N as := by
  unfold lamDB at h
  simp only [Bool.and_eq_true, Bool.or_eq_true, Bool.not_eq_true', decide_eq_true_eq, decide_eq_false_iff_not, List.all_eq_true] at h
  obtain ⟨⟨⟨⟨a, b⟩, c⟩, d⟩, e⟩ := h
  exact ⟨a, b, c, fun y hy => ⟨(d y hy).1.1, fun z => (d y hy).1.2.resolve_left fun n => n z⟩, fun y hy z => by
    rcases (d y hy).2 with (n | n) | n
    · exact (n z).elim
    · exact .inl n
    · exact .inr n, e⟩
section
variable {X : Cx} {pins : List (Addr × Obj)} {σ : L2.St} {H HZ : Hp} {s s1 : Shared}
theorem LamDS.has {scope : Scope} {as : List Str} (L : LamDS X.env.scope scope X.N as) (ok : X.Ok) : ∀ y ∈ scope.names, y.2 = .free → ∃ c, X.env.cells.lookup y.1 = some c := fun y hy e => ok.has y.1 (L.free y hy e)
/-- the body begins: whatever stands among the lambda's own names -/
theorem lamD_start {A : Around} {outer : List Env} {E : XK} {scope : Scope} {f c' : Addr} {as : List Str} {h₁ : Heap} {tk : Nat} {m : Str → Option Value} (I : Inv X pins σ H s) (L : LamDS X.env.scope scope X.N as) (e0 : Env0 X.prog X.w X.K X.mg X.base A outer s1 HZ) (hd : A.handled = none)
    (un : Un (frs X.stack) [] H HZ s.heap s1.heap) (hns : h₁.Ns s1.heap.objs.size m) (kp : ∀ b o, s1.heap.get? b = some o → h₁.get? b = some o) :
    Inv (LamX.lamCx X A outer s1 HZ E scope f c') [] σ HZ { s1 with heap := h₁, toks := tk } := by
  have own := L.own
  have fre := L.free
  have has := L.has I.ok
  have upC : ∀ y c, (cloFrom X.env.cells scope.names []).lookup y = some c → X.env.cells.lookup y = some c := by
    intro y c e
    rcases cloFrom_mem (PySem.mem_of_lookup e) with z | ⟨z1, z2⟩
    · exact absurd z (List.not_mem_nil)
    · obtain ⟨d, hd⟩ := has _ z1 rfl
      have hd : X.env.cells.lookup y = some d := hd
      rw [hd] at z2
      rw [hd, show c = d from z2]
  have dnC : ∀ y, scope.names.lookup y = some .free → ∃ c, (cloFrom X.env.cells scope.names []).lookup y = some c := by
    intro y e
    exact mem_lookup (cloFrom_has (PySem.mem_of_lookup e))
  have isC : ∀ (c : Addr) (v : Option Value), H c = none → s.heap.IsCell c v → h₁.IsCell c v := by
    rintro c v n ⟨o, ho, hv⟩
    obtain ⟨w, q⟩ := un.any ho n (List.not_mem_nil)
    exact ⟨_, kp _ _ q, hv⟩
  refine { ok := ?_, os := rfl, bare := e0.bare, base := Un.kept kp, loc := ?_, cell := ?_, free := e0.hok.fresh (Nat.le_refl _), freeC := ?_, pin := fun p hp => (List.not_mem_nil (show p ∈ ([] : List (Addr × Obj)) from hp)).elim, hok := e0.hok.kept kp, len := I.len }
  · refine { mod := e0.mod, kind := L.kind, glob := rfl, blt := rfl, above := Nat.le_refl _, inj := fun y z c e1 e2 => I.ok.inj y z c (upC y c e1) (upC z c e2), has := ?_, cab := fun y c z _ => Bool.noConfusion (show false = true from z), hd := fun _ => hd, frames := Around.frames_deeper e0.frames, stk := .inr ⟨rfl, rfl⟩, exf := fun b z => (List.not_mem_nil (show b ∈ ([] : List Addr) from z)).elim, bs := e0.bs, bsz := e0.bsz, noex := fun b _ _ => List.not_mem_nil, exfs := fun b z => (List.not_mem_nil (show b ∈ ([] : List Addr) from z)).elim, funs := e0.funs, frf := e0.frf }
    intro y hy
    rcases hy with hy | hy
    · exact ((own (y, .cell) (PySem.mem_of_lookup hy)).1 rfl).elim
    · exact dnC y hy
  · refine ⟨m, hns, fun i y v e1 e2 e3 => ?_⟩
    rcases e3 with k | k | k
    · exact ((own (y, .local) (PySem.mem_of_lookup k)).2 rfl (List.mem_of_getElem? e1)).elim
    · exact ((own (y, .cell) (PySem.mem_of_lookup k)).1 rfl).elim
    · have hf := fre (y, .free) (PySem.mem_of_lookup k) rfl
      obtain ⟨m0, _, hl⟩ := I.loc
      obtain ⟨u, ru, q⟩ := hl i y v e1 e2 (.inr hf)
      obtain ⟨c, hc⟩ := dnC y k
      refine ⟨u, ru, .inr ⟨.inr k, c, hc, ?_⟩⟩
      have hc0 := upC y c hc
      rcases q with ⟨q, _⟩ | ⟨_, c2, q1, q2⟩
      · have q : X.env.scope.names.lookup y = some .local := q
        rcases hf with z | z
        · rw [show X.env.scope.names.lookup y = _ from z] at q; cases q
        · rw [show X.env.scope.names.lookup y = _ from z] at q; cases q
      · rw [hc0] at q1
        cases q1
        exact isC c _ (I.freeC y c hc0) q2
  · intro y c e
    obtain ⟨v, z⟩ := I.cell y c (upC y c e)
    exact ⟨v, isC c v (I.freeC y c (upC y c e)) z⟩
  · intro y c e
    obtain ⟨v, o, ho, _⟩ := I.cell y c (upC y c e)
    exact un.free c o ho (I.freeC y c (upC y c e)) (List.not_mem_nil)
/-- laid behind all that is there -/
theorem inv_lamD {c' : Addr} {q : Str} {params : Arguments} {body : Expr} {scope : Scope} {cl : List (Str × Addr)} {pm ctv doc dV : Value} {t : Nat} (I : Inv X pins σ H s) : Inv X pins σ (upd H s.heap.objs.size (LamD s.heap.objs.size c' q params body scope cl dV)) { s with heap := s.heap.push (PySem.W.kdv_obj "<lambda>" q params (.expr body) scope cl dV doc pm c' ctv), toks := t } := by
  have e : (s.heap.push (PySem.W.kdv_obj "<lambda>" q params (.expr body) scope cl dV doc pm c' ctv)).get? s.heap.objs.size = some (PySem.W.kdv_obj "<lambda>" q params (.expr body) scope cl dV doc pm c' ctv) := Heap.get?_push_size _ rfl
  exact I.laid (fun b u z => Heap.get?_push_of_some _ z) (Nat.le_refl _) ⟨⟨pm, ctv, doc, e⟩, ⟨_, e⟩, fun h1 h2 ⟨p, t, d, z⟩ st => ⟨p, t, d, st _ z⟩⟩
theorem inv_tupO {us : List Value} {t : Nat} (I : Inv X pins σ H s) : Inv X pins σ (upd H s.heap.objs.size (TupO s.heap.objs.size us)) { s with heap := s.heap.push (PySem.W.kdv_tup us), toks := t } := by
  have e : (s.heap.push (PySem.W.kdv_tup us)).get? s.heap.objs.size = some (PySem.W.kdv_tup us) := Heap.get?_push_size _ rfl
  exact I.laid (fun b u z => Heap.get?_push_of_some _ z) (Nat.le_refl _) ⟨e, ⟨_, e⟩, fun h1 h2 z st => st _ z⟩
theorem evalAll_ints {es : List Expr} {zs : List Int} (c : CInts es zs) : ∀ {s : Shared} {Q : List Value → Shared → Prop}, Inv X pins σ H s → (∀ us s', us.length = zs.length → Inv X pins σ H s' → Q us s') → wpAny (model X.prog X.w) X.A (evalAll (evalEach es X.env)) Q X.xe s := by
  induction c with
  | nil => exact fun I h => PySem.W.kdv_all0 (h [] _ rfl I)
  | @cons z j p es zs r ih =>
    intro s Q I h
    refine PySem.W.kdv_all1 (wpAny_mono ((pe_int (i := z) (j := j) (pos := p)).run pins s σ H (fun v H1 => H1 = H) I rfl) (fun u s2 ⟨v, H1, I1, r1, q1⟩ => ?_) fun _ _ h => h)
    subst q1
    exact ih I1 fun us s' hl I' => h (u :: us) s' (congrArg Nat.succ hl) I'
/-- what stands behind the defaults: the code object, then the function -/
theorem lam_tailD {T : List (Addr × Str)} {c P : Addr} {params : Arguments} {body : Expr} {scope : Scope} {pos : Pos} {n : Nat} {dV : Value} {E : Value → Shared → Prop} {Q : Value → Shared → Prop} (I : Inv X pins σ H s) (TB : LamX.TabB X.base X.mg c P) (hcode : X.env.code = .ref c)
    (hm : (P, X.env.qual ++ "<lambda>") ∈ T) (hu : ∀ p ∈ T, p.1 = P → p.2 = X.env.qual ++ "<lambda>") (hT : LamX.Tabs T H) (hfree : ∀ y ∈ scope.names, y.2 = .free → ∃ c, X.env.cells.lookup y.1 = some c)
    (h : ∀ (f c' : Addr) (H1 : Hp) (s' : Shared), Inv X pins σ H1 s' → LamX.ExtN H H1 → LamX.Tabs T H1 → H1 f = some (LamD f c' (X.env.qual ++ "<lambda>") params body scope (cloFrom X.env.cells scope.names []) dV) → H1 c' = some (LamX.CodeO c' (X.env.qual ++ "<lambda>")) → Q (.ref f) s') :
    wpAny (model X.prog X.w) X.A (makeTail "<lambda>" (X.env.qual ++ "<lambda>") params (.expr body) scope X.env dV .none none pos n) Q E s := by
  obtain ⟨ps, hP, ht, ha⟩ := hT _ hm
  have hP' := I.hok P _ hP
  have bP := TB.bm.keeps I.bk
  have last : ∀ {h' : Heap} {tk : Nat} {pm ctv doc : Value} {c' : Addr} {H0 : Hp}, Inv X pins σ H0 { s with heap := h', toks := tk } → LamX.ExtN H H0 → LamX.Tabs T H0 → H0 c' = some (LamX.CodeO c' (X.env.qual ++ "<lambda>")) →
      Q (.ref h'.objs.size) { s with heap := h'.push (PySem.W.kdv_obj "<lambda>" (X.env.qual ++ "<lambda>") params (.expr body) scope (cloFrom X.env.cells scope.names []) dV doc pm c' ctv), toks := tk } := fun {h' tk pm ctv doc c' H0} I0 e0 t0 hc => by
    have nF : H0 h'.objs.size = none := I0.hok.fresh (Nat.le_refl _)
    have up : ∀ b o, H0 b = some o → upd H0 h'.objs.size (LamD h'.objs.size c' (X.env.qual ++ "<lambda>") params body scope (cloFrom X.env.cells scope.names []) dV) b = some o := fun b o e => by
      rw [upd_ne (fun z => by rw [z, nF] at e; cases e)]
      exact e
    exact h _ c' _ _ (inv_lamD (doc := doc) (pm := pm) (ctv := ctv) (t := tk) I0) (fun b o e n => up _ _ (e0 _ _ e n)) (t0.ext up) upd_same (up _ _ hc)
  cases hc : codeAmong pos ps.toList with
  | some cv =>
    obtain ⟨c', rfl, hco⟩ := ha pos cv hc
    exact PySem.W.kdv_makeTailHit (mg := X.mg) (c := c) (P := P) (ps := ps) (closure_ok hfree) I.ok.glob (I.mod.glob.keeps I.bk) hcode (TB.code.keeps I.bk) hP' ht hc bP fun ctv doc h' tk hx _ => last (I.kept hx) (LamX.ExtN.refl H) hT hco
  | none =>
    refine PySem.W.kdv_makeTail (mg := X.mg) (c := c) (P := P) (ps := ps) (closure_ok hfree) I.ok.glob (I.mod.glob.keeps I.bk) hcode (TB.code.keeps I.bk) hP' ht hc TB.gP bP fun c' ctv doc h' tk hx hge _ hrec htb => ?_
    obtain ⟨_, oc, vs, t, e2, hoc, hd, hv⟩ := hrec
    cases e2
    obtain ⟨eN, t1⟩ := tabs_more (l := pos.line) (k := pos.col) hT hP ht ha hu (I.hok.fresh hge)
    exact last (LamX.inv_table (t' := tk) I hP (fun b o hb e => hx b o hb e) htb hge ⟨oc, vs, t, hoc, hd, hv⟩) eN t1 upd_same
theorem tupO_ne {T : Addr} {us : List Value} (ps : Array Value) : TupO T us ≠ .tbl ps := fun z => by unfold TupO at z; cases z
theorem lam_makeD {T : List (Addr × Str)} {c P : Addr} {params : Arguments} {body : Expr} {scope : Scope} {zs : List Int} {pos : Pos} {Q : Value → Shared → Prop} (I : Inv X pins σ H s) (TB : LamX.TabB X.base X.mg c P) (hcode : X.env.code = .ref c)
    (hm : (P, X.env.qual ++ "<lambda>") ∈ T) (hu : ∀ p ∈ T, p.1 = P → p.2 = X.env.qual ++ "<lambda>") (hT : LamX.Tabs T H) (hdef : CInts params.defaults zs) (hk : params.kw_defaults = []) (hfree : ∀ y ∈ scope.names, y.2 = .free → ∃ c, X.env.cells.lookup y.1 = some c)
    (h : ∀ (f c' : Addr) (us : List Value) (dV : Value) (H1 : Hp) (s' : Shared), us.length = zs.length → Inv X pins σ H1 s' → LamX.ExtN H H1 → LamX.Tabs T H1 → H1 f = some (LamD f c' (X.env.qual ++ "<lambda>") params body scope (cloFrom X.env.cells scope.names []) dV) → DefA H1 us dV → H1 c' = some (LamX.CodeO c' (X.env.qual ++ "<lambda>")) → Q (.ref f) s') :
    wpAny (model X.prog X.w) X.A (eval (.Lambda params body scope pos) X.env) Q X.xe s := by
  cases zs with
  | nil =>
    have hd0 : params.defaults = [] := by
      generalize params.defaults = d at hdef
      cases hdef
      rfl
    refine PySem.W.kla_eval (by rw [defaultsOf_eq, hd0, hk]; rfl) ?_
    rw [makeFunction_eq]
    simp only [List.zip_nil_right, List.filterMap_nil, List.isEmpty_nil, if_true, pure_bind]
    exact lam_tailD I TB hcode hm hu hT hfree fun f c' H1 s' I1 e1 t1 l1 c1 => h f c' [] .none H1 s' rfl I1 e1 t1 l1 (.inl ⟨rfl, rfl⟩) c1
  | cons z zs =>
    have hd0 : params.defaults.isEmpty = false := by
      generalize params.defaults = d at hdef
      cases hdef
      rfl
    refine PySem.W.kdv_lam hd0 hk (evalAll_ints hdef I fun us s1 hl I1 => ?_)
    have hne : us.isEmpty = false := by
      cases us with
      | nil => cases hl
      | cons a b => rfl
    rw [makeFunction_eq]
    simp only [List.zip_nil_right, List.filterMap_nil, List.isEmpty_nil, if_true, pure_bind, hne, Bool.false_eq_true, if_false]
    refine wpAny_bind (wpAny_newTextTuple ?_)
    have nT : H s1.heap.objs.size = none := I1.hok.fresh (Nat.le_refl _)
    have up : ∀ b o, H b = some o → upd H s1.heap.objs.size (TupO s1.heap.objs.size us) b = some o := fun b o e => by
      rw [upd_ne (fun z => by rw [z, nT] at e; cases e)]
      exact e
    refine lam_tailD (inv_tupO (us := us) (t := s1.toks) I1) TB hcode hm hu (hT.ext up) hfree fun f c' H1 s' I2 e1 t1 l1 c1 => ?_
    exact h f c' us (.ref s1.heap.objs.size) H1 s' hl I2 (fun b o e n => e1 _ _ (up _ _ e) n) t1 l1 (.inr ⟨(fun z => by rw [z] at hne; cases hne), _, rfl, e1 _ _ upd_same fun ps => tupO_ne ps⟩) c1
end
end Q

namespace Q
open PySem PySem.Spec PyProof.Rows L2
/-! ### `for call in (lambda: .., lambda a=0: .., ..): body` -/
/-- a lambda's own facts -/
structure LamWD (X : Cx) (k : Nat) (params : Arguments) (body : Expr) (scope : Scope) (zs : List Int) (as : List Str) (me : ME) : Prop where
  L : LamDS X.env.scope scope X.N as
  hdef : CInts params.defaults zs
  hk : params.kw_defaults = []
  hbind : ∀ (q : Str) (cl : List (Str × Addr)) (pm cv ctv doc dV : Value) (us : List Value) (s : Shared), us.length = zs.length → ((us = [] ∧ dV = .none) ∨ us ≠ [] ∧ ∃ T, dV = .ref T ∧ s.heap.get? T = some (PySem.W.kdv_tup us)) →
      BindsTo s (PySem.W.kdv_fn "<lambda>" q params (.expr body) scope cl dV doc pm cv ctv) ⟨[], []⟩ (as.zip us)
  hbody : ∀ (A : Around) (outer : List Env) (s : Shared) (H : Hp) (E : XK) (f c' : Addr), Gd (LamX.lamCx X A outer s H E scope f c') k → PassesOwn (model X.prog X.w) (LamX.lamCx X A outer s H E scope f c').A (LamX.lamCx X A outer s H E scope f c').env (LamX.lamCx X A outer s H E scope f c').xe →
      ∀ G' : Ghost, @SndE G' (LamX.lamCx X A outer s H E scope f c') body me
theorem binds0 {fd : Value → FuncData} {us : List Value} {dV : Value} {s : Shared} (hl : us.length = ([] : List Int).length) (hd : (us = [] ∧ dV = .none) ∨ us ≠ [] ∧ ∃ T, dV = .ref T ∧ s.heap.get? T = some (PySem.W.kdv_tup us)) (h : bindArgs (fd .none) ⟨[], []⟩ = pure []) : BindsTo s (fd dV) ⟨[], []⟩ (([] : List Str).zip us) := by
  rcases hd with ⟨rfl, rfl⟩ | ⟨n, _⟩
  · exact BindsTo.of_eq h
  · exact (n (List.eq_nil_of_length_eq_zero hl)).elim
/-- the object at f is a lambda of this frame that reads as me -/
def IsLamD (X : Cx) (k : Nat) (H : Hp) (f : Addr) (me : ME) : Prop := ∃ (c' : Addr) (params : Arguments) (body : Expr) (scope : Scope) (zs : List Int) (as : List Str) (us : List Value) (dV : Value), us.length = zs.length ∧ H f = some (LamD f c' (X.env.qual ++ "<lambda>") params body scope (cloFrom X.env.cells scope.names []) dV) ∧ DefA H us dV ∧ H c' = some (LamX.CodeO c' (X.env.qual ++ "<lambda>")) ∧ LamWD X k params body scope zs as me
theorem IsLamD.mono {X : Cx} {k : Nat} {H H' : Hp} {r r' : List Addr} {f : Addr} {me : ME} (h : IsLamD X k H f me) (s : Stp r H r' H') : IsLamD X k H' f me := by
  obtain ⟨c', params, body, scope, zs, as, us, dV, hl, h1, h2, h3, w⟩ := h
  exact ⟨c', params, body, scope, zs, as, us, dV, hl, s.ext _ _ h1, h2.ext fun T z => s.ext _ _ z, s.cod _ _ h3, w⟩
section
variable {X : Cx}
/-- such a lambda is called in the def that got it -/
theorem act_lamD {G : Ghost} {pins : List (Addr × Obj)} {σ : L2.St} {H : Hp} {s : Shared} {r : List Addr} {en : En} {Ng : List Str} {qg : Str} {sg : Scope} {g f : Addr} {cdg : Value} {k : Nat} {a : Str} {me : ME} {Eg : XK}
    (I : Inv X pins σ H s) (il : IsLamD X k H f me) (er : ER X.K r H en σ) (hr : Room (k + 1) (X.A.deeper (envOfC qg sg s.heap.objs.size g cdg))) (hgd : X.A.guards = some [])
    (hN : Ng[0]? = some a) (hv : Vis sg a) (hd : (a == ("__debug__" : Str)) = false) (hcd : (a == ("__classdict__" : Str)) = false) (pn : List (Addr × Obj)) (xe : Value → Shared → Prop) (p1 p2 : Pos) :
    @SndE (G.behind r H) ((cxM X.prog X.w X.K X.mg X.base Ng qg sg g cdg X.A X.stack s H Eg).tr pn xe) (.Call (.Name a p1) [] [] p2) (mThk f fun U => me en U) := by
  refine @SndE.mk (G.behind r H) _ _ _ ?_
  intro W' tk' en' σZ rZ HZ SZ Q erZ roZ dn pinsZ sZ IZ
  have st : Stp r H rZ HZ := (@ROk.gh (G.behind r H) _ _ _ _ roZ).2
  obtain ⟨h0, dn⟩ : en'[0]? = some (some (D.adr f)) ∧ @Dn (G.behind r H) X.K rZ HZ D V (VR X.K) (me en SZ) Q (WE W' σZ) := by
    have dn : @Dn (G.behind r H) X.K rZ HZ D V (VR X.K) (mThk f (fun U => me en U) en' SZ) Q (WE W' σZ) := dn
    unfold mThk at dn
    cases h0 : en'[0]? with
    | none => rw [h0] at dn; exact dn.elim
    | some o =>
      rw [h0] at dn
      cases o with
      | none => exact dn.elim
      | some d =>
        cases d with
        | adr g' =>
          by_cases hg : g' = f
          · subst hg
            exact ⟨rfl, by simpa using dn⟩
          · have dn : @Dn (G.behind r H) X.K rZ HZ D V (VR X.K) (if g' = f then me en SZ else .bad) Q (WE W' σZ) := dn
            rw [if_neg hg] at dn
            exact dn.elim
        | _ => exact dn.elim
  obtain ⟨v0, hs, hv0⟩ := erZ.at_ 0 _ h0
  obtain rfl : v0 = .ref f := hv0
  refine wpAny_Call_Name_kw (thn ((pe_var (pos := p1) (i := 0) hN hv hd hcd).run pinsZ sZ σZ HZ (fun v H1 => v = .ref f ∧ H1 = HZ) IZ ⟨.ref f, hs, rfl, rfl⟩) fun u s1 ⟨v, H1, I1, r1, q1⟩ => ?_)
  obtain ⟨ev, eH⟩ := q1
  subst ev
  rw [eH] at I1
  obtain rfl : u = Value.ref f := r1
  obtain ⟨c', params, body, scope, zs, as, us, dV, hus, hlo, hdf, hco, w⟩ := il.mono st
  obtain ⟨⟨pm, ctv, doc, of1⟩, _, _⟩ := I1.hok f _ hlo
  refine PySem.W.callWith_F0 ⟨_, _, _, _, of1⟩ ?_
  obtain ⟨⟨oc, vs, t, hoc, hdc, hvc⟩, _, _⟩ := I1.hok c' _ hco
  have rc : codeAny (model X.prog X.w) (X.A.deeper (envOfC qg sg s.heap.objs.size g cdg)) (.call (.ref f) ⟨[], []⟩) (CR (L2.CX X.prog X.w) (envOfC qg sg s.heap.objs.size g cdg :: X.stack) X.prog X.w HZ s1 Q (WE W' σZ)) s1 := by
    refine PySem.W.kla_callFunE hr.depth of1 rfl w.L.co w.L.gen rfl ⟨c', oc, vs, t, rfl, hoc, hdc, hvc⟩ ?_
    refine w.hbind (X.env.qual ++ "<lambda>") (cloFrom X.env.cells scope.names []) pm (.ref c') ctv doc dV us s1 hus (hdf.imp id fun ⟨n, T, e, z⟩ => ⟨n, T, e, (I1.hok T _ z).1⟩) _ _ _ _ ?_
    refine wpAny_newFunctionEnv (fun y hy => (w.L.own y hy).1) (fun y hy => w.L.par _ (List.of_mem_zip (show (y.1, y.2) ∈ _ from hy)).1) (fun h₁ hns hsb => ⟨I1.nolimit.fresh _ hsb, ?_⟩) w.L.kind
    show codeAny _ _ (.expr body (LamX.lamEnv X scope s1.heap.objs.size f c')) _ _
    have kp : ∀ b o, s1.heap.get? b = some o → h₁.get? b = some o := fun b o e => by
      have := Heap.lt_size e
      exact hsb.extBut b o (Nat.ne_of_lt this) (Heap.get?_push_of_some _ e)
    have J : Inv (LamX.lamCx X (X.A.deeper (envOfC qg sg s.heap.objs.size g cdg)) (envOfC qg sg s.heap.objs.size g cdg :: X.stack) s1 HZ (WE W' σZ) scope f c') [] σ HZ { s1 with heap := h₁, toks := s1.toks + (as.zip us).length } :=
      lamD_start I w.L I1.env0 hr.hd I1.base hns kp
    have gd : Gd (LamX.lamCx X (X.A.deeper (envOfC qg sg s.heap.objs.size g cdg)) (envOfC qg sg s.heap.objs.size g cdg :: X.stack) s1 HZ (WE W' σZ) scope f c') k := ⟨rfl, hr.deeper _, hgd⟩
    have run := @SndE.run (G.behind r H) _ _ _ (w.hbody _ _ s1 HZ (WE W' σZ) f c' gd owns_lam (G.behind r H)) _ takes_lam en σ rZ HZ SZ Q (er.mono st) roZ dn [] _ J
    refine PySem.W.kla_codeExpr (wpAny_mono run (fun v s' hq => ?_) fun e s' hq => hq)
    obtain ⟨w', H', J', rv, q⟩ := hq
    exact ⟨w', H', J'.os, J'.bare, J'.base, J'.hok, rv, q⟩
  refine wpAny_call (codeAny_mono rc fun res s' hq => ?_)
  match res, hq with
  | .error e, hq => exact tk' e s' (XE.of_call I1 (fun _ _ _ h => h) hq)
  | .ok (.ret u), hq => exact I1.after hq
  | .ok .next, hq => exact hq.elim
  | .ok .brk, hq => exact hq.elim
  | .ok .cont, hq => exact hq.elim
theorem e_lamvarD {G : Ghost} {r0 : List Addr} {H0 : Hp} {f : Addr} {i : Nat} {x a y : Str} {g : Addr} {k : Nat} {pg : Arguments} {bg : List Stmt} {sg : Scope} {fdg : FuncData} {Ng : List Str}
    {p py pos : Pos} {m : Addr → Thk → MS} {me : ME} (gX : Gd X (k + 2)) (hg : Gl X x) (hm : X.mg x = some (.ref g)) (FD : FunD X.K x x pg bg sg [] [] g fdg) (hb : L2.Binds X.K fdg [a] []) (Sg : FnScope Ng [a] sg)
    (F : FnT X.prog X.w X.K X.mg X.base (k + 1) g x bg sg Ng a m) (il : IsLamD X k H0 f me)
    (hNi : X.N[i]? = some y) (hvy : Vis X.env.scope y) (hdy : (y == ("__debug__" : Str)) = false := by decide) (hcy : (y == ("__classdict__" : Str)) = false := by decide)
    (hNg : Ng[0]? = some a := by rfl) (hva : Vis sg a := by exact .inl (by kernel_rfl))
    (hdb : (x == ("__debug__" : Str)) = false := by decide) (hd : (a == ("__debug__" : Str)) = false := by decide) (hcd : (a == ("__classdict__" : Str)) = false := by decide) :
    @SndE (G.behind r0 H0) X (.Call (.Name x p) [.Name y py] [] pos) (mAtom i f (mDefT Ng.length m) me) := by
  obtain ⟨oc, od, dV, kV, doc, pm, an, cdv, ct, osl, rfl, lk, hcg, _, _⟩ := FD.ex
  refine @SndE.mk (G.behind r0 H0) _ _ _ ?_
  intro W tk en σ r H S Q er ro dn pins s I
  have st0 : Stp r0 H0 r H := (@ROk.gh (G.behind r0 H0) _ _ _ _ ro).2
  obtain ⟨hen, hf0, dn⟩ : en[i]? = some (some (D.adr f)) ∧ (∀ f', mDefT Ng.length m f' (fun U => me en U) S = mDefT Ng.length m 0 (fun U => me en U) S) ∧ @Dn (G.behind r0 H0) X.K r H D V (VR X.K) (mDefT Ng.length m 0 (fun U => me en U) S) Q (WE W σ) := by
    have dn : @Dn (G.behind r0 H0) X.K r H D V (VR X.K) (mAtom i f (mDefT Ng.length m) me en S) Q (WE W σ) := dn
    unfold mAtom at dn
    cases h0 : en[i]? with
    | none => rw [h0] at dn; exact dn.elim
    | some o =>
      rw [h0] at dn
      cases o with
      | none => exact dn.elim
      | some d =>
        cases d with
        | adr g' =>
          dsimp only at dn
          by_cases hg' : g' = f ∧ ∀ f', mDefT Ng.length m f' (fun U => me en U) S = mDefT Ng.length m 0 (fun U => me en U) S
          · rw [if_pos hg'] at dn
            exact ⟨by rw [hg'.1], hg'.2, dn⟩
          · rw [if_neg hg'] at dn
            exact dn.elim
        | _ => exact dn.elim
  obtain ⟨v0, hs, hv0⟩ := er.at_ i _ hen
  obtain rfl : v0 = .ref f := hv0
  refine wpAny_Call_Name_kw (ld_glob I hg hm ?_ hdb)
  refine PySem.W.callWith_K (h₀ := X.base) I.ok.mod.kin FD.kp ?_ (by rfl) (by rfl)
  show wpAny _ _ (spliced ((false, eval (.Name y py) X.env) :: backTo pos (starEach [] X.env))) _ _ s
  refine Calls.spliced_cons (thn ((pe_var (pos := py) (i := i) hNi hvy hdy hcy).run pins s σ H (fun v H1 => v = .ref f ∧ H1 = H) I ⟨.ref f, hs, rfl, rfl⟩) fun u s' ⟨v, H1, I1, r1, q1⟩ => ?_)
  obtain ⟨ev, eH⟩ := q1
  subst ev
  subst eH
  obtain rfl : u = Value.ref f := r1
  refine Calls.spliced_nil ⟨I1.kIn, ?_⟩
  have dn1 : @Dn ((G.behind r0 H0).behind r H1) X.K r H1 D V (VR X.K) (endM (m f (fun U => me en U) (startE Ng.length [.adr f]) S)) Q (WE W σ) :=
    Dn.weak (fun _ _ _ h => ROk.up h) (show @Dn (G.behind r0 H0) X.K r H1 D V (VR X.K) (mDefT Ng.length m f (fun U => me en U) S) Q (WE W σ) by rw [hf0 f]; exact dn)
  have rc : codeAny (model X.prog X.w) X.A (.call (.ref g) ⟨[.ref f], []⟩) (CR (L2.CX X.prog X.w) X.stack X.prog X.w H1 s' Q (WE W σ)) s' := by
    refine LamX.run_ofS (N := Ng) (ps := [a]) (us := [.ref f]) (vs := [.ref f]) (k := k + 1) lk hcg Sg gX.room I1.env0 (hb s' [.ref f] I1.kIn rfl) (.cons rfl .nil) rfl fun hr' => ?_
    refine ⟨fun D σ' H' => wSs (cxM X.prog X.w X.K X.mg X.base Ng x sg g cdv X.A X.stack s' H1 (WE W σ)) bg D σ' H', ⟨fun pins s σ H D I h => h pins s I⟩, ?_⟩
    have gd : Gd (cxM X.prog X.w X.K X.mg X.base Ng x sg g cdv X.A X.stack s' H1 (WE W σ)) (k + 1) := ⟨rfl, hr', gX.gd⟩
    have act := act_lamD (G := G.behind r0 H0) (k := k) (Eg := WE W σ) (Ng := Ng) (qg := x) (sg := sg) (cdg := cdv) (a := a) (me := me) (g := g) I1 (il.mono st0) er hr' gX.gd hNg hva hd hcd
    have body' := F.run ((G.behind r0 H0).behind r H1) cdv X.A X.stack s' H1 (WE W σ) f (fun U => me en U) gd owns_cxM act
    exact @SndSs.run ((G.behind r0 H0).behind r H1) _ _ _ body' _ takes_cxM (startE Ng.length [.adr f]) (L2.start Ng [.ref f]) r H1 S _ (ER.start Ng ⟨_, _, rfl, rfl, rfl⟩) (@ROk.down (G.behind r0 H0) _ _ _ _ ro) (@DnS.of_end ((G.behind r0 H0).behind r H1) _ _ _ _ _ _ dn1)
  refine wpAny_call (codeAny_mono rc fun res s2 hq => ?_)
  match res, hq with
  | .error e, hq => exact tk e s2 (XE.of_call I1 (fun _ _ _ h => h) hq)
  | .ok (.ret u), hq => exact I1.after hq
  | .ok .next, hq => exact hq.elim
  | .ok .brk, hq => exact hq.elim
  | .ok .cont, hq => exact hq.elim
end
section
variable {X : Cx}
theorem pe_lamD {k : Nat} {T : List (Addr × Str)} {c P : Addr} {params : Arguments} {body : Expr} {scope : Scope} {zs : List Int} {as : List Str} {me : ME} {pos : Pos} (TB : LamX.TabB X.base X.mg c P) (hcode : X.env.code = .ref c) (hm : (P, X.env.qual ++ "<lambda>") ∈ T) (hu : ∀ p ∈ T, p.1 = P → p.2 = X.env.qual ++ "<lambda>") (w : LamWD X k params body scope zs as me) :
    PE X (.Lambda params body scope pos) (fun _ H Q => LamX.Tabs T H ∧ ∀ (f : Addr) (H1 : Hp), LamX.ExtN H H1 → LamX.Tabs T H1 → IsLamD X k H1 f me → Q (.ref f) H1) :=
  ⟨fun pins s σ H Q I ⟨hT, h⟩ => lam_makeD I TB hcode hm hu hT w.hdef w.hk (w.L.has I.ok) fun f c' us dV H1 s' hl I1 e t hf hd hc => ⟨.ref f, H1, I1, rfl, h f H1 e t ⟨c', params, body, scope, zs, as, us, dV, hl, hf, hd, hc, w⟩⟩⟩
/-- a display of such lambdas -/
inductive LamsD (X : Cx) (k : Nat) : List Expr → List ME → Prop
  | nil : LamsD X k [] []
  | cons {params : Arguments} {body : Expr} {scope : Scope} {lp : Pos} {zs : List Int} {as : List Str} {me : ME} {es : List Expr} {mes : List ME} (w : LamWD X k params body scope zs as me)
      (st : starEach (.Lambda params body scope lp :: es) X.env = (false, eval (.Lambda params body scope lp) X.env) :: starEach es X.env) (r : LamsD X k es mes) : LamsD X k (.Lambda params body scope lp :: es) (me :: mes)
theorem pa_lamsD {k : Nat} {T : List (Addr × Str)} {c P : Addr} (TB : LamX.TabB X.base X.mg c P) (hcode : X.env.code = .ref c) (hm : (P, X.env.qual ++ "<lambda>") ∈ T) (hu : ∀ p ∈ T, p.1 = P → p.2 = X.env.qual ++ "<lambda>") {es : List Expr} {mes : List ME} (B : LamsD X k es mes) :
    PA X es (fun _ H Q => LamX.Tabs T H ∧ ∀ (fs : List Addr) (H1 : Hp), LamX.ExtN H H1 → LamX.Tabs T H1 → fs.length = mes.length → (∀ (n : Nat) (f : Addr) (me : ME), fs[n]? = some f → mes[n]? = some me → IsLamD X k H1 f me) → Q (fs.map V.ref) H1) := by
  induction B with
  | nil => exact ⟨fun pos pins s σ H Q I ⟨hT, h⟩ => wA_of pa_nil (h [] H (LamX.ExtN.refl H) hT rfl fun n f me z => by simp at z) pos pins s I⟩
  | @cons params body scope lp zs as me es mes w st r ih =>
    refine ⟨fun pos pins s σ H Q I ⟨hT, h⟩ => wA_of (pa_cons (pe_lamD TB hcode hm hu w) ih st) ?_ pos pins s I⟩
    refine ⟨hT, fun f H1 e1 t1 l1 => ⟨t1, fun fs H2 e2 t2 hl l2 => ?_⟩⟩
    refine h (f :: fs) H2 (fun b o e n => e2 _ _ (e1 _ _ e n) n) t2 (by rw [List.length_cons, hl, List.length_cons]) fun n g me' hn hm' => ?_
    cases n with
    | zero =>
      cases hn
      cases hm'
      exact l1.mono (Stp.extN (r := []) e2)
    | succ n => exact l2 n g me' hn hm'
theorem lams_loopD [Gh : Ghost] {k j : Nat} {x a y : Str} {g : Addr} {pg : Arguments} {bg body : List Stmt} {sg : Scope} {fdg : FuncData} {Ng : List Str} {p py pos pz pf : Pos} {m : Addr → Thk → MS} {mb : Addr → ME → MS} {mes : List ME} {it : Expr} {ti : TE}
    (gX : Gd X (k + 2)) (hg : Gl X x) (hm : X.mg x = some (.ref g)) (FD : FunD X.K x x pg bg sg [] [] g fdg) (hb : L2.Binds X.K fdg [a] []) (Sg : FnScope Ng [a] sg) (F : FnT X.prog X.w X.K X.mg X.base (k + 1) g x bg sg Ng a m)
    (hp : PassesOwn (model X.prog X.w) X.A X.env X.xe) (hc : X.calm = true) (hN : X.N.Nodup) (hNj : X.N[j]? = some y) (hvy : Vis X.env.scope y) (hly : Loc X.env.scope y)
    (hbody : ∀ (G : Ghost) (f : Addr) (at_ : ME), @SndE G X (.Call (.Name x p) [.Name y py] [] pos) at_ → @SndSs G X body (mb f at_))
    (hfy : X.fn y = true ∨ X.env.scope.names.lookup y = some .local) (hit : PE X it ti) (hfo : ∀ v, foldedSetIterable it X.env v = pure v)
    (hdy : (y == ("__debug__" : Str)) = false := by decide) (hcy : (y == ("__classdict__" : Str)) = false := by decide)
    (hNg : Ng[0]? = some a := by rfl) (hva : Vis sg a := by exact .inl (by kernel_rfl)) (hdb : (x == ("__debug__" : Str)) = false := by decide) (hd : (a == ("__debug__" : Str)) = false := by decide) (hcd : (a == ("__classdict__" : Str)) = false := by decide)
    {W : WX} (tk : Takes X W) {en : En} {σ : L2.St} {r : List Addr} {H : Hp} {S : Store} {D : Ends} (er : ER X.K r H en σ) (ro : ROk X.K r H S)
    (hti : ∀ Q : VK, (∀ (fs : List Addr) (L : Addr) (H' : Hp), Stp r H r H' → ROk X.K r H' S → H' L = some (.tup (fs.map V.ref)) → fs.length = mes.length → (∀ (n : Nat) (f : Addr) (me : ME), fs[n]? = some f → mes[n]? = some me → IsLamD X k H' f me) → Q (.ref L) H') → ti σ H Q)
    (dn : DnS X.K r H (mLams j mb (mDefT Ng.length m) mes en S) D W) : wS X (.For (.Name y pf) it body [] pz) D σ H := by
  refine wS_of (ps_for hp hc (pi_tup hit) (pg_name (i := j) hN hNj hly hfy) (pss_wSs X body) (hs := hfo)) ?_
  refine hti _ fun fs L H' s1 ro1 hL hlen hlm => ?_
  have sq : ∀ {H' : Hp}, H' L = some (.tup (fs.map V.ref)) → SqT X.K H' L (fs.map V.ref) := fun h => sqT_of h
  refine ⟨L, rfl, ⟨_, sq hL⟩, fun n q σ' H' => ∃ en' r' S', ER X.K r' H' en' σ' ∧ ROk X.K r' H' S' ∧ Stp r H r' H' ∧ H' L = some (.tup (fs.map V.ref)) ∧ (∀ (n : Nat) (f : Addr) (me : ME), fs[n]? = some f → mes[n]? = some me → IsLamD X k H' f me) ∧ n + q = fs.length ∧ DnS X.K r' H' (mLams j mb (mDefT Ng.length m) (mes.drop n) en' S') D W, ⟨fs.length, en, r, S, er.mono s1, ro1, s1, hL, hlm, by omega, DnS.mono s1 dn⟩, ?_⟩
  rintro n q σ2 H2 ⟨en2, r2, S2, er2, o2, s2, hL2, hlm2, hnq, d2⟩
  cases q with
  | zero =>
    have e : mes.drop n = [] := List.drop_eq_nil_of_le (by omega)
    rw [e] at d2
    exact .inl ⟨⟨_, sq hL2, by rw [List.length_map]; omega⟩, DnS.nx_here (e := en2) d2 o2 er2⟩
  | succ q =>
    have hn : n < fs.length := by omega
    have hf : fs[n]? = some fs[n] := List.getElem?_eq_getElem hn
    have hme : mes[n]? = some (mes[n]'(by omega)) := List.getElem?_eq_getElem _
    have il := hlm2 n _ _ hf hme
    rw [List.drop_eq_getElem_cons (by omega)] at d2
    generalize mes[n]'(by omega) = me at d2 il hme
    generalize fs[n] = f at hf il
    refine .inr ⟨⟨_, .ref f, sq hL2, by rw [List.getElem?_map, hf]; rfl⟩, fun σ' H' => ∃ en' r' S', ER X.K r' H' en' σ' ∧ ROk X.K r' H' S' ∧ Stp r H r' H' ∧ H' L = some (.tup (fs.map V.ref)) ∧ (∀ (n : Nat) (f : Addr) (me : ME), fs[n]? = some f → mes[n]? = some me → IsLamD X k H' f me) ∧ n + 1 + q = fs.length ∧ DnS X.K r' H' (mLams j mb (mDefT Ng.length m) (mes.drop (n + 1)) en' S') D W, fun σ' H' h => ⟨q, Nat.lt_succ_self q, h⟩, fun v H3 hv => ?_⟩
    obtain ⟨rfl, hv⟩ := hv
    have ev := hv _ (sq hL2)
    rw [List.getElem?_map, hf] at ev
    obtain rfl : V.ref f = v := Option.some.inj ev
    have at_ := e_lamvarD (G := Gh) (r0 := r2) (H0 := H3) (f := f) (i := j) (me := me) (p := p) (py := py) (pos := pos) gX hg hm FD hb Sg F il hNj hvy hdy hcy hNg hva hdb hd hcd
    show wSs X body _ (σ2.set j (some (.ref f))) H3
    refine @SndSs.run (Gh.behind r2 H3) _ _ _ (hbody (Gh.behind r2 H3) f _ at_) W tk (en2.set j (some (.adr f))) _ r2 H3 S2 _ (er2.set (d := .adr f) rfl) (ROk.down o2) (DnS.weak (fun _ _ _ h => ROk.up h) ?_)
    unfold mLams at d2
    by_cases hall : ∀ f', forgetJ j (mb f' (mAtom j f' (mDefT Ng.length m) me) (en2.set j (some (.adr f'))) S2) = forgetJ j (mb 0 (mAtom j 0 (mDefT Ng.length m) me) (en2.set j (some (.adr 0))) S2)
    · rw [if_pos hall, ← hall f] at d2
      have keep : ∀ {r' : List Addr} {H' : Hp}, Stp r2 H3 r' H' → H' L = some (.tup (fs.map V.ref)) ∧ ∀ (n : Nat) (f : Addr) (me : ME), fs[n]? = some f → mes[n]? = some me → IsLamD X k H' f me := fun {r' H'} s => ⟨s.tup _ _ hL2, fun n f me a b => (hlm2 n f me a b).mono s⟩
      cases qb : mb f (mAtom j f (mDefT Ng.length m) me) (en2.set j (some (.adr f))) S2 with
      | nx e S4 =>
        rw [qb] at d2
        exact fun r' H' σ' s o e' => ⟨e.set j none, r', S4, e'.drop j, o, s2.trans s, (keep s).1, (keep s).2, by omega, DnS.mono s d2⟩
      | ct e S4 =>
        rw [qb] at d2
        exact fun r' H' σ' s o e' => ⟨e.set j none, r', S4, e'.drop j, o, s2.trans s, (keep s).1, (keep s).2, by omega, DnS.mono s d2⟩
      | rt d S4 =>
        rw [qb] at d2
        exact d2
      | bk e S4 => rw [qb] at d2; exact d2.elim
      | err C x e S4 => rw [qb] at d2; exact d2.elim
      | bad => rw [qb] at d2; exact d2.elim
    · rw [if_neg hall] at d2
      exact d2.elim
open Classical in
/-- the statement; the loop's name is forgotten -/
noncomputable def mBlkT (tj : Nat) (P : Addr) (q : Str) (j : Nat) (mb : Addr → ME → MS) (M : MFT) (mes : List ME) : MS := fun en S =>
  if S[tj]? = some (.tab P q) then mLams j mb M mes en S else .bad
theorem s_blkT [Gh : Ghost] {k j tj : Nat} {c P : Addr} {x a y : Str} {g : Addr} {pg : Arguments} {bg body : List Stmt} {sg : Scope} {fdg : FuncData} {Ng : List Str} {p py pos pz pf tp : Pos} {cx : Nat} {m : Addr → Thk → MS} {mb : Addr → ME → MS} {es : List Expr} {mes : List ME}
    (gX : Gd X (k + 2)) (hg : Gl X x) (hm : X.mg x = some (.ref g)) (FD : FunD X.K x x pg bg sg [] [] g fdg) (hb : L2.Binds X.K fdg [a] []) (Sg : FnScope Ng [a] sg) (F : FnT X.prog X.w X.K X.mg X.base (k + 1) g x bg sg Ng a m)
    (TB : LamX.TabB X.base X.mg c P) (hcode : X.env.code = .ref c)
    (hp : PassesOwn (model X.prog X.w) X.A X.env X.xe) (hc : X.calm = true) (hN : X.N.Nodup) (hNj : X.N[j]? = some y) (hvy : Vis X.env.scope y) (hly : Loc X.env.scope y)
    (B : LamsD X k es mes) (hsz : mes.length ≤ sizeLine)
    (hbody : ∀ (G : Ghost) (f : Addr) (at_ : ME), @SndE G X (.Call (.Name x p) [.Name y py] [] pos) at_ → @SndSs G X body (mb f at_))
    (hfy : X.fn y = true ∨ X.env.scope.names.lookup y = some .local := by first | exact .inl rfl | exact .inr rfl | assumption)
    (hdy : (y == ("__debug__" : Str)) = false := by decide) (hcy : (y == ("__classdict__" : Str)) = false := by decide)
    (hNg : Ng[0]? = some a := by rfl) (hva : Vis sg a := by exact .inl (by kernel_rfl)) (hdb : (x == ("__debug__" : Str)) = false := by decide) (hd : (a == ("__debug__" : Str)) = false := by decide) (hcd : (a == ("__classdict__" : Str)) = false := by decide) :
    SndS X (.For (.Name y pf) (.Tuple es cx tp) body [] pz) (mBlkT tj P (X.env.qual ++ "<lambda>") j mb (mDefT Ng.length m) mes) := by
  refine ⟨?_⟩
  intro W tk en σ r H S D er ro dn pins0 s0 I0
  obtain ⟨hS, dn⟩ : S[tj]? = some (.tab P (X.env.qual ++ "<lambda>")) ∧ DnS X.K r H (mLams j mb (mDefT Ng.length m) mes en S) D W := by
    have dn : DnS X.K r H (mBlkT tj P (X.env.qual ++ "<lambda>") j mb (mDefT Ng.length m) mes en S) D W := dn
    unfold mBlkT at dn
    by_cases h : S[tj]? = some (.tab P (X.env.qual ++ "<lambda>"))
    · rw [if_pos h] at dn; exact ⟨h, dn⟩
    · rw [if_neg h] at dn; exact dn.elim
  revert pins0 s0 I0
  show wS X _ D σ H
  refine lams_loopD (k := k) (mes := mes) (mb := mb) (x := x) (p := p) (py := py) (pos := pos) gX hg hm FD hb Sg F hp hc hN hNj hvy hly hbody hfy (pe_tup (pa_lamsD TB hcode (tabsOf_of hS) (ro.tab_one hS) B)) (fun _ => rfl) hdy hcy hNg hva hdb hd hcd tk er ro (fun Q hQ => ?_) dn
  refine ⟨ro.tabs, fun fs H1 eN T1 hl hlm => ⟨by rw [List.length_map, hl]; exact hsz, fun L hL0 => ?_⟩⟩
  have ro1 : ROk X.K r H1 S := ro.extN eN T1
  have s1 : Stp r H r H1 := Stp.extN eN
  have he : ∀ b, b ≠ L → upd H1 L (.tup (fs.map V.ref)) b = H1 b := fun b n => upd_ne n
  have s2 : Stp r H1 r (upd H1 L (.tup (fs.map V.ref))) := stp_side (.inl hL0) he
  exact hQ fs L _ (s1.trans s2) (rok_side ro1 (ro1.no_in hL0) (.inl hL0) he) upd_same hl fun n f me a b => (hlm n f me a b).mono s2
end
end Q

namespace Q
open PySem PySem.Spec PyProof.Rows L2
/-! ### a dict is walked: locked meanwhile -/
section
variable {K : PySem.W.Frag} {r : List Addr} {H : Hp} {d0 : Addr} {od : Obj} {ws : List (List Key × V)}
variable [Gh : Ghost]
theorem KTR.key {H : Hp} : ∀ {kvs : List (List Int × D)} {vs : List (List Key × V)}, KTR K r H kvs vs → ∀ {i : Nat} {k : List Key} {v : V}, vs[i]? = some (k, v) → ∃ p, kvs[i]? = some p ∧ k = p.1.map Sum.inl
  | [], _, h, i, k, v, e => by obtain rfl := (show _ = [] from h); cases e
  | p :: ds, _, ⟨v, ws, h1, h3, h4⟩, i, k, w, e => by
    subst h1
    cases i with
    | zero => cases e; exact ⟨p, rfl, rfl⟩
    | succ i => exact KTR.key h4 e
theorem KTR.len {H : Hp} : ∀ {kvs : List (List Int × D)} {vs : List (List Key × V)}, KTR K r H kvs vs → kvs.length = vs.length
  | [], _, h => by obtain rfl := (show _ = [] from h); rfl
  | p :: ds, _, ⟨v, ws, h1, h3, h4⟩ => by subst h1; rw [List.length_cons, List.length_cons, KTR.len h4]
end
variable [Gh : Ghost]
section
variable {X : Cx} {tg e : Expr} {me : ME} {mt : MT} {g : Pat} {pos py : Pos}
end
/-! the rule for plain proofs -/
section
variable {en : En} {S : Store} {P : D → Store → Prop} {E : EK} {g : Pat} {mt : MT} {me : ME} {own : List Nat} {n i q : Nat} {kvs : List (List Int × D)}
end
end Q

namespace Q
open PySem PySem.Spec PyProof.Rows L2
variable [Gh : Ghost]
/-! ### dicts under a lock: walked and read; a statement or an expression that runs under the lock of one -/
section
variable {X : Cx} {tg e : Expr} {st : Stmt} {me : ME} {ms : MS}
end
/-! the rules for plain proofs -/
section
variable {en : En} {S : Store} {P : D → Store → Prop} {E : EK} {me : ME} {ms : MS} {q : Nat} {kvs : List (List Int × D)} {p : En → Store → Option Nat}
end
end Q

namespace L2
open PySem PySem.Spec PyProof.Rows
/-! ### the pairs and the values of a locked dict whose keys are tuples -/
section
variable {X : Cx} {pins : List (Addr × Obj)} {σ : St} {H : Hp} {s : Shared} {d : Addr} {o : Obj} {kvs : List (List Key × V)}
end
section
variable {P : Program} {w : World} {K : PySem.W.Frag} {tg : Expr} {d : Addr} {o : Obj} {es : Array DictEntry} {ep : Nat} {kvs : List (List Key × V)}
end
/-! for v in d.values(), for k, v in d.items(): d is locked -/
section
variable {X : Cx} {tg e : Expr} {td : TE} {apos cpos : Pos}
end
end L2

namespace Q
open PySem PySem.Spec PyProof.Rows L2
variable [Gh : Ghost]
/-! ### d.items(), d.values(): d locked -/
section
variable {K : PySem.W.Frag} {r : List Addr} {H : Hp} {d0 : Addr} {od : Obj} {ws : List (List Key × V)}
theorem KTR.row : ∀ {kvs : List (List Int × D)} {vs : List (List Key × V)}, KTR K r H kvs vs → ∀ {i : Nat} {k : List Key} {v : V}, vs[i]? = some (k, v) → ∃ p, kvs[i]? = some p ∧ k = p.1.map Sum.inl ∧ VR K r H p.2 v
  | [], _, h, i, k, v, e => by obtain rfl := (show _ = [] from h); cases e
  | p :: ds, _, ⟨v, ws, h1, h3, h4⟩, i, k, w, e => by
    subst h1
    cases i with
    | zero => cases e; exact ⟨p, rfl, rfl, h3⟩
    | succ i => exact KTR.row h4 e
end
section
variable {X : Cx} {tg e : Expr} {me : ME} {apos cpos : Pos}
end
/-! a dict that only the loop knows: locked for good where it comes up -/
/-! the rules for plain proofs -/
section
variable {en : En} {S : Store} {E : EK} {me : ME} {kvs : List (List Int × D)} {n : Nat} {Q : MI → Store → Prop}
end
end Q

namespace Q
open PySem PySem.Spec PyProof.Rows L2
variable [Gh : Ghost]
section
variable {X : Cx} {k : Nat}
/-! ### list(d), d a dict whose keys are tuples -/
end
end Q

namespace Q
open PySem PySem.Spec PyProof.Rows L2
/-! ### {k: v}, the key a tuple -/
section
variable {X : Cx} {kx vx : Expr} {pos : Pos} {tk tv : TE}
def tDisp1 (tk tv : TE) : TE := fun σ H Q => ∀ p, H p = none → tk σ (upd H p (.dT [])) fun x H1 => tv σ H1 fun y H2 => ∃ (b : Addr) (k : List Key), x = .ref b ∧ H2 b = some (.tup (k.map kV)) ∧ H2 p = some (.dT []) ∧ Q (.ref p) (upd H2 p (.dT [(k, y)]))
theorem pe_disp1 (hu : X.A.units + 1 < cLine) (hk : PE X kx tk) (hv : PE X vx tv) : PE X (.Dict [some kx] [vx] pos) (tDisp1 tk tv) := by
  refine ⟨fun pins s σ H Q I q => ?_⟩
  have fr := I.hok.fresh (Nat.le_refl s.heap.objs.size)
  have J := I.laid (a := s.heap.objs.size) (o := .dT []) (h' := s.heap.push { cls := .type "dict", data := .dict #[] }) (t' := s.toks) (fun _ _ z => Heap.get?_push_of_some _ z) (Nat.le_refl _) (dt_empty s.heap I.big)
  rw [arm_eval_Dict, zip_pairTrees [some kx] [vx] X.env pos rfl rfl, dictDisplay_pairs (pairTrees [some kx] [vx] X.env pos) (by simp [pairTrees]) (by simp [pairTrees])]
  refine wpAny_bind (wpAny_standAt (wpAny_bind (wpAny_subDictH (knd := tupleKind (mixKind X.prog X.w)) (Q := fun d s' => wpAny (model X.prog X.w) X.A (pure (Value.ref d)) (EP X pins σ Q) X.xe s') (show X.A.units < cLine from by omega) (by simp [pairTrees]) ?_)))
  refine pairTrees_cons_walk ?_
  refine wpAny_mono (hk.run pins _ σ _ _ J (q _ fr)) (fun u s1 ⟨x, H1, J1, rx, q1⟩ => ?_) fun _ _ e => e
  refine wpAny_mono (hv.run pins _ σ _ _ J1 q1) (fun u2 s2 ⟨y, H2, J2, ry, b, k, ex, hb, hp, q2⟩ => ?_) fun _ _ e => e
  refine pairTrees_nil_walk ?_
  subst ex
  cases (show u = Value.ref b from rx)
  obtain ⟨z, hd, xs, rel, dd⟩ := dt_of J2.hok hp
  cases rel
  refine ⟨[(k, b, u2)], ⟨rfl, rfl, key_of J2.hok hb, trivial⟩, dd, fun h' tk dd' hs => wpAny_pure ?_⟩
  obtain ⟨o, es, ep, hq, h2, h3, h4, _, h5⟩ := dd'
  have ne : b ≠ s.heap.objs.size := fun e => by rw [e, hp] at hb; cases hb
  have pr : KT (upd H2 s.heap.objs.size (.dT [(k, y)])) [(k, y)] [(k, b, u2)] := Paired.cons ⟨rfl, by rw [upd_ne ne]; exact hb, ry⟩ Paired.nil
  have ok : ObjOk X.prog X.w (upd H2 s.heap.objs.size (.dT [(k, y)])) h' s.heap.objs.size (.dT [(k, y)]) := ⟨by rw [sizeLine_eq]; show 1 ≤ _; omega, hd, [(k, b, u2)], pr, o, es, ep, hq, h2, h3, h4, h5⟩
  exact ⟨.ref s.heap.objs.size, _, d_write J2 (by rw [hp]; exact True.intro) hs ⟨o, hq⟩ ok, rfl, q2⟩
end
variable [Gh : Ghost]
section
variable {X : Cx} {k : Nat} {kx vx : Expr} {pos : Pos} {mk mv : ME}
def mDisp1T (mk mv : ME) : ME := fun en S => (mk en (S ++ [.dcT []])).bind fun y S1 => (mv en S1).bind fun z S2 => match keyX y with
  | some k => match S2[S.length]? with
    | some (.dcT []) => .ok (.ref S.length) (S2.set S.length (.dcT [(k, z)]))
    | _ => .bad
  | none => .bad
theorem e_disp1T (g : Gd X k) (hk : SndE X kx mk) (hv : SndE X vx mv) : SndE X (.Dict [some kx] [vx] pos) (mDisp1T mk mv) := by
  refine ⟨fun W tk en σ r H S Q er ro dn => ?_⟩
  have hu := g.room.un
  refine wE_of (pe_disp1 (by omega) (pe_wE X kx) (pe_wE X vx)) ?_
  intro p hp
  obtain ⟨n1, n2, n3⟩ := new_dcT (X := X) ro hp
  refine hk.run W tk en σ _ _ _ _ (er.mono n1) n2 (Dn.imp (Dn.bind (Dn.mono n1 dn)) fun x H1 ⟨d, S1, r1, e1, s1, o1, k1, d1⟩ => ?_)
  refine hv.run W tk en σ r1 H1 S1 _ ((er.mono n1).mono s1) o1 (Dn.imp (Dn.bind d1) fun y H2 ⟨e, S2, r2, e2, s2, o2, k2, d2⟩ => ?_)
  cases hx : keyX d with
  | none => rw [hx] at d2; exact d2.elim
  | some kk =>
    rw [hx] at d2
    dsimp only at d2
    have ed := keyX_some hx
    subst ed
    obtain ⟨t, rfl, ht⟩ := vr_tupD (k1.mono s2)
    have hp2 := s2.pre _ _ (s1.pre _ _ n3)
    split at d2
    · rename_i hq
      obtain ⟨ws, h1, h2⟩ := o2.ob _ _ p hq hp2
      have h2 : ws = [] := h2
      subst h2
      have ss : Stp r2 H2 r2 (upd H2 p (.dT [(kk.map Sum.inl, y)])) := Stp.mut h1 trivial
      refine ⟨t, kk.map Sum.inl, rfl, ?_, h1, ?_⟩
      · rw [ht, List.map_map]; rfl
      · exact Dn.ok_here (R := VR X.K) (a := .ref S.length) (Dn.mono ss d2) (o2.mut hp2 h1 trivial ⟨_, upd_same, y, [], rfl, k2.mono ss, rfl⟩) ⟨p, hp2, rfl⟩
    · exact d2.elim
end
theorem wpE_disp1T {mk mv : ME} {en : En} {S : Store} {E : EK} {P : D → Store → Prop} (h : wpE (mk en (S ++ [.dcT []])) (fun y T => wpE (mv en T) (fun z U => ∃ k, keyX y = some k ∧ U[S.length]? = some (.dcT []) ∧ P (.ref S.length) (U.set S.length (.dcT [(k, z)]))) E) E) : wpE (mDisp1T mk mv en S) P E :=
  wpE_bind (wpE_mono h (fun y T q => wpE_bind (wpE_mono q (fun z U ⟨k, e1, e2, q⟩ => by rw [e1]; dsimp only; rw [e2]; exact q) fun _ _ _ z => z)) fun _ _ _ z => z)
end Q

namespace Q
open PySem PySem.Spec PyProof.Rows L2
/-! ### the least of pairs (number, vector) -/
end Q

namespace Q
open PySem PySem.Spec PyProof.Rows L2
variable [Gh : Ghost]
/-! ### repr(d), d a dict whose keys are tuples -/
section
variable {X : Cx} {k : Nat} {pins : List (Addr × Obj)} {σ : L2.St} {H : Hp} {s : Shared} {r : List Addr} {S : Store}
end
end Q

namespace Q
open PySem PySem.Spec PyProof.Rows L2
/-! ### d == e, d != e: dicts with tuple keys and the same rows -/
section
variable {prog : Program} {w : World} {A : Around} {E : Value → Shared → Prop} {s : Shared}
variable {K : Type} [DecidableEq K] {knd : HeapKind prog w K}
end
variable [Gh : Ghost]
section
variable {X : Cx} {pins : List (Addr × Obj)} {σ : L2.St} {H : Hp} {s : Shared} {r : List Addr} {S : Store}
end
end Q

namespace Q
open PySem PySem.Spec PyProof.Rows L2
/-! ### a dict is none of the tuples of a list -/
theorem tuple_declines_dict (l b : Addr) (items : Array Value) (n : Nat) (dd : Option Addr) (sl : Array (Option Value)) (ob : Obj) (hc : ob.cls = .type "dict") :
    Meets (Builtin.«tuple.__eq__» ⟨[.ref l, .ref b], []⟩) (fun _ R s => s.heap.get? l = some { cls := .type "tuple", dict := dd, data := .seq items n, slots := sl } ∧ s.heap.get? b = some ob ∧ R (.ok (.ret .notImplemented)) s) :=
  .of_wp fun prog w A R s h => by
    obtain ⟨hp, g, d, tk, os⟩ := s
    obtain ⟨cls, dict, data, slots⟩ := ob
    subst hc
    obtain ⟨hl, hb, h⟩ := h
    have f1 := PySem.F.sub_dict_tuple
    wp_walk using wpAny_loadPart' hl, wpAny_loadPart' hb
    exact ⟨_, rfl, h⟩
theorem rc_tuple_dict {A : Around} {s : Shared} {l b : Addr} {items : Array Value} {ob : Obj} {es : Array DictEntry} {m : Nat} (hl : s.heap.IsTuple l items) (hb : s.heap.get? b = some ob) (hc : ob.cls = .type "dict") (hd : ob.data = .dict es m) (hu : A.units < cLine) : SeqAt.RcAt A s (.ref l) (.ref b) false := fun prog w E Q h => by
  have hne : l ≠ b := fun e => by
    subst e
    obtain ⟨o, ho, hc2, _⟩ := hl
    rw [ho] at hb
    cases hb
    rw [hc] at hc2
    exact absurd hc2 (by simp)
  obtain ⟨⟨cls, dd, data, sl⟩, ho, hc1, n, hd1⟩ := id hl
  simp only at hc1 hd1
  subst hc1 hd1
  have T2 : s.TypeIs (.ref b) "dict" := ⟨_, hb, hc⟩
  refine SeqAt.rc_eq_decline_or (k := false) ⟨_, ho, rfl⟩ T2 (by decide) PySem.F.sub_dict_tuple PySem.F.slot_tuple_eq PySem.F.slot_dict_eq_refl
    (fun _ hq => call_meets PySem.F.slot_tuple_eq ⟨_, ho, rfl⟩ PySem.F.entry_tuple_eq (PySem.F.args_tuple_eq_2 _ _) (tuple_declines_dict l b items n dd sl ob hc) ⟨ho, hb, hq⟩)
    (fun _ hq => ?_) (fun _ hq => SeqAt.wpAny_isSame_ref_other' hne ho hb (by rw [hc]; simp) hq) (.inr hu) h
  refine wpAny_call_entry PySem.F.slot_dict_eq_refl T2 PySem.F.entry_dict_eq ?_ (PySem.F.args_dict_eq_2 _ _)
  show wpAny _ _ (Builtin.Dict.dictSlotArgs "__eq__" ⟨[.ref b, .ref l], []⟩ >>= _) _ _ s
  unfold Builtin.Dict.dictSlotArgs
  refine wpAny_bind (wpAny_bind (wpAny_notOrdered_dict T2 ?_))
  refine wpAny_pure (wpAny_bind (wpAny_isInstance (T := "tuple") ⟨_, ho, rfl⟩ PySem.F.sub_tuple_dict ?_))
  rw [if_pos (show (!false) = true from rfl)]
  exact wpAny_bind (wpAny_rule (wpAny_pure ⟨_, rfl, hq⟩))
/-- x in xs: data, or x a dict and xs tuples alone -/
def isTupP : PyData → Bool
  | .tuple _ => true
  | _ => false
def dctTup (d e : D) (S : Store) : Bool := match pyD S d, pyD S e with
  | some (.dict _), some (.list ds) => ds.all isTupP
  | _, _ => false
def gNotInT : G2 := fun d e S => match gNotIn d e S with
  | some z => some z
  | none => if dctTup d e S = true then some (.bl true, S) else none
theorem reads_tups {h : Heap} : ∀ {vs : List Value} {ds : List PyData} {as : List Addr}, ReadsAll h vs ds as → ds.all isTupP = true → ∀ y ∈ vs, ∃ a its, y = .ref a ∧ h.IsTuple a its
  | _, _, _, .nil, _, y, hy => nomatch hy
  | _, _, _, .cons (d := d) r rs, hd, y, hy => by
    rw [List.all_cons, Bool.and_eq_true] at hd
    rcases List.mem_cons.mp hy with rfl | hy
    · cases r with
      | tuple h1 h2 h3 h4 => exact ⟨_, _, rfl, _, h1, h2, _, h3⟩
      | _ => exact Bool.noConfusion (show false = true from hd.1)
    · exact reads_tups rs hd.2 y hy
theorem o_ninT [Gh : Ghost] {X : Cx} (hu : X.A.units + 65 < cLine) : OpD X (compareOp .NotIn) gNotInT := by
  refine ⟨?_⟩
  intro d e z x y r H S S' Q q k1 k2 ro ed
  unfold gNotInT at q
  cases q0 : gNotIn d e S with
  | some z0 => rw [q0] at q; exact (o_nin hu).run d e z x y r H S S' Q (q0.trans q) k1 k2 ro ed
  | none =>
    rw [q0] at q
    dsimp only at q
    split at q
    case isFalse => cases q
    rename_i hc
    cases q
    unfold dctTup at hc
    cases h1 : pyD S d with
    | none => rw [h1] at hc; cases hc
    | some p =>
      cases h2 : pyD S e with
      | none => rw [h1, h2] at hc; cases p <;> cases hc
      | some p2 =>
        rw [h1, h2] at hc
        cases p with
        | dict kvs =>
          cases p2 with
          | list ds =>
            have hc : ds.all isTupP = true := hc
            intro pins s σ v u I rx ry
            obtain ⟨as, r1⟩ := reads_one I ro h1 k1 rx
            obtain ⟨bs, r2⟩ := reads_one I ro h2 k2 ry
            cases r1 with
            | dict a1 a2 a3 _ _ =>
              cases r2 with
              | list b1 b2 b3 b4 =>
                refine SeqAt.notIn_listAt (fun _ => false) ⟨_, b1, b2, _, b3⟩ (fun y hy => ?_) ?_
                · obtain ⟨l, its, rfl, ht⟩ := reads_tups b4 hc y (by simpa using hy)
                  refine SeqAt.EqAt.of_refs (fun z => ?_) (rc_tuple_dict ht a1 a2 a3 (by show X.A.units + 1 < _; omega))
                  subst z
                  obtain ⟨o, ho, hcl, _⟩ := ht
                  rw [ho] at a1
                  cases a1
                  rw [a2] at hcl
                  exact absurd hcl (by simp)
                · rw [show (!Array.any _ fun _ : Value => false) = true by simp]
                  exact ⟨.bl true, H, I, rfl, ed.flat ro rfl⟩
          | _ => cases hc
        | _ => cases hc
section
variable {S : Store} {P : D → Store → Prop}
theorem wpO_ninX {d e : D} {b : Bool} (h0 : inD d e S = some b) (h : P (.bl (!b)) S) : wpO (gNotInT d e S) P := by
  refine wpO_of (d := .bl (!b)) (T := S) ?_ h
  unfold gNotInT gNotIn
  rw [h0]
  rfl
theorem wpO_ninXd {d e : D} (h0 : inD d e S = none) (h1 : dctTup d e S = true) (h : P (.bl true) S) : wpO (gNotInT d e S) P := by
  refine wpO_of (d := .bl true) (T := S) ?_ h
  unfold gNotInT gNotIn
  rw [h0]
  show (if dctTup d e S = true then some (D.bl true, S) else none) = _
  rw [if_pos h1]
end
end Q

namespace Q
open PySem PySem.Spec PyProof.Rows L2
variable [Gh : Ghost]
/-! ### truth values as numbers -/
def b2 (c : Bool) : Int := if c = true then 1 else 0
section
variable {X : Cx}
/-! ### (d,) * k, k great -/
end
end Q

namespace Q
open PySem PySem.Spec PyProof.Rows L2
/-! ### isinstance of an own class, own ==, truth values as numbers: in what is wished -/
section
variable {en : En} {S : Store} {E : EK} {P : D → Store → Prop} {C : Addr} {fs : List (Str × D)} {k : Nat} {M : MF} {g : G2} {ma mb : ME} {neg : Bool}
end
end Q

namespace Q
/-! ### jump systems: sums of them are such -/
def IsStep (x y : Nat → Int) (i : Nat) (s : Int) : Prop := (s = 1 ∧ x i < y i) ∨ (s = -1 ∧ y i < x i)
def mv (x : Nat → Int) (i : Nat) (s : Int) : Nat → Int := fun k => if k = i then x k + s else x k
abbrev VSet := (Nat → Int) → Prop
/-- J has z itself, or a step from z towards y leads into it -/
def Near (n : Nat) (J : VSet) (z y : Nat → Int) : Prop := J z ∨ ∃ j t, j < n ∧ IsStep z y j t ∧ J (mv z j t)
def Jump (n : Nat) (J : VSet) : Prop := ∀ x y, J x → J y → ∀ i s, i < n → IsStep x y i s → Near n J (mv x i s) y
/-! ### small ones, boxes, shifts -/
theorem iff_jump {n : Nat} {J K : VSet} (e : ∀ x, J x ↔ K x) (hJ : Jump n J) : Jump n K := by
  rw [← show J = K from funext fun x => propext (e x)]
  exact hJ
end Q

namespace Q
open PySem PySem.Spec PyProof.Rows L2
/-! ### tables of sets, of any size: each place is met by a search -/
end Q


namespace Q
open PySem PySem.Spec PyProof.Rows L2
theorem wpO_mulT {S : Store} {P : D → Store → Prop} {k : Nat} {xs : List D} (h0 : xs ≠ []) (h1 : 1 ≤ k) (h2 : k ≤ 1000) (h3 : xs.length ≤ 1000) (h : P (.tup (List.replicate k xs).flatten) S) : wpO (gMulT (.tup xs) (.int ((k : Nat) : Int)) S) P := by
  refine wpO_of ?_ h
  unfold gMulT
  dsimp only
  by_cases hk : k = 1
  · subst hk
    rw [if_pos (by omega)]
    simp
  · rw [if_neg (by omega)]
    unfold gMul
    dsimp only
    rw [if_pos ⟨h0, by omega, by omega, h3⟩]
    rfl
theorem all2_eq {α : Type} {f : α → D} : ∀ {zs : List D} {bs : List α}, All2 (fun z b => z = f b) zs bs → zs = bs.map f
  | _, _, .nil => rfl
  | _, _, .cons h r => by rw [List.map_cons, ← h, ← all2_eq r]
theorem getD_at {l : List Int} {k : Nat} (h : k < l.length) : l.getD k 0 = l[k] := by rw [List.getD_eq_getElem?_getD, List.getElem?_eq_getElem h]; rfl
def fnV (v : List Int) : Nat → Int := fun k => v.getD k 0
def setL (ks : List (List Int)) : VSet := fun f => ∃ v ∈ ks, f = fnV v
def JumpL (n : Nat) (ks : List (List Int)) : Prop := Jump n (setL ks)
theorem fnV_inj {v w : List Int} (hl : v.length = w.length) (h : fnV v = fnV w) : v = w := by
  refine List.ext_getElem hl fun k h1 h2 => ?_
  have := congrFun h k
  unfold fnV at this
  rw [getD_at h1, getD_at h2] at this
  exact this
theorem jumpL_congr {n : Nat} {ks ds : List (List Int)} (h : ∀ v, v ∈ ks ↔ v ∈ ds) (hJ : JumpL n ds) : JumpL n ks :=
  iff_jump (fun f => ⟨fun ⟨v, hv, e⟩ => ⟨v, (h v).mpr hv, e⟩, fun ⟨v, hv, e⟩ => ⟨v, (h v).mp hv, e⟩⟩) hJ

/-- a list of vectors of n entries within b -/
def Vs (n b : Nat) (vs : List (List Int)) : Prop := ∀ v ∈ vs, v.length = n ∧ ∀ z ∈ v, z.natAbs ≤ b
def keptV (ds : List (List Int)) : List (List Int) := sortK (nub ds)
theorem kept_mem {ds : List (List Int)} {v : List Int} : v ∈ keptV ds ↔ v ∈ ds := sortK_mem.trans mem_nub
theorem kept_len (ds : List (List Int)) : (keptV ds).length = (nub ds).length := by unfold keptV sortK; rw [List.length_mergeSort]
def Asc (ds : List (List Int)) : Prop := ds.Pairwise (· ≤ ·) ∧ ds.Nodup
theorem nub_id {α : Type} [DecidableEq α] : ∀ {l : List α}, l.Nodup → nub l = l
  | [], _ => rfl
  | k :: l, h => by
    have h2 := List.nodup_cons.mp h
    unfold nub
    rw [nub_id h2.2, List.filter_eq_self.mpr (by intro x hx; exact decide_eq_true fun e => h2.1 (by rw [← e]; exact hx))]
theorem kept_asc {ds : List (List Int)} (h : Asc ds) : keptV ds = ds := by
  unfold keptV
  rw [nub_id h.2]
  exact List.Perm.eq_of_pairwise (le := (· ≤ ·)) (fun a b _ _ h1 h2 => List.le_antisymm h1 h2) (sortK_pw ds) h.1 (List.mergeSort_perm ds _)
theorem wpE_mEnu {en : En} {S : Store} {E : EK} {mi : MIt} {Q : MI → Store → Prop} (h : wpE (mi en S) (fun i T => Q (.enu 0 i) T) E) : wpE (mEnu 0 mi en S) Q E := wpE_bind h

theorem Vs.up {n b c : Nat} {vs : List (List Int)} (h : Vs n b vs) (hb : b ≤ c) : Vs n c vs := fun v hv => ⟨(h v hv).1, fun z hz => Nat.le_trans ((h v hv).2 z hz) hb⟩
def JL (most p c n m : Nat) (S : Store) (b : Nat) (e : En) (U : Store) : Prop := ∃ (F : Nat) (vs : List (List Int)) (x4 x5 x6 x7 x8 x9 x10 : Option D), e = [some (.ref p), some (.int ((n : Nat) : Int)), some (.int ((most : Nat) : Int)), some (.ref F), x4, x5, x6, x7, x8, x9, x10] ∧ U[F]? = some (.lst (vs.map tupD)) ∧ Vs n b vs ∧ vs ≠ [] ∧ vs.length ≤ most ∧ S.length ≤ F ∧ KpX p S U ∧ Pen p c m U ∧ JumpL n vs ∧ Asc vs
theorem JL.up {most p c n m m' b b' : Nat} {S U : Store} {e : En} (h : JL most p c n m S b e U) (hb : b ≤ b') (hm : m ≤ m') : JL most p c n m' S b' e U :=
  let ⟨F, vs, x4, x5, x6, x7, x8, x9, x10, h1, h2, h3, h4, h5, h6, h7, h8, h9, h10⟩ := h
  ⟨F, vs, x4, x5, x6, x7, x8, x9, x10, h1, h2, h3.up hb, h4, h5, h6, h7, h8.le hm, h9, h10⟩
def isIntK : Kd → Bool
  | .int => true
  | _ => false
def btw (d : D) (lo hi : Int) : Bool := match d with
  | .int i => decide (lo ≤ i) && decide (i ≤ hi)
  | _ => false
theorem btw_no {d : D} {lo hi : Int} (h : ∀ i, d ≠ .int i) : btw d lo hi = false := by
  cases d with
  | int i => exact absurd rfl (h i)
  | _ => rfl
theorem kind_nint {S : Store} {d : D} {q : Kd} (hq : kindD d S = some q) (h : isIntK q = false) : ∀ i, d ≠ .int i := fun i e => by
  subst e
  cases hq
  cases h
def vecB (d : D) : Bool := match d with
  | .tup xs => (decide (1 ≤ xs.length) && decide (xs.length ≤ 5)) && xs.all fun x => btw x (-1000) 1000
  | _ => false
theorem vecB_no {d : D} (h : ∀ xs, d ≠ .tup xs) : vecB d = false := by
  cases d with
  | tup xs => exact absurd rfl (h xs)
  | _ => rfl
theorem kind_ntup {S : Store} {d : D} {q : Kd} (hq : kindD d S = some q) (h : isKd q .tup = false) : ∀ xs, d ≠ .tup xs := fun xs e => by
  subst e
  cases hq
  cases h
/-- an entry's kind is found in every later store -/
def Kinds (S : Store) (d : D) : Prop := (∃ q, ∀ T, Kp S T → kindD d T = some q) ∧ ∀ xs, d = .tup xs → ∀ x ∈ xs, ∃ q, ∀ T, Kp S T → kindD x T = some q
theorem kinds_vec {S : Store} (v : List Int) : Kinds S (tupD v) := ⟨⟨.tup, fun _ _ => rfl⟩, fun xs e x hx => by
  cases e
  obtain ⟨i, _, rfl⟩ := List.mem_map.mp hx
  exact ⟨.int, fun _ _ => rfl⟩⟩
def fitV (v : List Int) : Bool := (decide (1 ≤ v.length) && decide (v.length ≤ 5)) && v.all fun i => decide (-1000 ≤ i) && decide (i ≤ 1000)
theorem vecB_tup (v : List Int) : vecB (tupD v) = fitV v := by
  unfold vecB tupD fitV
  dsimp only
  rw [List.length_map, List.all_map]
  rfl
theorem fit_ok {n : Nat} {v : List Int} (h1 : 1 ≤ n) (h5 : n ≤ 5) (h : v.length = n ∧ ∀ z ∈ v, z.natAbs ≤ 1000) : fitV v = true := by
  unfold fitV
  rw [Bool.and_eq_true, Bool.and_eq_true, decide_eq_true_eq, decide_eq_true_eq, List.all_eq_true]
  refine ⟨⟨by omega, by omega⟩, fun z hz => ?_⟩
  have := h.2 z hz
  rw [Bool.and_eq_true, decide_eq_true_eq, decide_eq_true_eq]
  omega
theorem kind_noitems {S : Store} {d : D} {q : Kd} (h : kindD d S = some q) (hn : itemsD d S = none) : [Bt.lst, .tup].any (isKd q) = false := by
  cases d with
  | tup xs => cases hn
  | kl xs => cases hn
  | ref n =>
    unfold kindD at h
    unfold itemsD at hn
    dsimp only at h hn
    cases e : S[n]? with
    | none => rw [e] at h; cases h
    | some o =>
      rw [e] at h hn
      cases o with
      | lst xs => cases hn
      | dct xs => cases h; rfl
      | dcT xs => cases h; rfl
      | ins C xs => cases h; rfl
      | _ => cases h
  | non => cases h; rfl
  | bl b => cases h; rfl
  | int b => cases h; rfl
  | str b => cases h; rfl
  | _ => cases h
def vlen : D → Nat
  | .tup xs => xs.length
  | _ => 0
def fitX (n : Nat) (d : D) : Bool := vecB d && decide (vlen d = n)
def headX (xs : List D) : Nat := vlen (xs.headD .non)
def faultX (xs : List D) : Option Nat := xs.findIdx? fun d => !fitX (headX xs) d
theorem btw_int {d : D} {lo hi : Int} (h : btw d lo hi = true) : ∃ i, d = .int i ∧ lo ≤ i ∧ i ≤ hi := by
  cases d with
  | int i =>
    have h : (decide (lo ≤ i) && decide (i ≤ hi)) = true := h
    rw [Bool.and_eq_true, decide_eq_true_eq, decide_eq_true_eq] at h
    exact ⟨i, rfl, h⟩
  | _ => cases h
theorem btws_ints : ∀ xs : List D, (∀ x ∈ xs, btw x (-1000) 1000 = true) → ∃ v : List Int, xs = v.map D.int ∧ ∀ z ∈ v, z.natAbs ≤ 1000
  | [], _ => ⟨[], rfl, fun _ h => nomatch h⟩
  | x :: xs, h => by
    obtain ⟨i, rfl, h1, h2⟩ := btw_int (h x List.mem_cons_self)
    obtain ⟨v, rfl, hv⟩ := btws_ints xs fun y hy => h y (List.mem_cons_of_mem _ hy)
    refine ⟨i :: v, rfl, fun z hz => ?_⟩
    rcases List.mem_cons.mp hz with rfl | hz
    · omega
    · exact hv z hz
theorem vecB_vec4 {d : D} (h : vecB d = true) : ∃ v : List Int, d = tupD v ∧ 1 ≤ v.length ∧ v.length ≤ 5 ∧ ∀ z ∈ v, z.natAbs ≤ 1000 := by
  cases d with
  | tup xs =>
    unfold vecB at h
    rw [Bool.and_eq_true, Bool.and_eq_true, decide_eq_true_eq, decide_eq_true_eq, List.all_eq_true] at h
    obtain ⟨v, rfl, hv⟩ := btws_ints xs h.2
    have h1 := h.1
    rw [List.length_map] at h1
    exact ⟨v, rfl, h1.1, h1.2, hv⟩
  | _ => cases h
theorem vlen_tup (v : List Int) : vlen (tupD v) = v.length := List.length_map ..
theorem fitX_vec {n : Nat} {d : D} (h : fitX n d = true) : ∃ v : List Int, d = tupD v ∧ v.length = n ∧ 1 ≤ n ∧ n ≤ 5 ∧ ∀ z ∈ v, z.natAbs ≤ 1000 := by
  unfold fitX at h
  rw [Bool.and_eq_true, decide_eq_true_eq] at h
  obtain ⟨v, rfl, h1, h2, h3⟩ := vecB_vec4 h.1
  have e := h.2
  rw [vlen_tup] at e
  exact ⟨v, rfl, e, by omega, by omega, h3⟩
theorem fault_vecs {n : Nat} {ds : List (List Int)} (h1 : 1 ≤ n) (h5 : n ≤ 5) (ok : Vs n 1000 ds) : faultX (ds.map tupD) = none := by
  refine List.findIdx?_eq_none_iff.mpr fun x hx => ?_
  obtain ⟨v, hv, rfl⟩ := List.mem_map.mp hx
  have e : headX (ds.map tupD) = n := by
    cases ds with
    | nil => cases hv
    | cons w ds => exact (vlen_tup w).trans (ok w List.mem_cons_self).1
  have f : fitX (headX (ds.map tupD)) (tupD v) = true := by
    unfold fitX
    rw [vecB_tup, fit_ok h1 h5 (ok v hv), e, vlen_tup, (ok v hv).1, decide_eq_true rfl]
    rfl
  rw [f]
  rfl
/-- what is known at the first fault -/
theorem fault_at {xs : List D} {i : Nat} (h : faultX xs = some i) : i < xs.length ∧ (∀ x, xs[i]? = some x → fitX (headX xs) x = false) ∧ ∀ j x, j < i → xs[j]? = some x → fitX (headX xs) x = true := by
  obtain ⟨hi, hp, hl⟩ := List.findIdx?_eq_some_iff_getElem.mp h
  refine ⟨hi, fun x hx => ?_, fun j x hj hx => ?_⟩
  · rw [List.getElem?_eq_getElem hi] at hx
    cases hx
    cases z : fitX (headX xs) xs[i]
    · rfl
    · rw [z] at hp; exact absurd hp (by decide)
  · obtain ⟨hj2, rfl⟩ := List.getElem?_eq_some_iff.mp hx
    have := hl j hj
    cases z : fitX (headX xs) xs[j]
    · rw [z] at this; exact absurd rfl this
    · rfl
theorem kinds_kp {S T : Store} {d : D} (h : Kinds S d) (k : Kp S T) : Kinds T d := ⟨h.1.imp fun _ q U kU => q U (k.trans kU), fun xs e x hx => (h.2 xs e x hx).imp fun _ q U kU => q U (k.trans kU)⟩
/-- an object of the class A that stands for the members ks -/
def SetAt (U : Store) (A : Addr) (K : Nat) (ks : List (List Int)) : Prop := ∃ q, U[K]? = some (.ins A [("kept", .tup (ks.map tupD)), ("known", .ref q)]) ∧ U[q]? = some (.dcT (trueT ks [])) ∧ K < q
theorem SetAt.kp {S T : Store} {A : Addr} {K : Nat} {ks : List (List Int)} (h : SetAt S A K ks) (k : Kp S T) : SetAt T A K ks := let ⟨q, h1, h2, h3⟩ := h; ⟨q, k _ _ h1, k _ _ h2, h3⟩
theorem SetAt.lt {S : Store} {A : Addr} {K : Nat} {ks : List (List Int)} (h : SetAt S A K ks) : K < S.length := let ⟨_, h1, _⟩ := h; lt_of_at h1
theorem SetAt.kx {S T : Store} {A : Addr} {K p : Nat} {ks : List (List Int)} {kv : List (Key × D)} (h : SetAt S A K ks) (hp : S[p]? = some (.dct kv)) (k : KpX p S T) : SetAt T A K ks := by
  obtain ⟨q, h1, h2, h3⟩ := h
  have e1 : K ≠ p := fun e => by rw [e, hp] at h1; cases h1
  have e2 : q ≠ p := fun e => by rw [e, hp] at h2; cases h2
  exact ⟨q, k.k _ _ e1 h1, k.k _ _ e2 h2, h3⟩
theorem SetAt.up {S T : Store} {A : Addr} {K p : Nat} {ks : List (List Int)} (h : SetAt S A K ks) (hp : p < K) (k : KpX p S T) : SetAt T A K ks := let ⟨q, h1, h2, h3⟩ := h; ⟨q, k.k _ _ (by omega) h1, k.k _ _ (by omega) h2, h3⟩
def stepB1 (x y : List Int) (k : Nat) : Option (Nat × Int) := if x.getD k 0 = y.getD k 0 then none else some (k, if x.getD k 0 < y.getD k 0 then 1 else -1)
def stepsTo (x y : List Int) (i : Nat) : List (Nat × Int) := (List.range i).filterMap (stepB1 x y)
def stepsL (x y : List Int) : List (Nat × Int) := stepsTo x y x.length
def stepD (p : Nat × Int) : D := .tup [.int ((p.1 : Nat) : Int), .int p.2]
theorem stepsTo_succ (x y : List Int) (i : Nat) : stepsTo x y (i + 1) = stepsTo x y i ++ (match stepB1 x y i with | none => [] | some p => [p]) := by
  unfold stepsTo
  rw [List.range_succ, List.filterMap_append]
  congr 1
  rw [List.filterMap_cons, List.filterMap_nil]
  cases stepB1 x y i <;> rfl
theorem stepsTo_len (x y : List Int) (i : Nat) : (stepsTo x y i).length ≤ i := by
  unfold stepsTo
  have := List.length_filterMap_le (stepB1 x y) (List.range i)
  rw [List.length_range] at this
  exact this
def aftL (x : List Int) (p : Nat × Int) : List Int := x.set p.1 (x.getD p.1 0 + p.2)
theorem aft_len (x : List Int) (p : Nat × Int) : (aftL x p).length = x.length := List.length_set ..
theorem steps_at {x y : List Int} {p : Nat × Int} (h : p ∈ stepsL x y) : p.1 < x.length := by
  unfold stepsL stepsTo at h
  obtain ⟨k, hk, e⟩ := List.mem_filterMap.mp h
  unfold stepB1 at e
  split at e
  · cases e
  · cases e; exact List.mem_range.mp hk
def exB (ks : List (List Int)) (x y : List Int) (p : Nat × Int) : Bool := decide (aftL x p ∈ ks) || (stepsL (aftL x p) y).any fun q => decide (aftL (aftL x p) q ∈ ks)
theorem fnV_aft {v : List Int} {p : Nat × Int} (hp : p.1 < v.length) : fnV (aftL v p) = mv (fnV v) p.1 p.2 := by
  funext k
  unfold fnV aftL mv
  rw [List.getD_eq_getElem?_getD]
  by_cases h : k = p.1
  · subst h
    rw [List.getElem?_set_self hp, if_pos rfl]
    rfl
  · rw [List.getElem?_set_ne (fun z => h z.symm), if_neg h]
    exact (List.getD_eq_getElem?_getD ..).symm
theorem step_of {x y : List Int} {p : Nat × Int} (h : p ∈ stepsL x y) : IsStep (fnV x) (fnV y) p.1 p.2 := by
  unfold stepsL stepsTo at h
  obtain ⟨k, hk, e⟩ := List.mem_filterMap.mp h
  unfold stepB1 at e
  split at e
  · cases e
  · rename_i hne
    cases e
    dsimp only
    unfold IsStep fnV
    by_cases q : x.getD k 0 < y.getD k 0
    · rw [if_pos q]; exact .inl ⟨rfl, q⟩
    · rw [if_neg q]; exact .inr ⟨rfl, by omega⟩
theorem of_step {x y : List Int} {j : Nat} {t : Int} (hj : j < x.length) (h : IsStep (fnV x) (fnV y) j t) : (j, t) ∈ stepsL x y := by
  unfold stepsL stepsTo
  refine List.mem_filterMap.mpr ⟨j, List.mem_range.mpr hj, ?_⟩
  unfold stepB1
  unfold IsStep fnV at h
  rw [if_neg (by omega)]
  rcases h with ⟨rfl, q⟩ | ⟨rfl, q⟩
  · rw [if_pos q]
  · rw [if_neg (by omega)]
theorem jump_exB {n : Nat} {ks : List (List Int)} (hl : ∀ v ∈ ks, v.length = n) (hJ : JumpL n ks) {x y : List Int} (hx : x ∈ ks) (hy : y ∈ ks) {p : Nat × Int} (hp : p ∈ stepsL x y) : exB ks x y p = true := by
  have lx := hl x hx
  have p1 := steps_at hp
  have back : ∀ z : List Int, z.length = n → setL ks (fnV z) → z ∈ ks := fun z hz ⟨v, hv, e⟩ => by rw [fnV_inj (by rw [hz, hl v hv]) e]; exact hv
  have al := aft_len x p
  unfold exB
  rw [Bool.or_eq_true, decide_eq_true_eq, List.any_eq_true]
  rcases hJ (fnV x) (fnV y) ⟨x, hx, rfl⟩ ⟨y, hy, rfl⟩ p.1 p.2 (by omega) (step_of hp) with h | ⟨j, t, hj, st, h⟩
  · rw [← fnV_aft p1] at h
    exact .inl (back _ (by omega) h)
  · rw [← fnV_aft p1] at st h
    have hj' : (j, t).1 < (aftL x p).length := by show j < _; omega
    have h : setL ks (fnV (aftL (aftL x p) (j, t))) := by rw [fnV_aft hj']; exact h
    exact .inr ⟨(j, t), of_step hj' st, decide_eq_true (back _ (by rw [aft_len]; omega) h)⟩
/-- the first failure of the members ks, told as data -/
def ffL (ks : List (List Int)) : Option (List Int × List Int × (Nat × Int)) := ks.findSome? fun x => ks.findSome? fun y => (stepsL x y).findSome? fun p => if exB ks x y p = true then none else some (x, y, p)
def ffD : Option (List Int × List Int × (Nat × Int)) → D
  | none => .non
  | some (x, y, p) => .tup [tupD x, tupD y, stepD p]
theorem findSome_cut {α β : Type} {f : α → Option β} {l : List α} {i : Nat} {a : α} (h : l[i]? = some a) (hp : (l.take i).findSome? f = none) (b : β) (e : f a = some b) : l.findSome? f = some b := by
  have hi := (List.getElem?_eq_some_iff.mp h).1
  have q : l = l.take i ++ a :: l.drop (i + 1) := by
    rw [← (List.getElem?_eq_some_iff.mp h).2, ← List.drop_eq_getElem_cons hi, List.take_append_drop]
  rw [q, List.findSome?_append, hp, List.findSome?_cons, e]
  rfl
theorem findSome_next {α β : Type} {f : α → Option β} {l : List α} {i : Nat} {a : α} (h : l[i]? = some a) (hp : (l.take i).findSome? f = none) (e : f a = none) : (l.take (i + 1)).findSome? f = none := by
  rw [List.take_add_one, h, List.findSome?_append, hp]
  show (none : Option β).or ([a].findSome? f) = none
  rw [List.findSome?_cons, e]
  rfl
theorem ffL_jump {n : Nat} {ks : List (List Int)} (hl : ∀ v ∈ ks, v.length = n) (hJ : JumpL n ks) : ffL ks = none := by
  unfold ffL
  rw [List.findSome?_eq_none_iff]
  intro x hx
  rw [List.findSome?_eq_none_iff]
  intro y hy
  rw [List.findSome?_eq_none_iff]
  intro p hp
  rw [if_pos (jump_exB hl hJ hx hy hp)]

section
variable {en : En} {S : Store} {N : En → Store → Prop} {R : D → Store → Prop} {B C : En → Store → Prop} {X : XKs}
end

theorem kind_kp {S T : Store} {d : D} {q : Kd} (k : Kp S T) (h : kindD d S = some q) : kindD d T = some q := by
  cases d with
  | ref n =>
    unfold kindD at h ⊢
    dsimp only at h ⊢
    cases e : S[n]? with
    | none => rw [e] at h; cases h
    | some o => rw [e] at h; rw [k _ _ e]; exact h
  | _ => exact h
def ChOk (x : Str) : Prop := ∀ c ∈ x.cps.toList, c < 16 ^ 8
theorem ChOk.of (x : String) : ChOk (Str.ofString x) := fun c hc => by
  rw [signs_ofString x] at hc
  obtain ⟨z, _, rfl⟩ := List.mem_map.mp hc
  have hz : z.toNat < 1114112 := by
    rcases z.valid with h | ⟨_, h⟩
    · exact Nat.lt_trans h (by decide)
    · exact h
  exact Nat.lt_trans hz (by decide)
theorem ChOk.app {x y : Str} (h1 : ChOk x) (h2 : ChOk y) : ChOk (x ++ y) := fun c hc => by
  have e : (x ++ y).cps = x.cps ++ y.cps := rfl
  rw [e, Array.toList_append] at hc
  exact (List.mem_append.mp hc).elim (h1 c) (h2 c)
theorem ChOk.join : ∀ ts : List Str, (∀ t ∈ ts, ChOk t) → ChOk (Str.join ", " ts)
  | [], _ => fun c hc => nomatch hc
  | [x], h => h x List.mem_cons_self
  | x :: y :: r, h => ChOk.app (ChOk.app (h x List.mem_cons_self) (ChOk.of ", ")) (ChOk.join (y :: r) fun t ht => h t (List.mem_cons_of_mem _ ht))
/-- what is asked of a value that is shown and looked up -/
structure Val (S : Store) (d : D) : Prop where
  kd : Kinds S d
  rp : ∃ x, ∀ T, Kp S T → reprP d T = some x
  ln : ∀ xs, d = .tup xs → xs.length ≤ 1000
theorem Nc.val {n m b : Nat} {S : Store} {d : D} (h : Nc n m b S d) (hn : n ≤ 64) (hm : m ≤ 800) (hb : b ≤ 1900) : Val S d := by
  refine ⟨⟨?_, fun xs e x hx => ?_⟩, h.repr hn hm hb, fun xs e => ?_⟩
  · obtain ⟨q, hq⟩ := h.kind
    exact ⟨q, fun T k => kind_kp k hq⟩
  · subst e
    cases n with
    | zero => obtain ⟨p, h1, _, _⟩ := h.ex; cases h1
    | succ n =>
      obtain ⟨i, hi, e⟩ := List.getElem_of_mem hx
      obtain ⟨q, hq⟩ := (h.of_tup.get (i := i) (by rw [List.getElem?_eq_getElem hi, e])).kind
      exact ⟨q, fun T k => kind_kp k hq⟩
  · subst e
    cases n with
    | zero => obtain ⟨p, h1, _, _⟩ := h.ex; cases h1
    | succ n =>
      obtain ⟨ps, h1, h2, h3⟩ := h.of_tup.ex
      have := mapM_len h1
      have l : ∀ ps : List PyData, ps.length ≤ nds ps := fun ps => by
        induction ps with
        | nil => exact Nat.le_refl _
        | cons p ps ih =>
          have : 1 ≤ nd p := by cases p <;> simp [nd]
          simp only [nds, List.length_cons]
          omega
      have := l ps
      omega
theorem Pen.neT {p c n L : Nat} {S : Store} {kv : List (List Int × D)} (P : Pen p c n S) (h : S[L]? = some (.dcT kv)) : L ≠ p := fun e => by
  obtain ⟨ns, t, ρ, h1, _⟩ := P.open
  rw [e, h1] at h
  cases h
/-- neighbouring numbers -/
theorem line_jumpL (a : Int) (m : Nat) : JumpL 1 ((List.range m).map fun k => [a + ((k : Nat) : Int)]) := by
  intro x y hx hy i s hi st
  obtain ⟨v, hv, rfl⟩ := hx
  obtain ⟨w, hw, rfl⟩ := hy
  obtain ⟨k, hk, rfl⟩ := List.mem_map.mp hv
  obtain ⟨l, hl, rfl⟩ := List.mem_map.mp hw
  have hk := List.mem_range.mp hk
  have hl := List.mem_range.mp hl
  have i0 : i = 0 := by omega
  subst i0
  have e0 : ∀ z : Int, fnV [z] 0 = z := fun _ => rfl
  have go : ∀ z : Int, a ≤ z → z < a + m → setL ((List.range m).map fun k => [a + ((k : Nat) : Int)]) (fnV [z]) := fun z h1 h2 => ⟨[z], List.mem_map.mpr ⟨(z - a).toNat, List.mem_range.mpr (by omega), by congr 1; omega⟩, rfl⟩
  have em : mv (fnV [a + ((k : Nat) : Int)]) 0 s = fnV [a + ((k : Nat) : Int) + s] := by
    funext j
    unfold mv fnV
    cases j with
    | zero => rfl
    | succ j => rw [if_neg (by omega)]; rfl
  refine .inl ?_
  rw [em]
  unfold IsStep at st
  rw [e0, e0] at st
  rcases st with ⟨rfl, h⟩ | ⟨rfl, h⟩
  · exact go _ (by omega) (by omega)
  · exact go _ (by omega) (by omega)
theorem wpO_mulZ {S : Store} {P : D → Store → Prop} {k : Nat} {xs : List D} (h0 : xs ≠ []) (h2 : k ≤ 1000) (h3 : xs.length ≤ 1000) (h : P (.tup (List.replicate k xs).flatten) S) : wpO (gMulZ (.tup xs) (.int ((k : Nat) : Int)) S) P := by
  by_cases hk : k = 0
  · subst hk
    refine wpO_of ?_ h
    unfold gMulZ
    exact if_pos ⟨rfl, h0⟩
  · show wpO (if _ then _ else _) P
    rw [if_neg (fun z => hk (by omega))]
    exact wpO_mulT h0 (by omega) h2 h3 h
end Q


namespace Q
open PySem PySem.Spec PyProof.Rows L2
/-! ### sets of long lists with few different members -/
theorem nub_sub {a b : List (List Int)} (h : ∀ v ∈ a, v ∈ b) : (nub a).length ≤ (nub b).length := len_of_sub (nub_nodup a) fun v hv => mem_nub.mpr (h v (mem_nub.mp hv))
theorem compS_varN {S : Store} {mi : MI} {i : Nat} {ks : List (List Int)} {e : En} (hi : i < e.length) (hm : ∀ j, nextM mi j S = some (ks.map tupD)[j]?) (hl : (nub ks).length < 1228) :
    ∀ (r n j : Nat) (acc : List (List Int)), j + r = ks.length → r < n → acc = ks.take j → compS mi (pName i) mYes (mVar i) n j acc e S = .ok ks S
  | 0, n, j, acc, h1, h2, ha => by
    obtain ⟨n', rfl⟩ : ∃ q, n = q + 1 := ⟨n - 1, by omega⟩
    unfold compS
    rw [hm j, List.getElem?_eq_none (by rw [List.length_map]; omega), ha, List.take_of_length_le (by omega)]
  | r + 1, n, j, acc, h1, h2, ha => by
    obtain ⟨n', rfl⟩ : ∃ q, n = q + 1 := ⟨n - 1, by omega⟩
    have hj : j < ks.length := by omega
    have ih := compS_varN hi hm hl r n' (j + 1) (acc ++ [ks[j]]) (by omega) (by omega) (by rw [ha, List.take_succ, List.getElem?_eq_getElem hj]; rfl)
    have hn : (nub acc).length < 1228 := by
      have : (nub acc).length ≤ (nub ks).length := nub_sub fun v hv => by rw [ha] at hv; exact List.mem_of_mem_take hv
      omega
    unfold compS
    rw [hm j, List.getElem?_map, List.getElem?_eq_getElem hj]
    have hv : (mVar i) (setsE e [(i, tupD ks[j])]) S = .ok (tupD ks[j]) S := by
      unfold mVar
      rw [show (setsE e [(i, tupD ks[j])])[i]? = some (some (tupD ks[j])) from set_at hi]
    show (Res.calm ((mVar i) (setsE e [(i, tupD ks[j])]) S)).bind _ = _
    rw [hv]
    show (match keyX (tupD ks[j]) with | some k => if (nub acc).length < 1228 then compS mi (pName i) mYes (mVar i) n' (j + 1) (acc ++ [k]) e S else .bad | none => .bad) = _
    rw [keyX_tup]
    dsimp only
    rw [if_pos hn, ih]
theorem wpE_setCN {en : En} {S : Store} {E : EK} {i : Nat} {m : MIt} {own : List Nat} {Q : List (List Int) → Store → Prop} (h : wpE (m en S) (fun mi T => ∃ ks, (∀ j, nextM mi j T = some (ks.map tupD)[j]?) ∧ (nub ks).length < 1228 ∧ ks.length < 5000 ∧ i < en.length ∧ Q ks T) E) :
    wpE (mSetC1 m (pName i) mYes (mVar i) own bigN en S) Q E := by
  refine wpE_bind (wpE_mono h (fun mi T ⟨ks, h1, h2, h4, h3, q⟩ => ?_) fun _ _ _ z => z)
  exact wpE_eq (compS_varN (by rw [wipe_len]; exact h3) h1 h2 ks.length bigN 0 [] (by omega) (by unfold bigN; omega) rfl) q
end Q

namespace Q
open PySem PySem.Spec PyProof.Rows L2
/-! ### the text of the law -/
def topS (i : Nat) : Stmt := PySem.Challenge.pw_jumpsets_k06_members_refused.main.body.getD i (.Pass ⟨0, 0, 0, 0⟩)
abbrev s__law_pen : Stmt := topS 27
abbrev s__law_draw : Stmt := topS 28
abbrev s__law_pick : Stmt := topS 29
abbrev s__law_odd : Stmt := topS 31
abbrev s__law_refused : Stmt := topS 30
abbrev s_is_list : Stmt := topS 11
abbrev s_is_integer : Stmt := topS 9
abbrev s_is_between : Stmt := topS 10
abbrev s_fits_vector : Stmt := topS 12
abbrev s_checked_members : Stmt := topS 19
abbrev s_VectorSet___init__ : Stmt := clsDef (topS 22) 3
abbrev s_steps_of : Stmt := topS 13
abbrev s_after : Stmt := topS 14
abbrev s_is_exchanged : Stmt := topS 23
abbrev s_first_failure : Stmt := topS 24
abbrev s_JumpSet___init__ : Stmt := clsDef (topS 25) 0
abbrev s_JumpSet_failure : Stmt := clsDef (topS 25) 1
abbrev s__law_right : Stmt := topS 32
abbrev s_law : Stmt := topS 33
theorem bb_ValueError : bootBuiltins "ValueError" = some (.type "ValueError") := by decide +kernel
theorem bb_abs : bootBuiltins "abs" = some (.builtin "abs") := by decide +kernel
theorem bb_all : bootBuiltins "all" = some (.builtin "all") := by decide +kernel
theorem bb_any : bootBuiltins "any" = some (.builtin "any") := by decide +kernel
theorem bb_bool : bootBuiltins "bool" = some (.type "bool") := by decide +kernel
theorem bb_int : bootBuiltins "int" = some (.type "int") := by decide +kernel
theorem bb_isinstance : bootBuiltins "isinstance" = some (.builtin "isinstance") := by decide +kernel
theorem bb_len : bootBuiltins "len" = some (.builtin "len") := by decide +kernel
theorem bb_list : bootBuiltins "list" = some (.type "list") := by decide +kernel
theorem bb_repr : bootBuiltins "repr" = some (.builtin "repr") := by decide +kernel
theorem bb_sorted : bootBuiltins "sorted" = some (.builtin "sorted") := by decide +kernel
theorem bb_super : bootBuiltins "super" = some (.type "super") := by decide +kernel
theorem bb_tuple : bootBuiltins "tuple" = some (.type "tuple") := by decide +kernel
theorem sc__law_pen : FnScope ["_law_script"] ["_law_script"] (defScope s__law_pen) := ⟨rfl, rfl, rfl, by decide +kernel, rfl, by decide +kernel, by decide +kernel⟩
theorem sc__law_draw : FnScope ["_law_pen_here", "_law_size", "_law_digit", "_law_turn", "_law_cell", "_law_primes", "_law_prime", "_law_mixed"] ["_law_pen_here", "_law_size"] (defScope s__law_draw) := ⟨rfl, rfl, rfl, by decide +kernel, rfl, by decide +kernel, by decide +kernel⟩
theorem sc__law_pick : FnScope ["_law_pen_here", "_law_options"] ["_law_pen_here", "_law_options"] (defScope s__law_pick) := ⟨rfl, rfl, rfl, by decide +kernel, rfl, by decide +kernel, by decide +kernel⟩
theorem sc__law_odd : FnScope ["_law_pen_here", "_law_size", "_law_some"] ["_law_pen_here", "_law_size"] (defScope s__law_odd) := ⟨rfl, rfl, rfl, by decide +kernel, rfl, by decide +kernel, by decide +kernel⟩
theorem sc__law_refused : FnScope ["_law_call", "_law_kept", "e"] ["_law_call"] (defScope s__law_refused) := ⟨rfl, rfl, rfl, by decide +kernel, rfl, by decide +kernel, by decide +kernel⟩
theorem sc_is_list : FnScope ["value"] ["value"] (defScope s_is_list) := ⟨rfl, rfl, rfl, by decide +kernel, rfl, by decide +kernel, by decide +kernel⟩
theorem sc_is_integer : FnScope ["value"] ["value"] (defScope s_is_integer) := ⟨rfl, rfl, rfl, by decide +kernel, rfl, by decide +kernel, by decide +kernel⟩
theorem sc_is_between : FnScope ["value", "low", "high"] ["value", "low", "high"] (defScope s_is_between) := ⟨rfl, rfl, rfl, by decide +kernel, rfl, by decide +kernel, by decide +kernel⟩
theorem sc_fits_vector : FnScope ["value", "entry"] ["value"] (defScope s_fits_vector) := ⟨rfl, rfl, rfl, by decide +kernel, rfl, by decide +kernel, by decide +kernel⟩
theorem sc_checked_members : FnScope ["members", "index", "x", "kept"] ["members"] (defScope s_checked_members) := ⟨rfl, rfl, rfl, by decide +kernel, rfl, by decide +kernel, by decide +kernel⟩
theorem sc_VectorSet___init__ : FnScope ["self", "members", "x"] ["self", "members"] (defScope s_VectorSet___init__) := ⟨rfl, rfl, rfl, by decide +kernel, rfl, by decide +kernel, by decide +kernel⟩
theorem sc_steps_of : FnScope ["x", "y", "found", "index", "one", "other"] ["x", "y"] (defScope s_steps_of) := ⟨rfl, rfl, rfl, by decide +kernel, rfl, by decide +kernel, by decide +kernel⟩
theorem sc_after : FnScope ["x", "step", "index", "sign"] ["x", "step"] (defScope s_after) := ⟨rfl, rfl, rfl, by decide +kernel, rfl, by decide +kernel, by decide +kernel⟩
theorem sc_is_exchanged : FnScope ["known", "x", "y", "step", "one", "further"] ["known", "x", "y", "step"] (defScope s_is_exchanged) := ⟨rfl, rfl, rfl, by decide +kernel, rfl, by decide +kernel, by decide +kernel⟩
theorem sc_first_failure : FnScope ["kept", "known", "x", "y", "step"] ["kept"] (defScope s_first_failure) := ⟨rfl, rfl, rfl, by decide +kernel, rfl, by decide +kernel, by decide +kernel⟩
theorem sc_JumpSet___init__ : NdefX.NScope ["self", "members", "__class__", "failure", "x", "y", "step"] ["self", "members"] ["__class__"] (defScope s_JumpSet___init__) := NdefX.nscope_by (by decide +kernel)
theorem sc_JumpSet_failure : FnScope ["members"] ["members"] (defScope s_JumpSet_failure) := ⟨rfl, rfl, rfl, by decide +kernel, rfl, by decide +kernel, by decide +kernel⟩
theorem sc__law_right : FnScope ["_law_given", "_law_due", "_law_call"] ["_law_given", "_law_due"] (defScope s__law_right) := ⟨rfl, rfl, rfl, by decide +kernel, rfl, by decide +kernel, by decide +kernel⟩
theorem sc_law : FnScope ["_law_script", "_law_pen_here", "_law_turn", "_law_size", "_law_rows", "_law_at", "_law_bad", "_law_more", "_law_given", "_law_others", "_law_due", "_law_many", "_law_line", "_law_great", "_law_value", "_law_k"] ["_law_script"] (defScope s_law) := ⟨rfl, rfl, rfl, by decide +kernel, rfl, by decide +kernel, by decide +kernel⟩
abbrev si_InvalidMembers : Stmt := clsDef (topS 3) 0
theorem sci_InvalidMembers : FnScope ["self", "index"] ["self", "index"] (defScope si_InvalidMembers) := ⟨rfl, rfl, rfl, by decide +kernel, rfl, by decide +kernel, by decide +kernel⟩
abbrev si_NotJump : Stmt := clsDef (topS 5) 0
theorem sci_NotJump : FnScope ["self", "x", "y", "step"] ["self", "x", "y", "step"] (defScope si_NotJump) := ⟨rfl, rfl, rfl, by decide +kernel, rfl, by decide +kernel, by decide +kernel⟩
def progFile : Str := PySem.Challenge.pw_jumpsets_k06_members_refused.main.file
class PFile (P : Program) : Prop where
  file : ((P.main.file : Str) == progFile) = true
theorem inst_po : ProgOk PySem.Challenge.pw_jumpsets_k06_members_refused := ⟨by decide +kernel⟩
theorem inst_pf : PFile PySem.Challenge.pw_jumpsets_k06_members_refused := ⟨by unfold progFile; exact beq_self_eq_true _⟩
/-! ### the addresses of the classes -/
structure CA where
  c_InvalidMembers : Addr
  c_InvalidVector : Addr
  c_NotJump : Addr
  c_VectorSet : Addr
  c_JumpSet : Addr
  lc__law_right : Addr
  lP__law_right : Addr
structure TBs (base : Heap) (mg : Str → Option Value) (ca : CA) : Prop where
  tb__law_right : LamX.TabB base mg ca.lc__law_right ca.lP__law_right
structure CaOk (ca : CA) : Prop where
  ne_InvalidMembers_InvalidVector : ca.c_InvalidMembers ≠ ca.c_InvalidVector
  ne_InvalidMembers_NotJump : ca.c_InvalidMembers ≠ ca.c_NotJump
  ne_InvalidVector_InvalidMembers : ca.c_InvalidVector ≠ ca.c_InvalidMembers
  ne_InvalidVector_NotJump : ca.c_InvalidVector ≠ ca.c_NotJump
  ne_NotJump_InvalidMembers : ca.c_NotJump ≠ ca.c_InvalidMembers
  ne_NotJump_InvalidVector : ca.c_NotJump ≠ ca.c_InvalidVector
/-! ### the mirror -/
noncomputable def b__law_pen (ca : CA) : MS :=
(mRet (mDisp (mPsC (mC (.str "cells")) (mCall (g1N gList) (mCons (mSl (mVar 0) mNone (mSome (mC (.int 63)))) mNil)) (mPsC (mC (.str "turn")) (mC (.int 0)) (mPsC (mC (.str "rest")) (mC (.int 0)) mPsN)))))
noncomputable def M__law_pen (ca : CA) : MF := mDef 1 (b__law_pen ca)
noncomputable def b__law_draw (ca : CA) : MS :=
(mSeq
(mIfS (mB (m2 gGt (m2 gSubs (mVar 0) (mC (.str "rest"))) (mC (.int 0))))
(mSeq
(mSet 2 (m2 gMod (mCall (g1N gInt) (mCons (m2 gSubs (mVar 0) (mC (.str "rest"))) mNil)) (mVar 1)))
(mSeq
(mStore (mVar 0) (mC (.str "rest")) (m2 gDiv (m2 gSubs (mVar 0) (mC (.str "rest"))) (mVar 1)))
(mRet (mVar 2))))
mSkip)
(mSeq
(mSet 3 (m2 gSubs (mVar 0) (mC (.str "turn"))))
(mSeq
(mStore (mVar 0) (mC (.str "turn")) (m2 gAdd (mVar 3) (mC (.int 1))))
(mSeq
(mSet 4 (m2 gAdd (m2 gMul (mC (.int 61)) (mVar 3)) (mC (.int 17))))
(mSeq
(mIfS (mB (m2 gNe (m2 gSubs (mVar 0) (mC (.str "cells"))) (mLst mNil)))
(mSet 4 (m2 gSubs (m2 gSubs (mVar 0) (mC (.str "cells"))) (m2 gMod (mCall (g1N gInt) (mCons (mVar 3) mNil)) (mCall (g1N gLen) (mCons (m2 gSubs (mVar 0) (mC (.str "cells"))) mNil)))))
mSkip)
(mSeq
(mIfS (mAnd (mB (m2 gLt (mVar 3) (mCall (g1N gLen) (mCons (m2 gSubs (mVar 0) (mC (.str "cells"))) mNil)))) (mB (m2 gGe (mCall (g1N gAbs) (mCons (mVar 4) mNil)) (m2 gPow (mC (.int 10)) (mC (.int 18))))))
(mSeq
(mStore (mVar 0) (mC (.str "rest")) (m2 gDiv (m2 gSub (mCall (g1N gAbs) (mCons (mVar 4) mNil)) (m2 gPow (mC (.int 10)) (mC (.int 18)))) (mVar 1)))
(mRet (m2 gMod (m2 gSub (mCall (g1N gAbs) (mCons (mVar 4) mNil)) (m2 gPow (mC (.int 10)) (mC (.int 18)))) (mVar 1))))
mSkip)
(mSeq
(mSet 5 (mLst (mCons (mC (.int 2147483629)) (mCons (mC (.int 2147483647)) (mCons (mC (.int 2147483563)) (mCons (mC (.int 2147483587)) (mCons (mC (.int 2147483579)) mNil)))))))
(mSeq
(mSet 6 (m2 gSubs (mVar 5) (m2 gMod (mCall (g1N gInt) (mCons (mVar 3) mNil)) (mC (.int 5)))))
(mSeq
(mSet 7 (m2 gAdd (m2 gMul (m2 gMod (mCall (g1N gInt) (mCons (mVar 4) mNil)) (mC (.int 4294967291))) (mC (.int 48271))) (m2 gMul (m2 gMul (mC (.int 40503)) (mVar 3)) (mVar 3))))
(mSeq
(mSet 7 (m2 gMod (mCall (g1N gInt) (mCons (m2 gAdd (m2 gAdd (mVar 7) (m2 gMul (mC (.int 69621)) (mVar 3))) (mC (.int 11))) mNil)) (mVar 6)))
(mSeq
(mSet 7 (m2 gMod (mCall (g1N gInt) (mCons (m2 gAdd (m2 gAdd (m2 gAdd (m2 gMul (mVar 7) (mVar 7)) (m2 gMul (mC (.int 16807)) (mVar 7))) (m2 gMul (mC (.int 7)) (mVar 3))) (mC (.int 5))) mNil)) (mC (.int 4294967279))))
(mRet (m2 gMod (mCall (g1N gInt) (mCons (m2 gDiv (m2 gMod (mCall (g1N gInt) (mCons (m2 gMul (mVar 7) (m2 gAdd (mVar 7) (mC (.int 39916801)))) mNil)) (mC (.int 4294967231))) (mC (.int 32))) mNil)) (mVar 1))))))))))))))
noncomputable def M__law_draw (ca : CA) : MF := mDef 8 (b__law_draw ca)
noncomputable def b__law_pick (ca : CA) : MS :=
(mRet (m2 gSubs (mVar 1) (mCallF (M__law_draw ca) 2 [] (mCons (mVar 0) (mCons (mCall (g1N gLen) (mCons (mVar 1) mNil)) mNil)))))
noncomputable def M__law_pick (ca : CA) : MF := mDef 2 (b__law_pick ca)
noncomputable def b__law_odd (ca : CA) : MS :=
(mSeq
(mSet 2 (mLst (mCons (mC .non) (mCons (mC (.int 0)) (mCons (mC (.bl true)) (mCons (mC (.str "")) (mCons (mC (.str "0")) (mCons (mTup mNil) (mCons (mLst mNil) (mCons (m2 gMul (mLst (mCons (mC (.int 0)) mNil)) (mVar 1)) (mCons (m2 gMulT (mTup (mCons (mC (.bl true)) mNil)) (mVar 1)) (mCons (m2 gMulT (mTup (mCons (mC (.int 1001)) mNil)) (mVar 1)) (mCons (m2 gMulT (mTup (mCons (mC (.int 0)) mNil)) (m2 gAdd (mVar 1) (mC (.int 1)))) mNil)))))))))))))
(mSeq
(mSet 2 (m2 gAdd (mVar 2) (mLst (mCons (m2 gAdd (m2 gMulZ (mTup (mCons (mC (.int 0)) mNil)) (m2 gSub (mVar 1) (mC (.int 1)))) (mTup (mCons (mCallF (M__law_pick ca) 2 [] (mCons (mVar 0) (mCons (mLst (mCons (mC (.bl true)) (mCons (mC (.int 1001)) (mCons (m1 gNeg (mC (.int 1001))) (mCons (mC .non) mNil))))) mNil))) mNil))) mNil))))
(mRet (mCallF (M__law_pick ca) 2 [] (mCons (mVar 0) (mCons (m2 gAdd (mVar 2) (mLst (mCons (m2 gMulT (mTup (mCons (mC (.str "0")) mNil)) (mVar 1)) (mCons (m2 gMulT (mTup (mCons (mC .non) mNil)) (mVar 1)) (mCons mDnew (mCons (m2 gMulT (mTup (mCons (mTup (mCons (mC (.int 0)) mNil)) mNil)) (mVar 1)) (mCons (m2 gMulT (mTup (mCons (mC (.int 0)) mNil)) (m2 gAdd (m2 gMod (mCall (g1N gInt) (mCons (mVar 1) mNil)) (mC (.int 5))) (mC (.int 1)))) mNil))))))) mNil))))))
noncomputable def M__law_odd (ca : CA) : MF := mDef 3 (b__law_odd ca)
noncomputable def b__law_refused (ca : CA) (f0 : Addr) (T0 : Thk) : MS :=
(mSeq
(mSet 1 (mC .non))
(mTryK ca.c_InvalidMembers 2
(mExpr (mThk f0 T0))
(fun ax dx nx =>
(mSet 1 (mVar 2)))
(fun ax dx nx =>
(mSeq
(mIfS (mOr (mB (m2 gIs (mVar 1) (mC .non))) (mOr (mNot (mTr (mIsX ax dx nx true (mVar 1)))) (mTr (mIsX ax dx nx false (mVar 1)))))
(mRet (mC .non))
mSkip)
(mRet (mCall (g1N gRepr) (mCons (mXf ax dx nx "index" (mVar 1)) mNil)))))
(mSeq
(mIfS (mOr (mB (m2 gIs (mVar 1) (mC .non))) (mOr (mNot (mTr mNo)) (mTr mNo)))
(mRet (mC .non))
mSkip)
(mRet (mCall (g1N gRepr) (mCons mNo mNil))))))
noncomputable def M__law_refused (ca : CA) : MFT := mDefT 3 (b__law_refused ca)
noncomputable def b_is_list (ca : CA) : MS :=
(mRet (m1 (gIsiA [.lst, .tup]) (mVar 0)))
noncomputable def M_is_list (ca : CA) : MF := mDef 1 (b_is_list ca)
noncomputable def b_is_integer (ca : CA) : MS :=
(mRet (mAndV (m1 (gIsi .int) (mVar 0)) (mNotV (m1 (gIsi .bool) (mVar 0)))))
noncomputable def M_is_integer (ca : CA) : MF := mDef 1 (b_is_integer ca)
noncomputable def b_is_between (ca : CA) : MS :=
(mRet (mAndV (mCallF (M_is_integer ca) 1 [] (mCons (mVar 0) mNil)) (mChain gLe gLe (mVar 1) (mVar 0) (mVar 2))))
noncomputable def M_is_between (ca : CA) : MF := mDef 3 (b_is_between ca)
noncomputable def b_fits_vector (ca : CA) : MS :=
(mSeq
(mIfS (mOr (mNot (mTr (m1 (gIsi .tup) (mVar 0)))) (mNot (mB (mChain gLe gLe (mC (.int 1)) (mCall (g1N gLen) (mCons (mVar 0) mNil)) (mC (.int 5))))))
(mRet (mC (.bl false)))
mSkip)
(mRet (mCall (g1N gAll) (mCons (mComp (iSeq (mVar 0)) (pName 1) mYes
(mCallF (M_is_between ca) 3 [] (mCons (mVar 1) (mCons (m1 gNeg (mC (.int 1000))) (mCons (mC (.int 1000)) mNil)))) [1] bigN) mNil))))
noncomputable def M_fits_vector (ca : CA) : MF := mDef 2 (b_fits_vector ca)
noncomputable def b_checked_members (ca : CA) : MS :=
(mSeq
(mIfS (mOr (mNot (mTr (mCallF (M_is_list ca) 1 [] (mCons (mVar 0) mNil)))) (mNot (mB (mChain gLe gLe (mC (.int 1)) (mCall (g1N gLen) (mCons (mVar 0) mNil)) (mC (.int 2000))))))
(mRaise ca.c_InvalidMembers ["index"] (mCons (m1 gNeg (mC (.int 1))) mNil))
mSkip)
(mSeq
(mFor (mIt (mCons (mVar 0) mNil) (enuD 0)) (pTup 2 (pCons (pName 1) (pCons (pName 2) pNil)))
(mIfS (mOr (mNot (mTr (mCallF (M_fits_vector ca) 1 [] (mCons (mVar 2) mNil)))) (mB (m2 gNe (mCall (g1N gLen) (mCons (mVar 2) mNil)) (mCall (g1N gLen) (mCons (m2 gSubs (mVar 0) (mC (.int 0))) mNil)))))
(mRaise ca.c_InvalidMembers ["index"] (mCons (mVar 1) mNil))
mSkip) bigN)
(mSeq
(mSet 3 (mCall (g1N gTuple) (mCons (mSortS (mSetC1 (iSeq (mVar 0)) (pName 2) mYes
(mVar 2) [2] bigN)) mNil)))
(mSeq
(mIfS (mB (m2 gGt (mCall (g1N gLen) (mCons (mVar 3) mNil)) (mC (.int 120))))
(mRaise ca.c_InvalidMembers ["index"] (mCons (m1 gNeg (mC (.int 1))) mNil))
mSkip)
(mRet (mVar 3))))))
noncomputable def M_checked_members (ca : CA) : MF := mDef 4 (b_checked_members ca)
noncomputable def b_VectorSet___init__ (ca : CA) : MS :=
(mSeq
(mSetF [ca.c_VectorSet, ca.c_JumpSet] "kept" (mVar 0) (mCallF (M_checked_members ca) 1 [] (mCons (mVar 1) mNil)))
(mSetF [ca.c_VectorSet, ca.c_JumpSet] "known" (mVar 0) (mDctT (iSeq (m1 (gFld [ca.c_VectorSet, ca.c_JumpSet] "kept") (mVar 0))) (pName 2) mYes
(mVar 2) (mC (.bl true)) [2] bigN)))
noncomputable def M_VectorSet___init__ (ca : CA) : MF := mDef 3 (b_VectorSet___init__ ca)
noncomputable def b_steps_of (ca : CA) : MS :=
(mSeq
(mSet 2 (mLst mNil))
(mSeq
(mFor (mEnu 0 (mIt (mCons (mVar 0) (mCons (mVar 1) mNil)) zip2D)) (pTup 2 (pCons (pName 3) (pCons (pTup 2 (pCons (pName 4) (pCons (pName 5) pNil))) pNil)))
(mIfS (mB (m2 gNe (mVar 4) (mVar 5)))
(mExpr (mMeth "list" gApp (mVar 2) (mCons (mTup (mCons (mVar 3) (mCons (mIf (mB (m2 gLt (mVar 4) (mVar 5))) (mC (.int 1)) (m1 gNeg (mC (.int 1)))) mNil))) mNil)))
mSkip) bigN)
(mRet (mVar 2))))
noncomputable def M_steps_of (ca : CA) : MF := mDef 6 (b_steps_of ca)
noncomputable def b_after (ca : CA) : MS :=
(mSeq
(mAsg (pTup 2 (pCons (pName 2) (pCons (pName 3) pNil))) (mVar 1))
(mRet (mTup (mStar (mSl (mVar 0) mNone (mSome (mVar 2))) (mCons (m2 gAdd (m2 gSubs (mVar 0) (mVar 2)) (mVar 3)) (mStar (mSl (mVar 0) (mSome (m2 gAdd (mVar 2) (mC (.int 1)))) mNone) mNil))))))
noncomputable def M_after (ca : CA) : MF := mDef 4 (b_after ca)
noncomputable def b_is_exchanged (ca : CA) : MS :=
(mSeq
(mSet 4 (mCallF (M_after ca) 2 [] (mCons (mVar 1) (mCons (mVar 3) mNil))))
(mRet (mOrV (m2 gInD (mVar 4) (mVar 0)) (mCall (g1N gAny) (mCons (mComp (iSeq (mCallF (M_steps_of ca) 2 [] (mCons (mVar 4) (mCons (mVar 2) mNil)))) (pName 5) mYes
(m2 gInD (mCallF (M_after ca) 2 [] (mCons (mVar 4) (mCons (mVar 5) mNil))) (mVar 0)) [5] bigN) mNil)))))
noncomputable def M_is_exchanged (ca : CA) : MF := mDef 6 (b_is_exchanged ca)
noncomputable def b_first_failure (ca : CA) : MS :=
(mSeq
(mSet 1 (mDctT (iSeq (mVar 0)) (pName 2) mYes
(mVar 2) (mC (.bl true)) [2] bigN))
(mSeq
(mFor (iSeq (mVar 0)) (pName 2)
(mFor (iSeq (mVar 0)) (pName 3)
(mFor (iSeq (mCallF (M_steps_of ca) 2 [] (mCons (mVar 2) (mCons (mVar 3) mNil)))) (pName 4)
(mIfS (mNot (mTr (mCallF (M_is_exchanged ca) 4 [] (mCons (mVar 1) (mCons (mVar 2) (mCons (mVar 3) (mCons (mVar 4) mNil)))))))
(mRet (mTup (mCons (mVar 2) (mCons (mVar 3) (mCons (mVar 4) mNil)))))
mSkip) bigN) bigN) bigN)
(mRet (mC .non))))
noncomputable def M_first_failure (ca : CA) : MF := mDef 5 (b_first_failure ca)
noncomputable def b_JumpSet___init__ (ca : CA) : MS :=
(mSeq
(mExpr (mSupE [ca.c_JumpSet] (M_VectorSet___init__ ca) 2 (mCons (mVar 1) mNil)))
(mSeq
(mSet 3 (mCallF (M_first_failure ca) 1 [] (mCons (m1 (gFld [ca.c_JumpSet] "kept") (mVar 0)) mNil)))
(mIfS (mB (m2 gIsNot (mVar 3) (mC .non)))
(mSeq
(mAsg (pTup 3 (pCons (pName 4) (pCons (pName 5) (pCons (pName 6) pNil)))) (mVar 3))
(mRaise ca.c_NotJump ["x", "y", "step"] (mCons (mVar 4) (mCons (mVar 5) (mCons (mVar 6) mNil)))))
mSkip)))
noncomputable def M_JumpSet___init__ (ca : CA) : MF := mDef 7 (b_JumpSet___init__ ca)
noncomputable def b_JumpSet_failure (ca : CA) : MS :=
(mRet (mCallF (M_first_failure ca) 1 [] (mCons (mCallF (M_checked_members ca) 1 [] (mCons (mVar 0) mNil)) mNil)))
noncomputable def M_JumpSet_failure (ca : CA) : MF := mDef 1 (b_JumpSet_failure ca)
noncomputable def b__law_right (ca : CA) : MS :=
(mSeq
(mBlkT 0 ca.lP__law_right (("_law_right" : Str) ++ ".<locals>." ++ "<lambda>") 2 (fun ff at0 =>
(mIfS (mB (m2 gNe at0 (mIf (mB (m2 gIs (mVar 1) (mC .non))) (mC .non) (mCall (g1N gRepr) (mCons (mVar 1) mNil)))))
(mRet (mC (.bl false)))
mSkip)) (M__law_refused ca) [(mMake ca.c_VectorSet (M_VectorSet___init__ ca) 2 [] (mCons (mVar 0) mNil)),
(mMake ca.c_JumpSet (M_JumpSet___init__ ca) 2 [] (mCons (mVar 0) mNil)),
(mCallF (M_JumpSet_failure ca) 1 [] (mCons (mVar 0) mNil))])
(mRet (mC (.bl true))))
noncomputable def M__law_right (ca : CA) : MF := mDef 3 (b__law_right ca)
noncomputable def b_law (ca : CA) : MS :=
(mSeq
(mSet 1 (mCallF (M__law_pen ca) 1 [] (mCons (mVar 0) mNil)))
(mSeq
(mFor (iRng1M (mCons (mC (.int 12)) mNil)) (pName 2)
(mSeq
(mSet 3 (m2 gAdd (mC (.int 1)) (mCallF (M__law_draw ca) 2 [] (mCons (mVar 1) (mCons (mC (.int 5)) mNil)))))
(mSeq
(mSet 4 (mComp (iRng1M (mCons (m2 gAdd (mC (.int 1)) (mCallF (M__law_draw ca) 2 [] (mCons (mVar 1) (mCons (mC (.int 9)) mNil)))) mNil)) (pName 15) mYes
(m2 gAdd (mTup (mCons (mVar 15) mNil)) (m2 gMulZ (mTup (mCons (mC (.int 0)) mNil)) (m2 gSub (mVar 3) (mC (.int 1))))) [15] bigN))
(mSeq
(mSet 5 (mCallF (M__law_draw ca) 2 [] (mCons (mVar 1) (mCons (mCall (g1N gLen) (mCons (mVar 4) mNil)) mNil))))
(mSeq
(mSet 6 (mLst (mCons (mCallF (M__law_odd ca) 2 [] (mCons (mVar 1) (mCons (mVar 3) mNil))) (mCons (mCallF (M__law_odd ca) 2 [] (mCons (mVar 1) (mCons (mVar 3) mNil))) mNil))))
(mSeq
(mSet 7 (mSl (mVar 6) (mSome (mC (.int 1))) (mSome (m2 gAdd (mC (.int 1)) (mCallF (M__law_draw ca) 2 [] (mCons (mVar 1) (mCons (mC (.int 2)) mNil)))))))
(mSeq
(mSet 8 (m2 gAdd (m2 gAdd (m2 gAdd (mSl (mVar 4) mNone (mSome (mVar 5))) (mSl (mVar 6) mNone (mSome (mC (.int 1))))) (mSl (mVar 4) (mSome (mVar 5)) mNone)) (mVar 7)))
(mSeq
(mSet 9 (m2 gAdd (mLst (mCons (m2 gMulT (mTup (mCons (mC (.int 0)) mNil)) (m2 gAdd (m2 gMod (mCall (g1N gInt) (mCons (mVar 3) mNil)) (mC (.int 5))) (mC (.int 1)))) mNil)) (m2 gMul (mLst (mCons (m2 gMulT (mTup (mCons (mC (.int 0)) mNil)) (m2 gAdd (mVar 3) (mC (.int 1)))) mNil)) (mCall (g1N gInt) (mCons (m2 gLt (mVar 3) (mC (.int 5))) mNil)))))
(mSeq
(mSet 10 (mIf (mOr (mB (m2 gGt (mVar 5) (mC (.int 0)))) (mB (m2 gNotInT (m2 gSubs (mVar 6) (mC (.int 0))) (mVar 9)))) (mVar 5) (mC (.int 1))))
(mIfS (mOr (mNot (mTr (mCallF (M__law_right ca) 2 [] (mCons (mCallF (M__law_pick ca) 2 [] (mCons (mVar 1) (mCons (mLst (mCons (mVar 8) (mCons (mCall (g1N gTuple) (mCons (mVar 8) mNil)) mNil))) mNil))) (mCons (mVar 10) mNil))))) (mNot (mTr (mCallF (M__law_right ca) 2 [] (mCons (mVar 4) (mCons (mC .non) mNil))))))
(mRet (mC (.bl false)))
mSkip))))))))) bigN)
(mSeq
(mSet 11 (m2 gAdd (mC (.int 119)) (mCallF (M__law_draw ca) 2 [] (mCons (mVar 1) (mCons (mC (.int 4)) mNil)))))
(mSeq
(mSet 12 (mComp (iRng1M (mCons (mVar 11) mNil)) (pName 15) mYes
(mTup (mCons (mVar 15) mNil)) [15] bigN))
(mSeq
(mIfS (mOr (mNot (mTr (mCallF (M__law_right ca) 2 [] (mCons (mVar 12) (mCons (mIf (mB (m2 gLe (mVar 11) (mC (.int 120)))) (mC .non) (m1 gNeg (mC (.int 1)))) mNil))))) (mNot (mTr (mCallF (M__law_right ca) 2 [] (mCons (m2 gAdd (m2 gAdd (mVar 12) (mVar 12)) (mLst (mCons (mC .non) mNil))) (mCons (m2 gMul (mC (.int 2)) (mVar 11)) mNil))))))
(mRet (mC (.bl false)))
mSkip)
(mSeq
(mSet 13 (m2 gAdd (mC (.int 1999)) (mCallF (M__law_draw ca) 2 [] (mCons (mVar 1) (mCons (mC (.int 3)) mNil)))))
(mSeq
(mIfS (mNot (mTr (mCallF (M__law_right ca) 2 [] (mCons (mComp (iRng1M (mCons (mVar 13) mNil)) (pName 15) mYes
(mTup (mCons (m2 gMod (mCall (g1N gInt) (mCons (mVar 15) mNil)) (mC (.int 50))) mNil)) [15] bigN) (mCons (mIf (mB (m2 gLe (mVar 13) (mC (.int 2000)))) (mC .non) (m1 gNeg (mC (.int 1)))) mNil)))))
(mRet (mC (.bl false)))
mSkip)
(mSeq
(mFor (iSeq (mTup (mCons (mC .non) (mCons (mC (.int 0)) (mCons (mC (.bl true)) (mCons (mC (.str "")) (mCons (mC (.str "ab")) (mCons mDnew (mCons (mDisp1T (mTup (mCons (mC (.int 0)) mNil)) (mC (.int 1))) (mCons (mLst mNil) (mCons (mTup mNil) (mCons (mCallF (M__law_pick ca) 2 [] (mCons (mVar 1) (mCons (mLst (mCons (m2 gPow (mC (.int 10)) (mC (.int 20))) (mCons (mC (.str "0 1")) (mCons (mDisp (mPsC (mC (.str "a")) (mC (.int 1)) mPsN)) mNil)))) mNil))) mNil)))))))))))) (pName 14)
(mIfS (mNot (mTr (mCallF (M__law_right ca) 2 [] (mCons (mVar 14) (mCons (m1 gNeg (mC (.int 1))) mNil)))))
(mRet (mC (.bl false)))
mSkip) bigN)
(mRet (mC (.bl true)))))))))))
noncomputable def M_law (ca : CA) : MF := mDef 16 (b_law ca)
/-! ### what the top has written -/
structure Tx (K : PySem.W.Frag) (mg : Str → Option Value) (ca : CA) where
  f__law_pen : Addr
  fd__law_pen : FuncData
  F__law_pen : FunD K "_law_pen" "_law_pen" (defArgs s__law_pen) (defBody s__law_pen) (defScope s__law_pen) [] [] f__law_pen fd__law_pen
  g__law_pen : mg "_law_pen" = some (.ref f__law_pen)
  f__law_draw : Addr
  fd__law_draw : FuncData
  F__law_draw : FunD K "_law_draw" "_law_draw" (defArgs s__law_draw) (defBody s__law_draw) (defScope s__law_draw) [] [] f__law_draw fd__law_draw
  g__law_draw : mg "_law_draw" = some (.ref f__law_draw)
  f__law_pick : Addr
  fd__law_pick : FuncData
  F__law_pick : FunD K "_law_pick" "_law_pick" (defArgs s__law_pick) (defBody s__law_pick) (defScope s__law_pick) [] [] f__law_pick fd__law_pick
  g__law_pick : mg "_law_pick" = some (.ref f__law_pick)
  f__law_odd : Addr
  fd__law_odd : FuncData
  F__law_odd : FunD K "_law_odd" "_law_odd" (defArgs s__law_odd) (defBody s__law_odd) (defScope s__law_odd) [] [] f__law_odd fd__law_odd
  g__law_odd : mg "_law_odd" = some (.ref f__law_odd)
  f__law_refused : Addr
  fd__law_refused : FuncData
  F__law_refused : FunD K "_law_refused" "_law_refused" (defArgs s__law_refused) (defBody s__law_refused) (defScope s__law_refused) [] [] f__law_refused fd__law_refused
  g__law_refused : mg "_law_refused" = some (.ref f__law_refused)
  f_is_list : Addr
  fd_is_list : FuncData
  F_is_list : FunD K "is_list" "is_list" (defArgs s_is_list) (defBody s_is_list) (defScope s_is_list) [] [] f_is_list fd_is_list
  g_is_list : mg "is_list" = some (.ref f_is_list)
  f_is_integer : Addr
  fd_is_integer : FuncData
  F_is_integer : FunD K "is_integer" "is_integer" (defArgs s_is_integer) (defBody s_is_integer) (defScope s_is_integer) [] [] f_is_integer fd_is_integer
  g_is_integer : mg "is_integer" = some (.ref f_is_integer)
  f_is_between : Addr
  fd_is_between : FuncData
  F_is_between : FunD K "is_between" "is_between" (defArgs s_is_between) (defBody s_is_between) (defScope s_is_between) [] [] f_is_between fd_is_between
  g_is_between : mg "is_between" = some (.ref f_is_between)
  f_fits_vector : Addr
  fd_fits_vector : FuncData
  F_fits_vector : FunD K "fits_vector" "fits_vector" (defArgs s_fits_vector) (defBody s_fits_vector) (defScope s_fits_vector) [] [] f_fits_vector fd_fits_vector
  g_fits_vector : mg "fits_vector" = some (.ref f_fits_vector)
  f_checked_members : Addr
  fd_checked_members : FuncData
  F_checked_members : FunD K "checked_members" "checked_members" (defArgs s_checked_members) (defBody s_checked_members) (defScope s_checked_members) [] [] f_checked_members fd_checked_members
  g_checked_members : mg "checked_members" = some (.ref f_checked_members)
  f_VectorSet___init__ : Addr
  fd_VectorSet___init__ : FuncData
  F_VectorSet___init__ : FunD K "__init__" "VectorSet.__init__" (defArgs s_VectorSet___init__) (defBody s_VectorSet___init__) (defScope s_VectorSet___init__) [] [] f_VectorSet___init__ fd_VectorSet___init__
  f_steps_of : Addr
  fd_steps_of : FuncData
  F_steps_of : FunD K "steps_of" "steps_of" (defArgs s_steps_of) (defBody s_steps_of) (defScope s_steps_of) [] [] f_steps_of fd_steps_of
  g_steps_of : mg "steps_of" = some (.ref f_steps_of)
  f_after : Addr
  fd_after : FuncData
  F_after : FunD K "after" "after" (defArgs s_after) (defBody s_after) (defScope s_after) [] [] f_after fd_after
  g_after : mg "after" = some (.ref f_after)
  f_is_exchanged : Addr
  fd_is_exchanged : FuncData
  F_is_exchanged : FunD K "is_exchanged" "is_exchanged" (defArgs s_is_exchanged) (defBody s_is_exchanged) (defScope s_is_exchanged) [] [] f_is_exchanged fd_is_exchanged
  g_is_exchanged : mg "is_exchanged" = some (.ref f_is_exchanged)
  f_first_failure : Addr
  fd_first_failure : FuncData
  F_first_failure : FunD K "first_failure" "first_failure" (defArgs s_first_failure) (defBody s_first_failure) (defScope s_first_failure) [] [] f_first_failure fd_first_failure
  g_first_failure : mg "first_failure" = some (.ref f_first_failure)
  f_JumpSet___init__ : Addr
  fd_JumpSet___init__ : FuncData
  cda_JumpSet___init__ : Addr
  ccl_JumpSet___init__ : Addr
  S_JumpSet___init__ : SupFn K "__init__" "JumpSet.__init__" (defArgs s_JumpSet___init__) (defBody s_JumpSet___init__) (defScope s_JumpSet___init__) f_JumpSet___init__ fd_JumpSet___init__ cda_JumpSet___init__ ccl_JumpSet___init__ ca.c_JumpSet progFile
  so_JumpSet___init__ : ∀ C ∈ [ca.c_JumpSet], SupOk K C ca.c_JumpSet ccl_JumpSet___init__ f_VectorSet___init__
  f_JumpSet_failure : Addr
  fd_JumpSet_failure : FuncData
  F_JumpSet_failure : FunD K "failure" "JumpSet.failure" (defArgs s_JumpSet_failure) (defBody s_JumpSet_failure) (defScope s_JumpSet_failure) [] [] f_JumpSet_failure fd_JumpSet_failure
  f__law_right : Addr
  fd__law_right : FuncData
  F__law_right : FunD K "_law_right" "_law_right" (defArgs s__law_right) (defBody s__law_right) (defScope s__law_right) [] [] f__law_right fd__law_right
  g__law_right : mg "_law_right" = some (.ref f__law_right)
  f_law : Addr
  fd_law : FuncData
  F_law : FunD K "law" "law" (defArgs s_law) (defBody s_law) (defScope s_law) [] [] f_law fd_law
  g_law : mg "law" = some (.ref f_law)
  lk__law_right : ∃ oc od dV kV doc pm an ct osl, fd__law_right = PySem.W.fnOf "_law_right" "_law_right" (defArgs s__law_right) (defBody s__law_right) (defScope s__law_right) dV kV doc pm an (.ref ca.lc__law_right) ct ∧ K.lookup f__law_right = some ⟨oc, od, .func fd__law_right, osl⟩ ∧ PySem.W.codeIn K (.ref ca.lc__law_right) "_law_right" = true
  d_JumpSet___init___2 : List Value
  v_JumpSet___init___2 : Vals [] d_JumpSet___init___2
  b_JumpSet___init___2 : Binds K fd_JumpSet___init__ ["self", "members"] d_JumpSet___init___2
  d_JumpSet_failure_1 : List Value
  v_JumpSet_failure_1 : Vals [] d_JumpSet_failure_1
  b_JumpSet_failure_1 : Binds K fd_JumpSet_failure ["members"] d_JumpSet_failure_1
  d_VectorSet___init___2 : List Value
  v_VectorSet___init___2 : Vals [] d_VectorSet___init___2
  b_VectorSet___init___2 : Binds K fd_VectorSet___init__ ["self", "members"] d_VectorSet___init___2
  d__law_draw_2 : List Value
  v__law_draw_2 : Vals [] d__law_draw_2
  b__law_draw_2 : Binds K fd__law_draw ["_law_pen_here", "_law_size"] d__law_draw_2
  d__law_odd_2 : List Value
  v__law_odd_2 : Vals [] d__law_odd_2
  b__law_odd_2 : Binds K fd__law_odd ["_law_pen_here", "_law_size"] d__law_odd_2
  d__law_pen_1 : List Value
  v__law_pen_1 : Vals [] d__law_pen_1
  b__law_pen_1 : Binds K fd__law_pen ["_law_script"] d__law_pen_1
  d__law_pick_2 : List Value
  v__law_pick_2 : Vals [] d__law_pick_2
  b__law_pick_2 : Binds K fd__law_pick ["_law_pen_here", "_law_options"] d__law_pick_2
  b__law_refused_1 : Binds K fd__law_refused ["_law_call"] []
  d__law_right_2 : List Value
  v__law_right_2 : Vals [] d__law_right_2
  b__law_right_2 : Binds K fd__law_right ["_law_given", "_law_due"] d__law_right_2
  d_after_2 : List Value
  v_after_2 : Vals [] d_after_2
  b_after_2 : Binds K fd_after ["x", "step"] d_after_2
  d_checked_members_1 : List Value
  v_checked_members_1 : Vals [] d_checked_members_1
  b_checked_members_1 : Binds K fd_checked_members ["members"] d_checked_members_1
  d_first_failure_1 : List Value
  v_first_failure_1 : Vals [] d_first_failure_1
  b_first_failure_1 : Binds K fd_first_failure ["kept"] d_first_failure_1
  d_fits_vector_1 : List Value
  v_fits_vector_1 : Vals [] d_fits_vector_1
  b_fits_vector_1 : Binds K fd_fits_vector ["value"] d_fits_vector_1
  d_is_between_3 : List Value
  v_is_between_3 : Vals [] d_is_between_3
  b_is_between_3 : Binds K fd_is_between ["value", "low", "high"] d_is_between_3
  d_is_exchanged_4 : List Value
  v_is_exchanged_4 : Vals [] d_is_exchanged_4
  b_is_exchanged_4 : Binds K fd_is_exchanged ["known", "x", "y", "step"] d_is_exchanged_4
  d_is_integer_1 : List Value
  v_is_integer_1 : Vals [] d_is_integer_1
  b_is_integer_1 : Binds K fd_is_integer ["value"] d_is_integer_1
  d_is_list_1 : List Value
  v_is_list_1 : Vals [] d_is_list_1
  b_is_list_1 : Binds K fd_is_list ["value"] d_is_list_1
  d_steps_of_2 : List Value
  v_steps_of_2 : Vals [] d_steps_of_2
  b_steps_of_2 : Binds K fd_steps_of ["x", "y"] d_steps_of_2
  kb_VectorSet___init___ : Binds K fd_VectorSet___init__ ["self", "members"] []
  b_law : ∀ (s : Shared) (u : Value), BindsTo s fd_law ⟨[u], []⟩ [("_law_script", u)]
  t_MAX_DIMENSION : Tok
  c_MAX_DIMENSION : mg "MAX_DIMENSION" = some (.int 5 t_MAX_DIMENSION)
  t_MAX_ENTRY : Tok
  c_MAX_ENTRY : mg "MAX_ENTRY" = some (.int 1000 t_MAX_ENTRY)
  t_MAX_GIVEN : Tok
  c_MAX_GIVEN : mg "MAX_GIVEN" = some (.int 2000 t_MAX_GIVEN)
  t_MAX_MEMBERS : Tok
  c_MAX_MEMBERS : mg "MAX_MEMBERS" = some (.int 120 t_MAX_MEMBERS)
  e_InvalidMembers : EcOk K "ValueError" "ValueError.__new__" "ValueError.__init__" [.type "ValueError", .type "Exception", .type "BaseException", .type "object"] ca.c_InvalidMembers
  h_InvalidMembers : mg "InvalidMembers" = some (.ref ca.c_InvalidMembers)
  i_InvalidMembers : Addr
  fdi_InvalidMembers : FuncData
  Fi_InvalidMembers : FunD K "__init__" "InvalidMembers.__init__" (defArgs si_InvalidMembers) (defBody si_InvalidMembers) (defScope si_InvalidMembers) [] [] i_InvalidMembers fdi_InvalidMembers
  bi_InvalidMembers : Binds K fdi_InvalidMembers ["self", "index"] []
  iC_InvalidMembers : PySem.W.findIn K (.ref ca.c_InvalidMembers) "__init__" = some (some (.ref i_InvalidMembers))
  tI_InvalidMembers : PySem.W.typeIn K (.ref i_InvalidMembers) = some (.type "function")
  e_InvalidVector : EcOk K "ValueError" "ValueError.__new__" "ValueError.__init__" [.type "ValueError", .type "Exception", .type "BaseException", .type "object"] ca.c_InvalidVector
  h_InvalidVector : mg "InvalidVector" = some (.ref ca.c_InvalidVector)
  e_NotJump : EcOk K "ValueError" "ValueError.__new__" "ValueError.__init__" [.type "ValueError", .type "Exception", .type "BaseException", .type "object"] ca.c_NotJump
  h_NotJump : mg "NotJump" = some (.ref ca.c_NotJump)
  i_NotJump : Addr
  fdi_NotJump : FuncData
  Fi_NotJump : FunD K "__init__" "NotJump.__init__" (defArgs si_NotJump) (defBody si_NotJump) (defScope si_NotJump) [] [] i_NotJump fdi_NotJump
  bi_NotJump : Binds K fdi_NotJump ["self", "x", "y", "step"] []
  iC_NotJump : PySem.W.findIn K (.ref ca.c_NotJump) "__init__" = some (some (.ref i_NotJump))
  tI_NotJump : PySem.W.typeIn K (.ref i_NotJump) = some (.type "function")
  vV_ValueError : PySem.W.findCls K (.type "ValueError") (.type "type") "__init__" = some (.val (.builtin "ValueError.__init__"))
  no_InvalidMembers_index : PySem.W.findIn K (.ref ca.c_InvalidMembers) "index" = some none
  no_NotJump_step : PySem.W.findIn K (.ref ca.c_NotJump) "step" = some none
  no_NotJump_x : PySem.W.findIn K (.ref ca.c_NotJump) "x" = some none
  no_NotJump_y : PySem.W.findIn K (.ref ca.c_NotJump) "y" = some none
  kit_InvalidMembers_InvalidVector : PySem.W.kitOne K (.ref ca.c_InvalidMembers) (.ref ca.c_InvalidVector) = some false
  kit_InvalidMembers_NotJump : PySem.W.kitOne K (.ref ca.c_InvalidMembers) (.ref ca.c_NotJump) = some false
  kit_InvalidMembers_ValueError : PySem.W.kitOne K (.ref ca.c_InvalidMembers) (.type "ValueError") = some true
  h_VectorSet : mg "VectorSet" = some (.ref ca.c_VectorSet)
  ow_VectorSet : OwnOk K ca.c_VectorSet
  mk_VectorSet : Mk K ca.c_VectorSet f_VectorSet___init__
  h_JumpSet : mg "JumpSet" = some (.ref ca.c_JumpSet)
  ow_JumpSet : OwnOk K ca.c_JumpSet
  mk_JumpSet : Mk K ca.c_JumpSet f_JumpSet___init__
  na_c1_kept : ∀ C ∈ [ca.c_JumpSet], NoAttr K C "kept"
  na_c0_kept : ∀ C ∈ [ca.c_VectorSet, ca.c_JumpSet], NoAttr K C "kept"
  na_c0_known : ∀ C ∈ [ca.c_VectorSet, ca.c_JumpSet], NoAttr K C "known"
  sp_JumpSet_failure : Addr
  st_JumpSet_JumpSet_failure : StatOf K ca.c_JumpSet (.type "type") "failure" sp_JumpSet_failure f_JumpSet_failure
  n_ValueError : mg "ValueError" = none
  n_abs : mg "abs" = none
  n_all : mg "all" = none
  n_any : mg "any" = none
  n_bool : mg "bool" = none
  n_enumerate : mg "enumerate" = none
  n_int : mg "int" = none
  n_isinstance : mg "isinstance" = none
  n_len : mg "len" = none
  n_list : mg "list" = none
  n_range : mg "range" = none
  n_repr : mg "repr" = none
  n_sorted : mg "sorted" = none
  n_super : mg "super" = none
  n_tuple : mg "tuple" = none
  n_zip : mg "zip" = none
section
variable {P : Program} {w : World} {K : PySem.W.Frag} {mg : Str → Option Value} {base : Heap} {ca : CA} [po : ProgOk P] [pf : PFile P] [Gh : Ghost]
theorem in_InvalidMembers (T : Tx K mg ca) : FnOk P w K mg base (fun _ _ _ _ _ _ => False) 1 T.i_InvalidMembers T.fdi_InvalidMembers ["self", "index"] (spI ca.c_InvalidMembers ["index"]) :=
  FunD.ok T.Fi_InvalidMembers sci_InvalidMembers (fun vs H Q E h => spI_len (by rfl) h) fun cd A outer s H vs Q E hr h => ⟨_, (pss_cons (ps_expr (pe_bi T.e_InvalidMembers.eb (by show _ = _; kernel_rfl) T.n_ValueError bb_ValueError T.vV_ValueError (pa_cons (pv 0 (by rfl) (by exact .inl (by kernel_rfl))) (pa_cons pe_str pa_nil)))) (pss_one (ps_fl (B := "ValueError") (newId := "ValueError.__new__") (initId := "ValueError.__init__") (bb := [.type "ValueError", .type "Exception", .type "BaseException", .type "object"]) (pv 0 (by rfl) (by exact .inl (by kernel_rfl))) (pv 1 (by rfl) (by exact .inl (by kernel_rfl)))))), rd1 T.e_InvalidMembers T.no_InvalidMembers_index h⟩
theorem in_NotJump (T : Tx K mg ca) : FnOk P w K mg base (fun _ _ _ _ _ _ => False) 1 T.i_NotJump T.fdi_NotJump ["self", "x", "y", "step"] (spI ca.c_NotJump ["x", "y", "step"]) :=
  FunD.ok T.Fi_NotJump sci_NotJump (fun vs H Q E h => spI_len (by rfl) h) fun cd A outer s H vs Q E hr h => ⟨_, (pss_cons (ps_expr (pe_bi T.e_NotJump.eb (by show _ = _; kernel_rfl) T.n_ValueError bb_ValueError T.vV_ValueError (pa_cons (pv 0 (by rfl) (by exact .inl (by kernel_rfl))) (pa_cons pe_str pa_nil)))) (pss_cons (ps_fl (B := "ValueError") (newId := "ValueError.__new__") (initId := "ValueError.__init__") (bb := [.type "ValueError", .type "Exception", .type "BaseException", .type "object"]) (pv 0 (by rfl) (by exact .inl (by kernel_rfl))) (pv 1 (by rfl) (by exact .inl (by kernel_rfl)))) (pss_cons (ps_fl (B := "ValueError") (newId := "ValueError.__new__") (initId := "ValueError.__init__") (bb := [.type "ValueError", .type "Exception", .type "BaseException", .type "object"]) (pv 0 (by rfl) (by exact .inl (by kernel_rfl))) (pv 2 (by rfl) (by exact .inl (by kernel_rfl)))) (pss_one (ps_fl (B := "ValueError") (newId := "ValueError.__new__") (initId := "ValueError.__init__") (bb := [.type "ValueError", .type "Exception", .type "BaseException", .type "object"]) (pv 0 (by rfl) (by exact .inl (by kernel_rfl))) (pv 3 (by rfl) (by exact .inl (by kernel_rfl)))))))), rd3 T.e_NotJump T.no_NotJump_x T.no_NotJump_y T.no_NotJump_step h⟩
theorem fn__law_pen (T : Tx K mg ca) : FnM P w K mg base 1 T.f__law_pen T.fd__law_pen ["_law_script"] (M__law_pen ca) := by
  have nd := sc__law_pen.nd
  refine fnM_of (N := ["_law_script"]) (m := b__law_pen ca) T.F__law_pen sc__law_pen fun cd A outer s H E g own => ?_
  exact
(s_one (s_ret (e_disp (ks := [_, _, _]) (ps_c e_str (e_callT c_list.call (by show _ = _; kernel_rfl) T.n_list bb_list (a_cons (e_slice (e_var (i := 0) (by rfl) (by exact .inl (by kernel_rfl))) p_none (p_some e_int)) a_nil)) (ps_c e_str e_int (ps_c e_str e_int ps_n))))))
theorem fn__law_draw (T : Tx K mg ca) : FnM P w K mg base 1 T.f__law_draw T.fd__law_draw ["_law_pen_here", "_law_size"] (M__law_draw ca) := by
  have nd := sc__law_draw.nd
  refine fnM_of (N := ["_law_pen_here", "_law_size", "_law_digit", "_law_turn", "_law_cell", "_law_primes", "_law_prime", "_law_mixed"]) (m := b__law_draw ca) T.F__law_draw sc__law_draw fun cd A outer s H E g own => ?_
  exact
(s_cons
(s_if (t_cmp o_gt (e_sub g (e_var (i := 0) (by rfl) (by exact .inl (by kernel_rfl))) e_str) e_int (by rfl))
(s_cons
(s_set (i := 2) nd (by rfl) (by exact .inl (by kernel_rfl)) (e_op o_mod (e_callT c_int.call (by show _ = _; kernel_rfl) T.n_int bb_int (a_cons (e_sub g (e_var (i := 0) (by rfl) (by exact .inl (by kernel_rfl))) e_str) a_nil)) (e_var (i := 1) (by rfl) (by exact .inl (by kernel_rfl)))))
(s_cons
(s_store g (e_var (i := 0) (by rfl) (by exact .inl (by kernel_rfl))) e_str (e_op o_div (e_sub g (e_var (i := 0) (by rfl) (by exact .inl (by kernel_rfl))) e_str) (e_var (i := 1) (by rfl) (by exact .inl (by kernel_rfl)))))
(s_one (s_ret (e_var (i := 2) (by rfl) (by exact .inl (by kernel_rfl)))))))
s_nil)
(s_cons
(s_set (i := 3) nd (by rfl) (by exact .inl (by kernel_rfl)) (e_sub g (e_var (i := 0) (by rfl) (by exact .inl (by kernel_rfl))) e_str))
(s_cons
(s_store g (e_var (i := 0) (by rfl) (by exact .inl (by kernel_rfl))) e_str (e_op o_add (e_var (i := 3) (by rfl) (by exact .inl (by kernel_rfl))) e_int))
(s_cons
(s_set (i := 4) nd (by rfl) (by exact .inl (by kernel_rfl)) (e_op o_add (e_op o_mul e_int (e_var (i := 3) (by rfl) (by exact .inl (by kernel_rfl)))) e_int))
(s_cons
(s_if (t_cmp (o_ne g.eq) (e_sub g (e_var (i := 0) (by rfl) (by exact .inl (by kernel_rfl))) e_str) (e_lst a_nil) (by rfl))
(s_one (s_set (i := 4) nd (by rfl) (by exact .inl (by kernel_rfl)) (e_sub g (e_sub g (e_var (i := 0) (by rfl) (by exact .inl (by kernel_rfl))) e_str) (e_op o_mod (e_callT c_int.call (by show _ = _; kernel_rfl) T.n_int bb_int (a_cons (e_var (i := 3) (by rfl) (by exact .inl (by kernel_rfl))) a_nil)) (e_callB c_len.call (by show _ = _; kernel_rfl) T.n_len bb_len (a_cons (e_sub g (e_var (i := 0) (by rfl) (by exact .inl (by kernel_rfl))) e_str) a_nil))))))
s_nil)
(s_cons
(s_if (t_w (w_and (t_cmp o_lt (e_var (i := 3) (by rfl) (by exact .inl (by kernel_rfl))) (e_callB c_len.call (by show _ = _; kernel_rfl) T.n_len bb_len (a_cons (e_sub g (e_var (i := 0) (by rfl) (by exact .inl (by kernel_rfl))) e_str) a_nil)) (by rfl)) (w_and1 (t_cmp o_ge (e_callB c_abs.call (by show _ = _; kernel_rfl) T.n_abs bb_abs (a_cons (e_var (i := 4) (by rfl) (by exact .inl (by kernel_rfl))) a_nil)) (e_op o_pow e_int e_int) (by rfl)))))
(s_cons
(s_store g (e_var (i := 0) (by rfl) (by exact .inl (by kernel_rfl))) e_str (e_op o_div (e_op o_sub (e_callB c_abs.call (by show _ = _; kernel_rfl) T.n_abs bb_abs (a_cons (e_var (i := 4) (by rfl) (by exact .inl (by kernel_rfl))) a_nil)) (e_op o_pow e_int e_int)) (e_var (i := 1) (by rfl) (by exact .inl (by kernel_rfl)))))
(s_one (s_ret (e_op o_mod (e_op o_sub (e_callB c_abs.call (by show _ = _; kernel_rfl) T.n_abs bb_abs (a_cons (e_var (i := 4) (by rfl) (by exact .inl (by kernel_rfl))) a_nil)) (e_op o_pow e_int e_int)) (e_var (i := 1) (by rfl) (by exact .inl (by kernel_rfl)))))))
s_nil)
(s_cons
(s_set (i := 5) nd (by rfl) (by exact .inl (by kernel_rfl)) (e_lst (a_cons e_int (a_cons e_int (a_cons e_int (a_cons e_int (a_cons e_int a_nil)))))))
(s_cons
(s_set (i := 6) nd (by rfl) (by exact .inl (by kernel_rfl)) (e_sub g (e_var (i := 5) (by rfl) (by exact .inl (by kernel_rfl))) (e_op o_mod (e_callT c_int.call (by show _ = _; kernel_rfl) T.n_int bb_int (a_cons (e_var (i := 3) (by rfl) (by exact .inl (by kernel_rfl))) a_nil)) e_int)))
(s_cons
(s_set (i := 7) nd (by rfl) (by exact .inl (by kernel_rfl)) (e_op o_add (e_op o_mul (e_op o_mod (e_callT c_int.call (by show _ = _; kernel_rfl) T.n_int bb_int (a_cons (e_var (i := 4) (by rfl) (by exact .inl (by kernel_rfl))) a_nil)) e_int) e_int) (e_op o_mul (e_op o_mul e_int (e_var (i := 3) (by rfl) (by exact .inl (by kernel_rfl)))) (e_var (i := 3) (by rfl) (by exact .inl (by kernel_rfl))))))
(s_cons
(s_set (i := 7) nd (by rfl) (by exact .inl (by kernel_rfl)) (e_op o_mod (e_callT c_int.call (by show _ = _; kernel_rfl) T.n_int bb_int (a_cons (e_op o_add (e_op o_add (e_var (i := 7) (by rfl) (by exact .inl (by kernel_rfl))) (e_op o_mul e_int (e_var (i := 3) (by rfl) (by exact .inl (by kernel_rfl))))) e_int) a_nil)) (e_var (i := 6) (by rfl) (by exact .inl (by kernel_rfl)))))
(s_cons
(s_set (i := 7) nd (by rfl) (by exact .inl (by kernel_rfl)) (e_op o_mod (e_callT c_int.call (by show _ = _; kernel_rfl) T.n_int bb_int (a_cons (e_op o_add (e_op o_add (e_op o_add (e_op o_mul (e_var (i := 7) (by rfl) (by exact .inl (by kernel_rfl))) (e_var (i := 7) (by rfl) (by exact .inl (by kernel_rfl)))) (e_op o_mul e_int (e_var (i := 7) (by rfl) (by exact .inl (by kernel_rfl))))) (e_op o_mul e_int (e_var (i := 3) (by rfl) (by exact .inl (by kernel_rfl))))) e_int) a_nil)) e_int))
(s_one (s_ret (e_op o_mod (e_callT c_int.call (by show _ = _; kernel_rfl) T.n_int bb_int (a_cons (e_op o_div (e_op o_mod (e_callT c_int.call (by show _ = _; kernel_rfl) T.n_int bb_int (a_cons (e_op o_mul (e_var (i := 7) (by rfl) (by exact .inl (by kernel_rfl))) (e_op o_add (e_var (i := 7) (by rfl) (by exact .inl (by kernel_rfl))) e_int)) a_nil)) e_int) e_int) a_nil)) (e_var (i := 1) (by rfl) (by exact .inl (by kernel_rfl)))))))))))))))))
theorem fn__law_pick (T : Tx K mg ca) : FnM P w K mg base 2 T.f__law_pick T.fd__law_pick ["_law_pen_here", "_law_options"] (M__law_pick ca) := by
  have nd := sc__law_pick.nd
  refine fnM_of (N := ["_law_pen_here", "_law_options"]) (m := b__law_pick ca) T.F__law_pick sc__law_pick fun cd A outer s H E g own => ?_
  exact
(s_one (s_ret (e_sub g (e_var (i := 1) (by rfl) (by exact .inl (by kernel_rfl))) (e_call (dds := []) ((fn__law_draw (P := P) T).mono (by decide)) g (by show _ = _; kernel_rfl) T.g__law_draw T.F__law_draw.kp T.b__law_draw_2 T.v__law_draw_2 (fun _ _ => rfl) (a_cons (e_var (i := 0) (by rfl) (by exact .inl (by kernel_rfl))) (a_cons (e_callB c_len.call (by show _ = _; kernel_rfl) T.n_len bb_len (a_cons (e_var (i := 1) (by rfl) (by exact .inl (by kernel_rfl))) a_nil)) a_nil))))))
theorem fn__law_odd (T : Tx K mg ca) : FnM P w K mg base 3 T.f__law_odd T.fd__law_odd ["_law_pen_here", "_law_size"] (M__law_odd ca) := by
  have nd := sc__law_odd.nd
  refine fnM_of (N := ["_law_pen_here", "_law_size", "_law_some"]) (m := b__law_odd ca) T.F__law_odd sc__law_odd fun cd A outer s H E g own => ?_
  exact
(s_cons
(s_set (i := 2) nd (by rfl) (by exact .inl (by kernel_rfl)) (e_lst (a_cons e_non (a_cons e_int (a_cons e_bl (a_cons e_str (a_cons e_str (a_cons (e_tup a_nil) (a_cons (e_lst a_nil) (a_cons (e_op o_mul (e_lst (a_cons e_int a_nil)) (e_var (i := 1) (by rfl) (by exact .inl (by kernel_rfl)))) (a_cons (e_op o_mulT (e_tup (a_cons e_bl a_nil)) (e_var (i := 1) (by rfl) (by exact .inl (by kernel_rfl)))) (a_cons (e_op o_mulT (e_tup (a_cons e_int a_nil)) (e_var (i := 1) (by rfl) (by exact .inl (by kernel_rfl)))) (a_cons (e_op o_mulT (e_tup (a_cons e_int a_nil)) (e_op o_add (e_var (i := 1) (by rfl) (by exact .inl (by kernel_rfl))) e_int)) a_nil)))))))))))))
(s_cons
(s_set (i := 2) nd (by rfl) (by exact .inl (by kernel_rfl)) (e_op o_add (e_var (i := 2) (by rfl) (by exact .inl (by kernel_rfl))) (e_lst (a_cons (e_op o_add (e_op o_mulZ (e_tup (a_cons e_int a_nil)) (e_op o_sub (e_var (i := 1) (by rfl) (by exact .inl (by kernel_rfl))) e_int)) (e_tup (a_cons (e_call (dds := []) ((fn__law_pick (P := P) T).mono (by decide)) g (by show _ = _; kernel_rfl) T.g__law_pick T.F__law_pick.kp T.b__law_pick_2 T.v__law_pick_2 (fun _ _ => rfl) (a_cons (e_var (i := 0) (by rfl) (by exact .inl (by kernel_rfl))) (a_cons (e_lst (a_cons e_bl (a_cons e_int (a_cons (e_un o_neg e_int) (a_cons e_non a_nil))))) a_nil))) a_nil))) a_nil))))
(s_one (s_ret (e_call (dds := []) ((fn__law_pick (P := P) T).mono (by decide)) g (by show _ = _; kernel_rfl) T.g__law_pick T.F__law_pick.kp T.b__law_pick_2 T.v__law_pick_2 (fun _ _ => rfl) (a_cons (e_var (i := 0) (by rfl) (by exact .inl (by kernel_rfl))) (a_cons (e_op o_add (e_var (i := 2) (by rfl) (by exact .inl (by kernel_rfl))) (e_lst (a_cons (e_op o_mulT (e_tup (a_cons e_str a_nil)) (e_var (i := 1) (by rfl) (by exact .inl (by kernel_rfl)))) (a_cons (e_op o_mulT (e_tup (a_cons e_non a_nil)) (e_var (i := 1) (by rfl) (by exact .inl (by kernel_rfl)))) (a_cons e_dnew (a_cons (e_op o_mulT (e_tup (a_cons (e_tup (a_cons e_int a_nil)) a_nil)) (e_var (i := 1) (by rfl) (by exact .inl (by kernel_rfl)))) (a_cons (e_op o_mulT (e_tup (a_cons e_int a_nil)) (e_op o_add (e_op o_mod (e_callT c_int.call (by show _ = _; kernel_rfl) T.n_int bb_int (a_cons (e_var (i := 1) (by rfl) (by exact .inl (by kernel_rfl))) a_nil)) e_int) e_int)) a_nil))))))) a_nil)))))))
theorem fn__law_refused (T : Tx K mg ca) : FnT P w K mg base 0 T.f__law_refused "_law_refused" (defBody s__law_refused) (defScope s__law_refused) ["_law_call", "_law_kept", "e"] "_law_call" (b__law_refused ca) := by
  have nd := sc__law_refused.nd
  refine ⟨fun Gh2 cd A outer s H E f0 T0 g own act => ?_⟩
  exact
(s_cons
(s_set (i := 1) nd (by rfl) (by exact .inl (by kernel_rfl)) e_non)
(s_tryK rfl rfl nd T.e_InvalidMembers (by show _ = _; kernel_rfl) T.h_InvalidMembers (by rfl) (by show _ = _; kernel_rfl) (fun pn xe own =>
(s_one (s_expr (act pn xe _ _))))
(fun ax dx nx oe od pn hz hf hd =>
(s_one (s_set (i := 1) nd (by rfl) (by exact .inl (by kernel_rfl)) (e_var (i := 2) (by rfl) (by exact .inl (by kernel_rfl))))))
(fun ax dx nx oe od hz hf hd =>
(s_cons
(s_if (t_w (w_or (t_cmp o_is (e_var (i := 1) (by rfl) (by exact .inl (by kernel_rfl))) e_non (by rfl)) (w_or (t_not (t_tru (e_isXP T.e_InvalidMembers hz hf hd (by show _ = _; kernel_rfl) T.n_isinstance bb_isinstance (e_var (i := 1) (by rfl) (by exact .inl (by kernel_rfl))) (pe_bltn (v := .ty "ValueError") (by show _ = _; kernel_rfl) T.n_ValueError bb_ValueError rfl) (fun _ h => h) T.kit_InvalidMembers_ValueError))) (w_or1 (t_tru (e_isX2P T.e_InvalidMembers hz hf hd (by show _ = _; kernel_rfl) T.n_isinstance bb_isinstance (e_var (i := 1) (by rfl) (by exact .inl (by kernel_rfl))) (pe_glob (v := .ref ca.c_InvalidVector) (by show _ = _; kernel_rfl) T.h_InvalidVector rfl) (pe_glob (v := .ref ca.c_NotJump) (by show _ = _; kernel_rfl) T.h_NotJump rfl) (.own _) (.own _) (kitAny_cons T.kit_InvalidMembers_InvalidVector (fun _ => (kitAny_cons T.kit_InvalidMembers_NotJump (fun _ => kitAny_nil) (fun z => nomatch z))) (fun z => nomatch z))))))))
(s_one (s_ret e_non))
s_nil)
(s_one (s_ret (e_callB (c_repr (Gd.pin g)).call (by show _ = _; kernel_rfl) T.n_repr bb_repr (a_cons (e_xfP T.e_InvalidMembers T.no_InvalidMembers_index hz hf hd (e_var (i := 1) (by rfl) (by exact .inl (by kernel_rfl)))) a_nil))))))
(s_cons
(s_if (t_w (w_or (t_cmp o_is (e_var (i := 1) (by rfl) (by exact .inl (by kernel_rfl))) e_non (by rfl)) (w_or (t_not (t_tru e_no)) (w_or1 (t_tru e_no)))))
(s_one (s_ret e_non))
s_nil)
(s_one (s_ret (e_callB (c_repr g).call (by show _ = _; kernel_rfl) T.n_repr bb_repr (a_cons e_no a_nil)))))))
theorem fn_is_list (T : Tx K mg ca) : FnM P w K mg base 1 T.f_is_list T.fd_is_list ["value"] (M_is_list ca) := by
  have nd := sc_is_list.nd
  refine fnM_of (N := ["value"]) (m := b_is_list ca) T.F_is_list sc_is_list fun cd A outer s H E g own => ?_
  exact
(s_one (s_ret (e_isi2 .lst .tup (by show _ = _; kernel_rfl) T.n_isinstance bb_isinstance (by show _ = _; kernel_rfl) T.n_list bb_list (by show _ = _; kernel_rfl) T.n_tuple bb_tuple (e_var (i := 0) (by rfl) (by exact .inl (by kernel_rfl))))))
theorem fn_is_integer (T : Tx K mg ca) : FnM P w K mg base 1 T.f_is_integer T.fd_is_integer ["value"] (M_is_integer ca) := by
  have nd := sc_is_integer.nd
  refine fnM_of (N := ["value"]) (m := b_is_integer ca) T.F_is_integer sc_is_integer fun cd A outer s H E g own => ?_
  exact
(s_one (s_ret (e_and (e_isi .int (by show _ = _; kernel_rfl) T.n_isinstance bb_isinstance (by show _ = _; kernel_rfl) T.n_int bb_int (e_var (i := 0) (by rfl) (by exact .inl (by kernel_rfl)))) (e_one (e_not (e_isi .bool (by show _ = _; kernel_rfl) T.n_isinstance bb_isinstance (by show _ = _; kernel_rfl) T.n_bool bb_bool (e_var (i := 0) (by rfl) (by exact .inl (by kernel_rfl)))))))))
theorem fn_is_between (T : Tx K mg ca) : FnM P w K mg base 2 T.f_is_between T.fd_is_between ["value", "low", "high"] (M_is_between ca) := by
  have nd := sc_is_between.nd
  refine fnM_of (N := ["value", "low", "high"]) (m := b_is_between ca) T.F_is_between sc_is_between fun cd A outer s H E g own => ?_
  exact
(s_one (s_ret (e_and (e_call (dds := []) ((fn_is_integer (P := P) T).mono (by decide)) g (by show _ = _; kernel_rfl) T.g_is_integer T.F_is_integer.kp T.b_is_integer_1 T.v_is_integer_1 (fun _ _ => rfl) (a_cons (e_var (i := 0) (by rfl) (by exact .inl (by kernel_rfl))) a_nil)) (e_one (e_chain o_le o_le (e_var (i := 1) (by rfl) (by exact .inl (by kernel_rfl))) (e_var (i := 0) (by rfl) (by exact .inl (by kernel_rfl))) (e_var (i := 2) (by rfl) (by exact .inl (by kernel_rfl))))))))
theorem fn_fits_vector (T : Tx K mg ca) : FnM P w K mg base 3 T.f_fits_vector T.fd_fits_vector ["value"] (M_fits_vector ca) := by
  have nd := sc_fits_vector.nd
  refine fnM_of (N := ["value", "entry"]) (m := b_fits_vector ca) T.F_fits_vector sc_fits_vector fun cd A outer s H E g own => ?_
  exact
(s_cons
(s_if (t_w (w_or (t_not (t_tru (e_isi .tup (by show _ = _; kernel_rfl) T.n_isinstance bb_isinstance (by show _ = _; kernel_rfl) T.n_tuple bb_tuple (e_var (i := 0) (by rfl) (by exact .inl (by kernel_rfl)))))) (w_or1 (t_not (t_chain o_le o_le e_int (e_callB c_len.call (by show _ = _; kernel_rfl) T.n_len bb_len (a_cons (e_var (i := 0) (by rfl) (by exact .inl (by kernel_rfl))) a_nil)) (e_glob (d := .int 5) (v := .int 5) (by show _ = _; kernel_rfl) T.c_MAX_DIMENSION ⟨_, rfl⟩ (fun _ _ => rfl)))))))
(s_one (s_ret e_bl))
s_nil)
(s_one (s_ret (e_callB (c_all g).call (by show _ = _; kernel_rfl) T.n_all bb_all (a_cons (e_comp (ow := [("entry", 1)]) bigN rfl nd (i_seq (e_var (i := 0) (by rfl) (by exact .inl (by kernel_rfl)))) (blkOk_by (by kernel_rfl)) (fun _ _ _ _ _ => (g_name (i := 1) nd (by rfl) (by exact .inl (by kernel_rfl)) (hf := by exact .inr (by kernel_rfl)))) (fun _ _ _ _ _ => f_nil) (fun _ _ _ _ _ => (e_call (dds := []) ((fn_is_between (P := P) T).mono (by decide)) (Gd.blk g) (by show _ = _; kernel_rfl) T.g_is_between T.F_is_between.kp T.b_is_between_3 T.v_is_between_3 (fun _ _ => rfl) (a_cons (e_var (i := 1) (by rfl) (by exact .inl (by kernel_rfl))) (a_cons (e_un o_neg (e_glob (d := .int 1000) (v := .int 1000) (by show _ = _; kernel_rfl) T.c_MAX_ENTRY ⟨_, rfl⟩ (fun _ _ => rfl))) (a_cons (e_glob (d := .int 1000) (v := .int 1000) (by show _ = _; kernel_rfl) T.c_MAX_ENTRY ⟨_, rfl⟩ (fun _ _ => rfl)) a_nil)))))) a_nil)))))
theorem fn_checked_members (T : Tx K mg ca) : FnM P w K mg base 4 T.f_checked_members T.fd_checked_members ["members"] (M_checked_members ca) := by
  have nd := sc_checked_members.nd
  refine fnM_of (N := ["members", "index", "x", "kept"]) (m := b_checked_members ca) T.F_checked_members sc_checked_members fun cd A outer s H E g own => ?_
  exact
(s_cons
(s_if (t_w (w_or (t_not (t_tru (e_call (dds := []) ((fn_is_list (P := P) T).mono (by decide)) g (by show _ = _; kernel_rfl) T.g_is_list T.F_is_list.kp T.b_is_list_1 T.v_is_list_1 (fun _ _ => rfl) (a_cons (e_var (i := 0) (by rfl) (by exact .inl (by kernel_rfl))) a_nil)))) (w_or1 (t_not (t_chain o_le o_le e_int (e_callB c_len.call (by show _ = _; kernel_rfl) T.n_len bb_len (a_cons (e_var (i := 0) (by rfl) (by exact .inl (by kernel_rfl))) a_nil)) (e_glob (d := .int 2000) (v := .int 2000) (by show _ = _; kernel_rfl) T.c_MAX_GIVEN ⟨_, rfl⟩ (fun _ _ => rfl)))))))
(s_one (s_raise T.e_InvalidMembers T.iC_InvalidMembers T.tI_InvalidMembers (in_InvalidMembers (P := P) T) (g.mono (by decide)) T.bi_InvalidMembers (by show _ = _; kernel_rfl) T.h_InvalidMembers (a_cons (e_un o_neg e_int) a_nil) (by simp)))
s_nil)
(s_cons
(s_for (own := [1, 2]) bigN own rfl (i_enum (by show _ = _; kernel_rfl) T.n_enumerate (a_cons (e_var (i := 0) (by rfl) (by exact .inl (by kernel_rfl))) a_nil)) (g_tup rfl (gs_cons (g_name (i := 1) nd (by rfl) (by exact .inl (by kernel_rfl))) (gs_cons (g_name (i := 2) nd (by rfl) (by exact .inl (by kernel_rfl))) gs_nil)))
(s_one (s_if (t_w (w_or (t_not (t_tru (e_call (dds := []) ((fn_fits_vector (P := P) T).mono (by decide)) g (by show _ = _; kernel_rfl) T.g_fits_vector T.F_fits_vector.kp T.b_fits_vector_1 T.v_fits_vector_1 (fun _ _ => rfl) (a_cons (e_var (i := 2) (by rfl) (by exact .inl (by kernel_rfl))) a_nil)))) (w_or1 (t_cmp (o_ne g.eq) (e_callB c_len.call (by show _ = _; kernel_rfl) T.n_len bb_len (a_cons (e_var (i := 2) (by rfl) (by exact .inl (by kernel_rfl))) a_nil)) (e_callB c_len.call (by show _ = _; kernel_rfl) T.n_len bb_len (a_cons (e_sub g (e_var (i := 0) (by rfl) (by exact .inl (by kernel_rfl))) e_int) a_nil)) (by rfl)))))
(s_one (s_raise T.e_InvalidMembers T.iC_InvalidMembers T.tI_InvalidMembers (in_InvalidMembers (P := P) T) (g.mono (by decide)) T.bi_InvalidMembers (by show _ = _; kernel_rfl) T.h_InvalidMembers (a_cons (e_var (i := 1) (by rfl) (by exact .inl (by kernel_rfl))) a_nil) (by simp)))
s_nil)))
(s_cons
(s_set (i := 3) nd (by rfl) (by exact .inl (by kernel_rfl)) (e_callT c_tuple.call (by show _ = _; kernel_rfl) T.n_tuple bb_tuple (a_cons (e_sortS g (by show _ = _; kernel_rfl) T.n_sorted bb_sorted (st_setC (ow := [("x", 2)]) bigN g nd (i_seq (e_var (i := 0) (by rfl) (by exact .inl (by kernel_rfl)))) (blkOk_by (by kernel_rfl)) (fun _ _ _ _ _ => (g_name (i := 2) nd (by rfl) (by exact .inl (by kernel_rfl)) (hf := by exact .inr (by kernel_rfl)))) (fun _ _ _ _ _ => f_nil) (fun _ _ _ _ _ => (e_var (i := 2) (by rfl) (by exact .inl (by kernel_rfl)))))) a_nil)))
(s_cons
(s_if (t_cmp o_gt (e_callB c_len.call (by show _ = _; kernel_rfl) T.n_len bb_len (a_cons (e_var (i := 3) (by rfl) (by exact .inl (by kernel_rfl))) a_nil)) (e_glob (d := .int 120) (v := .int 120) (by show _ = _; kernel_rfl) T.c_MAX_MEMBERS ⟨_, rfl⟩ (fun _ _ => rfl)) (by rfl))
(s_one (s_raise T.e_InvalidMembers T.iC_InvalidMembers T.tI_InvalidMembers (in_InvalidMembers (P := P) T) (g.mono (by decide)) T.bi_InvalidMembers (by show _ = _; kernel_rfl) T.h_InvalidMembers (a_cons (e_un o_neg e_int) a_nil) (by simp)))
s_nil)
(s_one (s_ret (e_var (i := 3) (by rfl) (by exact .inl (by kernel_rfl)))))))))
theorem fn_VectorSet___init__ (T : Tx K mg ca) : FnM P w K mg base 5 T.f_VectorSet___init__ T.fd_VectorSet___init__ ["self", "members"] (M_VectorSet___init__ ca) := by
  have nd := sc_VectorSet___init__.nd
  refine fnM_of (N := ["self", "members", "x"]) (m := b_VectorSet___init__ ca) T.F_VectorSet___init__ sc_VectorSet___init__ fun cd A outer s H E g own => ?_
  exact
(s_cons
(s_setF (Cs := [ca.c_VectorSet, ca.c_JumpSet]) T.na_c0_kept (e_var (i := 0) (by rfl) (by exact .inl (by kernel_rfl))) (e_call (dds := []) ((fn_checked_members (P := P) T).mono (by decide)) g (by show _ = _; kernel_rfl) T.g_checked_members T.F_checked_members.kp T.b_checked_members_1 T.v_checked_members_1 (fun _ _ => rfl) (a_cons (e_var (i := 1) (by rfl) (by exact .inl (by kernel_rfl))) a_nil)))
(s_one (s_setF (Cs := [ca.c_VectorSet, ca.c_JumpSet]) T.na_c0_known (e_var (i := 0) (by rfl) (by exact .inl (by kernel_rfl))) (e_dctT (ow := [("x", 2)]) bigN g nd (i_seq (e_fld (Cs := [ca.c_VectorSet, ca.c_JumpSet]) T.na_c0_kept (e_var (i := 0) (by rfl) (by exact .inl (by kernel_rfl))))) (blkOk_by (by kernel_rfl)) (fun _ _ _ _ _ => (g_name (i := 2) nd (by rfl) (by exact .inl (by kernel_rfl)) (hf := by exact .inr (by kernel_rfl)))) (fun _ _ _ _ _ => f_nil) (fun _ _ _ _ _ => (e_var (i := 2) (by rfl) (by exact .inl (by kernel_rfl)))) (fun _ _ _ _ _ => e_bl)))))
theorem fn_steps_of (T : Tx K mg ca) : FnM P w K mg base 1 T.f_steps_of T.fd_steps_of ["x", "y"] (M_steps_of ca) := by
  have nd := sc_steps_of.nd
  refine fnM_of (N := ["x", "y", "found", "index", "one", "other"]) (m := b_steps_of ca) T.F_steps_of sc_steps_of fun cd A outer s H E g own => ?_
  exact
(s_cons
(s_set (i := 2) nd (by rfl) (by exact .inl (by kernel_rfl)) (e_lst a_nil))
(s_cons
(s_for (own := [3, 4, 5]) bigN own rfl (i_enumz (by show _ = _; kernel_rfl) T.n_enumerate (z_zip2 (by show _ = _; kernel_rfl) T.n_zip (a_cons (e_var (i := 0) (by rfl) (by exact .inl (by kernel_rfl))) (a_cons (e_var (i := 1) (by rfl) (by exact .inl (by kernel_rfl))) a_nil)))) (g_tup rfl (gs_cons (g_name (i := 3) nd (by rfl) (by exact .inl (by kernel_rfl))) (gs_cons (g_tup rfl (gs_cons (g_name (i := 4) nd (by rfl) (by exact .inl (by kernel_rfl))) (gs_cons (g_name (i := 5) nd (by rfl) (by exact .inl (by kernel_rfl))) gs_nil))) gs_nil)))
(s_one (s_if (t_cmp (o_ne g.eq) (e_var (i := 4) (by rfl) (by exact .inl (by kernel_rfl))) (e_var (i := 5) (by rfl) (by exact .inl (by kernel_rfl))) (by rfl))
(s_one (s_expr (e_meth m_append PySem.F.plainAttrs_list PySem.F.slot_list_append PySem.F.type_list_append (e_var (i := 2) (by rfl) (by exact .inl (by kernel_rfl))) (a_cons (e_tup (a_cons (e_var (i := 3) (by rfl) (by exact .inl (by kernel_rfl))) (a_cons (e_if (t_cmp o_lt (e_var (i := 4) (by rfl) (by exact .inl (by kernel_rfl))) (e_var (i := 5) (by rfl) (by exact .inl (by kernel_rfl))) (by rfl)) e_int (e_un o_neg e_int)) a_nil))) a_nil))))
s_nil)))
(s_one (s_ret (e_var (i := 2) (by rfl) (by exact .inl (by kernel_rfl)))))))
theorem fn_after (T : Tx K mg ca) : FnM P w K mg base 1 T.f_after T.fd_after ["x", "step"] (M_after ca) := by
  have nd := sc_after.nd
  refine fnM_of (N := ["x", "step", "index", "sign"]) (m := b_after ca) T.F_after sc_after fun cd A outer s H E g own => ?_
  exact
(s_cons
(s_asg (own := [2, 3]) (e_var (i := 1) (by rfl) (by exact .inl (by kernel_rfl))) (g_tup rfl (gs_cons (g_name (i := 2) nd (by rfl) (by exact .inl (by kernel_rfl))) (gs_cons (g_name (i := 3) nd (by rfl) (by exact .inl (by kernel_rfl))) gs_nil))))
(s_one (s_ret (e_tup (a_star (e_slice (e_var (i := 0) (by rfl) (by exact .inl (by kernel_rfl))) p_none (p_some (e_var (i := 2) (by rfl) (by exact .inl (by kernel_rfl))))) (a_cons (e_op o_add (e_sub g (e_var (i := 0) (by rfl) (by exact .inl (by kernel_rfl))) (e_var (i := 2) (by rfl) (by exact .inl (by kernel_rfl)))) (e_var (i := 3) (by rfl) (by exact .inl (by kernel_rfl)))) (a_star (e_slice (e_var (i := 0) (by rfl) (by exact .inl (by kernel_rfl))) (p_some (e_op o_add (e_var (i := 2) (by rfl) (by exact .inl (by kernel_rfl))) e_int)) p_none) a_nil)))))))
theorem fn_is_exchanged (T : Tx K mg ca) : FnM P w K mg base 2 T.f_is_exchanged T.fd_is_exchanged ["known", "x", "y", "step"] (M_is_exchanged ca) := by
  have nd := sc_is_exchanged.nd
  refine fnM_of (N := ["known", "x", "y", "step", "one", "further"]) (m := b_is_exchanged ca) T.F_is_exchanged sc_is_exchanged fun cd A outer s H E g own => ?_
  exact
(s_cons
(s_set (i := 4) nd (by rfl) (by exact .inr (by kernel_rfl)) (e_call (dds := []) ((fn_after (P := P) T).mono (by decide)) g (by show _ = _; kernel_rfl) T.g_after T.F_after.kp T.b_after_2 T.v_after_2 (fun _ _ => rfl) (a_cons (e_var (i := 1) (by rfl) (by exact .inl (by kernel_rfl))) (a_cons (e_var (i := 3) (by rfl) (by exact .inl (by kernel_rfl))) a_nil))))
(s_one (s_ret (e_or (e_cmp (o_inD g.in_) (e_var (i := 4) (by rfl) (by exact .inr (.inl (by kernel_rfl)))) (e_var (i := 0) (by rfl) (by exact .inr (.inl (by kernel_rfl)))) (by rfl)) (e_one (e_callB (c_any g).call (by show _ = _; kernel_rfl) T.n_any bb_any (a_cons (e_comp (ow := [("further", 5)]) bigN rfl nd (i_seq (e_call (dds := []) ((fn_steps_of (P := P) T).mono (by decide)) g (by show _ = _; kernel_rfl) T.g_steps_of T.F_steps_of.kp T.b_steps_of_2 T.v_steps_of_2 (fun _ _ => rfl) (a_cons (e_var (i := 4) (by rfl) (by exact .inr (.inl (by kernel_rfl)))) (a_cons (e_var (i := 2) (by rfl) (by exact .inl (by kernel_rfl))) a_nil)))) (blkOk_by (by kernel_rfl)) (fun _ _ _ _ _ => (g_name (i := 5) nd (by rfl) (by exact .inl (by kernel_rfl)) (hf := by exact .inr (by kernel_rfl)))) (fun _ _ _ _ _ => f_nil) (fun _ _ _ _ _ => (e_cmp (o_inD (Gd.blk g).in_) (e_call (dds := []) ((fn_after (P := P) T).mono (by decide)) (Gd.blk g) (by show _ = _; kernel_rfl) T.g_after T.F_after.kp T.b_after_2 T.v_after_2 (fun _ _ => rfl) (a_cons (e_var (i := 4) (by rfl) (by exact .inr (.inl (by kernel_rfl)))) (a_cons (e_var (i := 5) (by rfl) (by exact .inl (by kernel_rfl))) a_nil))) (e_var (i := 0) (by rfl) (by exact .inr (.inl (by kernel_rfl)))) (by rfl)))) a_nil)))))))
theorem fn_first_failure (T : Tx K mg ca) : FnM P w K mg base 3 T.f_first_failure T.fd_first_failure ["kept"] (M_first_failure ca) := by
  have nd := sc_first_failure.nd
  refine fnM_of (N := ["kept", "known", "x", "y", "step"]) (m := b_first_failure ca) T.F_first_failure sc_first_failure fun cd A outer s H E g own => ?_
  exact
(s_cons
(s_setD (i := 1) (ow := [("x", 2)]) bigN g nd (by rfl) (by rfl) (by rfl) (i_seq (e_var (i := 0) (by rfl) (by exact .inl (by kernel_rfl)))) (blkOk_by (by kernel_rfl)) (fun _ _ _ _ _ => (g_name (i := 2) nd (by rfl) (by exact .inl (by kernel_rfl)) (hf := by exact .inr (by kernel_rfl)))) (fun _ _ _ _ _ => f_nil) (fun _ _ _ _ _ => (e_var (i := 2) (by rfl) (by exact .inl (by kernel_rfl)))) (fun _ _ _ _ _ => e_bl))
(s_cons
(s_for (own := [2]) bigN own rfl (i_seq (e_var (i := 0) (by rfl) (by exact .inl (by kernel_rfl)))) (g_name (i := 2) nd (by rfl) (by exact .inl (by kernel_rfl)))
(s_one (s_for (own := [3]) bigN own rfl (i_seq (e_var (i := 0) (by rfl) (by exact .inl (by kernel_rfl)))) (g_name (i := 3) nd (by rfl) (by exact .inl (by kernel_rfl)))
(s_one (s_for (own := [4]) bigN own rfl (i_seq (e_call (dds := []) ((fn_steps_of (P := P) T).mono (by decide)) g (by show _ = _; kernel_rfl) T.g_steps_of T.F_steps_of.kp T.b_steps_of_2 T.v_steps_of_2 (fun _ _ => rfl) (a_cons (e_var (i := 2) (by rfl) (by exact .inl (by kernel_rfl))) (a_cons (e_var (i := 3) (by rfl) (by exact .inl (by kernel_rfl))) a_nil)))) (g_name (i := 4) nd (by rfl) (by exact .inl (by kernel_rfl)))
(s_one (s_if (t_not (t_tru (e_call (dds := []) ((fn_is_exchanged (P := P) T).mono (by decide)) g (by show _ = _; kernel_rfl) T.g_is_exchanged T.F_is_exchanged.kp T.b_is_exchanged_4 T.v_is_exchanged_4 (fun _ _ => rfl) (a_cons (e_var (i := 1) (by rfl) (by exact .inl (by kernel_rfl))) (a_cons (e_var (i := 2) (by rfl) (by exact .inl (by kernel_rfl))) (a_cons (e_var (i := 3) (by rfl) (by exact .inl (by kernel_rfl))) (a_cons (e_var (i := 4) (by rfl) (by exact .inl (by kernel_rfl))) a_nil)))))))
(s_one (s_ret (e_tup (a_cons (e_var (i := 2) (by rfl) (by exact .inl (by kernel_rfl))) (a_cons (e_var (i := 3) (by rfl) (by exact .inl (by kernel_rfl))) (a_cons (e_var (i := 4) (by rfl) (by exact .inl (by kernel_rfl))) a_nil))))))
s_nil)))))))
(s_one (s_ret e_non))))
theorem fn_JumpSet___init__ (T : Tx K mg ca) : FnM P w K mg base 6 T.f_JumpSet___init__ T.fd_JumpSet___init__ ["self", "members"] (M_JumpSet___init__ ca) := by
  have nd := sc_JumpSet___init__.nd
  refine fnM_sup (N := ["self", "members", "__class__", "failure", "x", "y", "step"]) (m := b_JumpSet___init__ ca) T.S_JumpSet___init__ sc_JumpSet___init__ fun A outer s H E g own => ?_
  exact
(b_cons
(u_supF (Cs := [ca.c_JumpSet]) T.S_JumpSet___init__ T.so_JumpSet___init__ ((fn_VectorSet___init__ (P := P) T).mono (by decide)) g T.kb_VectorSet___init___ (by kernel_rfl) (by kernel_rfl) T.n_super bb_super (by rfl) (by rfl) (by rfl) (by kernel_rfl) pf.file (a_cons (e_var (i := 1) (by rfl) (by exact .inl (by kernel_rfl))) a_nil))
(b_of (s_cons
(s_set (i := 3) nd (by rfl) (by exact .inl (by kernel_rfl)) (e_call (dds := []) ((fn_first_failure (P := P) T).mono (by decide)) g (by show _ = _; kernel_rfl) T.g_first_failure T.F_first_failure.kp T.b_first_failure_1 T.v_first_failure_1 (fun _ _ => rfl) (a_cons (e_fld (Cs := [ca.c_JumpSet]) T.na_c1_kept (e_var (i := 0) (by rfl) (by exact .inl (by kernel_rfl)))) a_nil)))
(s_one (s_if (t_cmp o_isnot (e_var (i := 3) (by rfl) (by exact .inl (by kernel_rfl))) e_non (by rfl))
(s_cons
(s_asg (own := [4, 5, 6]) (e_var (i := 3) (by rfl) (by exact .inl (by kernel_rfl))) (g_tup rfl (gs_cons (g_name (i := 4) nd (by rfl) (by exact .inl (by kernel_rfl))) (gs_cons (g_name (i := 5) nd (by rfl) (by exact .inl (by kernel_rfl))) (gs_cons (g_name (i := 6) nd (by rfl) (by exact .inl (by kernel_rfl))) gs_nil)))))
(s_one (s_raise T.e_NotJump T.iC_NotJump T.tI_NotJump (in_NotJump (P := P) T) (g.mono (by decide)) T.bi_NotJump (by show _ = _; kernel_rfl) T.h_NotJump (a_cons (e_var (i := 4) (by rfl) (by exact .inl (by kernel_rfl))) (a_cons (e_var (i := 5) (by rfl) (by exact .inl (by kernel_rfl))) (a_cons (e_var (i := 6) (by rfl) (by exact .inl (by kernel_rfl))) a_nil))) (by simp))))
s_nil)))))
theorem fn_JumpSet_failure (T : Tx K mg ca) : FnM P w K mg base 5 T.f_JumpSet_failure T.fd_JumpSet_failure ["members"] (M_JumpSet_failure ca) := by
  have nd := sc_JumpSet_failure.nd
  refine fnM_of (N := ["members"]) (m := b_JumpSet_failure ca) T.F_JumpSet_failure sc_JumpSet_failure fun cd A outer s H E g own => ?_
  exact
(s_one (s_ret (e_call (dds := []) ((fn_first_failure (P := P) T).mono (by decide)) g (by show _ = _; kernel_rfl) T.g_first_failure T.F_first_failure.kp T.b_first_failure_1 T.v_first_failure_1 (fun _ _ => rfl) (a_cons (e_call (dds := []) ((fn_checked_members (P := P) T).mono (by decide)) g (by show _ = _; kernel_rfl) T.g_checked_members T.F_checked_members.kp T.b_checked_members_1 T.v_checked_members_1 (fun _ _ => rfl) (a_cons (e_var (i := 0) (by rfl) (by exact .inl (by kernel_rfl))) a_nil)) a_nil))))
theorem fn__law_right (T : Tx K mg ca) (TB : TBs base mg ca) : FnM P w K mg base 10 T.f__law_right T.fd__law_right ["_law_given", "_law_due"] (M__law_right ca) := by
  have nd := sc__law_right.nd
  obtain ⟨oc, od, dV, kV, doc, pm, an, ct, osl, e, lk, hcd⟩ := T.lk__law_right
  rw [e] at lk ⊢
  refine fnM_ofC (N := ["_law_given", "_law_due", "_law_call"]) (m := b__law_right ca) lk hcd sc__law_right fun A outer s H E g own => ?_
  exact
(s_cons
(s_blkT (k := 7) (j := 2) (tj := 0) (Gd.mono g (by decide)) (by show _ = _; kernel_rfl) T.g__law_refused T.F__law_refused T.b__law_refused_1 sc__law_refused ((fn__law_refused (P := P) T).mono (by decide)) TB.tb__law_right rfl own rfl nd (by rfl) (by exact .inl (by kernel_rfl)) (by exact .inl (by kernel_rfl))
(LamsD.cons (as := []) (zs := []) ⟨lamD_by (by kernel_rfl), CInts.nil, rfl, (fun q cl pm cv ctv doc dV us s hl hd => binds0 (fd := fun dv0 => PySem.W.kdv_fn "<lambda>" q _ (.expr _) _ cl dv0 doc pm cv ctv) hl hd rfl), fun A outer s H E ff fc gl ownl Gh2 =>
(e_make (dds := []) T.mk_VectorSet T.ow_VectorSet ((fn_VectorSet___init__ (P := P) T).mono (by decide)) gl (by show _ = _; kernel_rfl) T.h_VectorSet T.b_VectorSet___init___2 T.v_VectorSet___init___2 (fun _ _ => rfl) (a_cons (e_var (i := 0) (by rfl) (by exact .inr (.inr (by kernel_rfl)))) a_nil))⟩ (by rfl)
(LamsD.cons (as := ["_law_a"]) (zs := [0]) ⟨lamD_by (by kernel_rfl), (CInts.cons CInts.nil), rfl, (fun q cl pm cv ctv doc dV us s hl hd => by
    match us, hl, hd with
    | [u0], _, .inr ⟨_, T, e, ho⟩ => subst e; exact BindsTo.of_defaults rfl ho rfl rfl rfl
    | [u0], _, .inl ⟨e, _⟩ => cases e), fun A outer s H E ff fc gl ownl Gh2 =>
(e_make (dds := []) T.mk_JumpSet T.ow_JumpSet ((fn_JumpSet___init__ (P := P) T).mono (by decide)) gl (by show _ = _; kernel_rfl) T.h_JumpSet T.b_JumpSet___init___2 T.v_JumpSet___init___2 (fun _ _ => rfl) (a_cons (e_var (i := 0) (by rfl) (by exact .inr (.inr (by kernel_rfl)))) a_nil))⟩ (by rfl)
(LamsD.cons (as := ["_law_a", "_law_b"]) (zs := [0, 0]) ⟨lamD_by (by kernel_rfl), (CInts.cons (CInts.cons CInts.nil)), rfl, (fun q cl pm cv ctv doc dV us s hl hd => by
    match us, hl, hd with
    | [u0, u1], _, .inr ⟨_, T, e, ho⟩ => subst e; exact BindsTo.of_defaults rfl ho rfl rfl rfl
    | [u0, u1], _, .inl ⟨e, _⟩ => cases e), fun A outer s H E ff fc gl ownl Gh2 =>
(e_stat (dds := []) T.st_JumpSet_JumpSet_failure ((fn_JumpSet_failure (P := P) T).mono (by decide)) gl T.b_JumpSet_failure_1 T.v_JumpSet_failure_1 (fun _ _ => rfl) (by show _ = _; kernel_rfl) T.h_JumpSet (a_cons (e_var (i := 0) (by rfl) (by exact .inr (.inr (by kernel_rfl)))) a_nil))⟩ (by rfl)
LamsD.nil)))
(show (3 : Nat) ≤ sizeLine from by decide) (fun Gh3 ff at0 hat =>
(s_one (s_if (t_cmp (o_ne g.eq) hat (e_if (t_cmp o_is (e_var (i := 1) (by rfl) (by exact .inl (by kernel_rfl))) e_non (by rfl)) e_non (e_callB (c_repr g).call (by show _ = _; kernel_rfl) T.n_repr bb_repr (a_cons (e_var (i := 1) (by rfl) (by exact .inl (by kernel_rfl))) a_nil))) (by rfl))
(s_one (s_ret e_bl))
s_nil))))
(s_one (s_ret e_bl)))
theorem fn_law (T : Tx K mg ca) (TB : TBs base mg ca) : FnM P w K mg base 11 T.f_law T.fd_law ["_law_script"] (M_law ca) := by
  have nd := sc_law.nd
  refine fnM_of (N := ["_law_script", "_law_pen_here", "_law_turn", "_law_size", "_law_rows", "_law_at", "_law_bad", "_law_more", "_law_given", "_law_others", "_law_due", "_law_many", "_law_line", "_law_great", "_law_value", "_law_k"]) (m := b_law ca) T.F_law sc_law fun cd A outer s H E g own => ?_
  exact
(s_cons
(s_set (i := 1) nd (by rfl) (by exact .inl (by kernel_rfl)) (e_call (dds := []) ((fn__law_pen (P := P) T).mono (by decide)) g (by show _ = _; kernel_rfl) T.g__law_pen T.F__law_pen.kp T.b__law_pen_1 T.v__law_pen_1 (fun _ _ => rfl) (a_cons (e_var (i := 0) (by rfl) (by exact .inl (by kernel_rfl))) a_nil)))
(s_cons
(s_for (own := [2]) bigN own rfl (i_rng1 (by show _ = _; kernel_rfl) T.n_range (a_cons e_int a_nil)) (g_name (i := 2) nd (by rfl) (by exact .inl (by kernel_rfl)))
(s_cons
(s_set (i := 3) nd (by rfl) (by exact .inr (by kernel_rfl)) (e_op o_add e_int (e_call (dds := []) ((fn__law_draw (P := P) T).mono (by decide)) g (by show _ = _; kernel_rfl) T.g__law_draw T.F__law_draw.kp T.b__law_draw_2 T.v__law_draw_2 (fun _ _ => rfl) (a_cons (e_var (i := 1) (by rfl) (by exact .inl (by kernel_rfl))) (a_cons e_int a_nil)))))
(s_cons
(s_setC (i := 4) (ow := [("_law_k", 15)]) bigN rfl nd (by rfl) (by rfl) (by rfl) (i_rng1 (by show _ = _; kernel_rfl) T.n_range (a_cons (e_op o_add e_int (e_call (dds := []) ((fn__law_draw (P := P) T).mono (by decide)) g (by show _ = _; kernel_rfl) T.g__law_draw T.F__law_draw.kp T.b__law_draw_2 T.v__law_draw_2 (fun _ _ => rfl) (a_cons (e_var (i := 1) (by rfl) (by exact .inl (by kernel_rfl))) (a_cons e_int a_nil)))) a_nil)) (blkOk_by (by kernel_rfl)) (fun _ _ _ _ _ => (g_name (i := 15) nd (by rfl) (by exact .inl (by kernel_rfl)) (hf := by exact .inr (by kernel_rfl)))) (fun _ _ _ _ _ => f_nil) (fun _ _ _ _ _ => (e_op o_add (e_tup (a_cons (e_var (i := 15) (by rfl) (by exact .inl (by kernel_rfl))) a_nil)) (e_op o_mulZ (e_tup (a_cons e_int a_nil)) (e_op o_sub (e_var (i := 3) (by rfl) (by exact .inr (.inl (by kernel_rfl)))) e_int)))))
(s_cons
(s_set (i := 5) nd (by rfl) (by exact .inl (by kernel_rfl)) (e_call (dds := []) ((fn__law_draw (P := P) T).mono (by decide)) g (by show _ = _; kernel_rfl) T.g__law_draw T.F__law_draw.kp T.b__law_draw_2 T.v__law_draw_2 (fun _ _ => rfl) (a_cons (e_var (i := 1) (by rfl) (by exact .inl (by kernel_rfl))) (a_cons (e_callB c_len.call (by show _ = _; kernel_rfl) T.n_len bb_len (a_cons (e_var (i := 4) (by rfl) (by exact .inl (by kernel_rfl))) a_nil)) a_nil))))
(s_cons
(s_set (i := 6) nd (by rfl) (by exact .inl (by kernel_rfl)) (e_lst (a_cons (e_call (dds := []) ((fn__law_odd (P := P) T).mono (by decide)) g (by show _ = _; kernel_rfl) T.g__law_odd T.F__law_odd.kp T.b__law_odd_2 T.v__law_odd_2 (fun _ _ => rfl) (a_cons (e_var (i := 1) (by rfl) (by exact .inl (by kernel_rfl))) (a_cons (e_var (i := 3) (by rfl) (by exact .inr (.inl (by kernel_rfl)))) a_nil))) (a_cons (e_call (dds := []) ((fn__law_odd (P := P) T).mono (by decide)) g (by show _ = _; kernel_rfl) T.g__law_odd T.F__law_odd.kp T.b__law_odd_2 T.v__law_odd_2 (fun _ _ => rfl) (a_cons (e_var (i := 1) (by rfl) (by exact .inl (by kernel_rfl))) (a_cons (e_var (i := 3) (by rfl) (by exact .inr (.inl (by kernel_rfl)))) a_nil))) a_nil))))
(s_cons
(s_set (i := 7) nd (by rfl) (by exact .inl (by kernel_rfl)) (e_slice (e_var (i := 6) (by rfl) (by exact .inl (by kernel_rfl))) (p_some e_int) (p_some (e_op o_add e_int (e_call (dds := []) ((fn__law_draw (P := P) T).mono (by decide)) g (by show _ = _; kernel_rfl) T.g__law_draw T.F__law_draw.kp T.b__law_draw_2 T.v__law_draw_2 (fun _ _ => rfl) (a_cons (e_var (i := 1) (by rfl) (by exact .inl (by kernel_rfl))) (a_cons e_int a_nil)))))))
(s_cons
(s_set (i := 8) nd (by rfl) (by exact .inl (by kernel_rfl)) (e_op o_add (e_op o_add (e_op o_add (e_slice (e_var (i := 4) (by rfl) (by exact .inl (by kernel_rfl))) p_none (p_some (e_var (i := 5) (by rfl) (by exact .inl (by kernel_rfl))))) (e_slice (e_var (i := 6) (by rfl) (by exact .inl (by kernel_rfl))) p_none (p_some e_int))) (e_slice (e_var (i := 4) (by rfl) (by exact .inl (by kernel_rfl))) (p_some (e_var (i := 5) (by rfl) (by exact .inl (by kernel_rfl)))) p_none)) (e_var (i := 7) (by rfl) (by exact .inl (by kernel_rfl)))))
(s_cons
(s_set (i := 9) nd (by rfl) (by exact .inl (by kernel_rfl)) (e_op o_add (e_lst (a_cons (e_op o_mulT (e_tup (a_cons e_int a_nil)) (e_op o_add (e_op o_mod (e_callT c_int.call (by show _ = _; kernel_rfl) T.n_int bb_int (a_cons (e_var (i := 3) (by rfl) (by exact .inr (.inl (by kernel_rfl)))) a_nil)) e_int) e_int)) a_nil)) (e_op o_mul (e_lst (a_cons (e_op o_mulT (e_tup (a_cons e_int a_nil)) (e_op o_add (e_var (i := 3) (by rfl) (by exact .inr (.inl (by kernel_rfl)))) e_int)) a_nil)) (e_callT c_int.call (by show _ = _; kernel_rfl) T.n_int bb_int (a_cons (e_cmp o_lt (e_var (i := 3) (by rfl) (by exact .inr (.inl (by kernel_rfl)))) e_int (by rfl)) a_nil)))))
(s_cons
(s_set (i := 10) nd (by rfl) (by exact .inl (by kernel_rfl)) (e_if (t_w (w_or (t_cmp o_gt (e_var (i := 5) (by rfl) (by exact .inl (by kernel_rfl))) e_int (by rfl)) (w_or1 (t_cmp (o_ninT g.in_) (e_sub g (e_var (i := 6) (by rfl) (by exact .inl (by kernel_rfl))) e_int) (e_var (i := 9) (by rfl) (by exact .inl (by kernel_rfl))) (by rfl))))) (e_var (i := 5) (by rfl) (by exact .inl (by kernel_rfl))) e_int))
(s_one (s_if (t_w (w_or (t_not (t_tru (e_call (dds := []) ((fn__law_right (P := P) T TB).mono (by decide)) g (by show _ = _; kernel_rfl) T.g__law_right T.F__law_right.kp T.b__law_right_2 T.v__law_right_2 (fun _ _ => rfl) (a_cons (e_call (dds := []) ((fn__law_pick (P := P) T).mono (by decide)) g (by show _ = _; kernel_rfl) T.g__law_pick T.F__law_pick.kp T.b__law_pick_2 T.v__law_pick_2 (fun _ _ => rfl) (a_cons (e_var (i := 1) (by rfl) (by exact .inl (by kernel_rfl))) (a_cons (e_lst (a_cons (e_var (i := 8) (by rfl) (by exact .inl (by kernel_rfl))) (a_cons (e_callT c_tuple.call (by show _ = _; kernel_rfl) T.n_tuple bb_tuple (a_cons (e_var (i := 8) (by rfl) (by exact .inl (by kernel_rfl))) a_nil)) a_nil))) a_nil))) (a_cons (e_var (i := 10) (by rfl) (by exact .inl (by kernel_rfl))) a_nil))))) (w_or1 (t_not (t_tru (e_call (dds := []) ((fn__law_right (P := P) T TB).mono (by decide)) g (by show _ = _; kernel_rfl) T.g__law_right T.F__law_right.kp T.b__law_right_2 T.v__law_right_2 (fun _ _ => rfl) (a_cons (e_var (i := 4) (by rfl) (by exact .inl (by kernel_rfl))) (a_cons e_non a_nil))))))))
(s_one (s_ret e_bl))
s_nil)))))))))))
(s_cons
(s_set (i := 11) nd (by rfl) (by exact .inl (by kernel_rfl)) (e_op o_add e_int (e_call (dds := []) ((fn__law_draw (P := P) T).mono (by decide)) g (by show _ = _; kernel_rfl) T.g__law_draw T.F__law_draw.kp T.b__law_draw_2 T.v__law_draw_2 (fun _ _ => rfl) (a_cons (e_var (i := 1) (by rfl) (by exact .inl (by kernel_rfl))) (a_cons e_int a_nil)))))
(s_cons
(s_setC (i := 12) (ow := [("_law_k", 15)]) bigN rfl nd (by rfl) (by rfl) (by rfl) (i_rng1 (by show _ = _; kernel_rfl) T.n_range (a_cons (e_var (i := 11) (by rfl) (by exact .inl (by kernel_rfl))) a_nil)) (blkOk_by (by kernel_rfl)) (fun _ _ _ _ _ => (g_name (i := 15) nd (by rfl) (by exact .inl (by kernel_rfl)) (hf := by exact .inr (by kernel_rfl)))) (fun _ _ _ _ _ => f_nil) (fun _ _ _ _ _ => (e_tup (a_cons (e_var (i := 15) (by rfl) (by exact .inl (by kernel_rfl))) a_nil))))
(s_cons
(s_if (t_w (w_or (t_not (t_tru (e_call (dds := []) ((fn__law_right (P := P) T TB).mono (by decide)) g (by show _ = _; kernel_rfl) T.g__law_right T.F__law_right.kp T.b__law_right_2 T.v__law_right_2 (fun _ _ => rfl) (a_cons (e_var (i := 12) (by rfl) (by exact .inl (by kernel_rfl))) (a_cons (e_if (t_cmp o_le (e_var (i := 11) (by rfl) (by exact .inl (by kernel_rfl))) e_int (by rfl)) e_non (e_un o_neg e_int)) a_nil))))) (w_or1 (t_not (t_tru (e_call (dds := []) ((fn__law_right (P := P) T TB).mono (by decide)) g (by show _ = _; kernel_rfl) T.g__law_right T.F__law_right.kp T.b__law_right_2 T.v__law_right_2 (fun _ _ => rfl) (a_cons (e_op o_add (e_op o_add (e_var (i := 12) (by rfl) (by exact .inl (by kernel_rfl))) (e_var (i := 12) (by rfl) (by exact .inl (by kernel_rfl)))) (e_lst (a_cons e_non a_nil))) (a_cons (e_op o_mul e_int (e_var (i := 11) (by rfl) (by exact .inl (by kernel_rfl)))) a_nil))))))))
(s_one (s_ret e_bl))
s_nil)
(s_cons
(s_set (i := 13) nd (by rfl) (by exact .inl (by kernel_rfl)) (e_op o_add e_int (e_call (dds := []) ((fn__law_draw (P := P) T).mono (by decide)) g (by show _ = _; kernel_rfl) T.g__law_draw T.F__law_draw.kp T.b__law_draw_2 T.v__law_draw_2 (fun _ _ => rfl) (a_cons (e_var (i := 1) (by rfl) (by exact .inl (by kernel_rfl))) (a_cons e_int a_nil)))))
(s_cons
(s_if (t_not (t_tru (e_call (dds := []) ((fn__law_right (P := P) T TB).mono (by decide)) g (by show _ = _; kernel_rfl) T.g__law_right T.F__law_right.kp T.b__law_right_2 T.v__law_right_2 (fun _ _ => rfl) (a_cons (e_comp (ow := [("_law_k", 15)]) bigN rfl nd (i_rng1 (by show _ = _; kernel_rfl) T.n_range (a_cons (e_var (i := 13) (by rfl) (by exact .inl (by kernel_rfl))) a_nil)) (blkOk_by (by kernel_rfl)) (fun _ _ _ _ _ => (g_name (i := 15) nd (by rfl) (by exact .inl (by kernel_rfl)) (hf := by exact .inr (by kernel_rfl)))) (fun _ _ _ _ _ => f_nil) (fun _ _ _ _ _ => (e_tup (a_cons (e_op o_mod (e_callT c_int.call (by show _ = _; kernel_rfl) T.n_int bb_int (a_cons (e_var (i := 15) (by rfl) (by exact .inl (by kernel_rfl))) a_nil)) e_int) a_nil)))) (a_cons (e_if (t_cmp o_le (e_var (i := 13) (by rfl) (by exact .inl (by kernel_rfl))) e_int (by rfl)) e_non (e_un o_neg e_int)) a_nil)))))
(s_one (s_ret e_bl))
s_nil)
(s_cons
(s_for (own := [14]) bigN own rfl (i_seq (e_tup (a_cons e_non (a_cons e_int (a_cons e_bl (a_cons e_str (a_cons e_str (a_cons e_dnew (a_cons (e_disp1T g (e_tup (a_cons e_int a_nil)) e_int) (a_cons (e_lst a_nil) (a_cons (e_tup a_nil) (a_cons (e_call (dds := []) ((fn__law_pick (P := P) T).mono (by decide)) g (by show _ = _; kernel_rfl) T.g__law_pick T.F__law_pick.kp T.b__law_pick_2 T.v__law_pick_2 (fun _ _ => rfl) (a_cons (e_var (i := 1) (by rfl) (by exact .inl (by kernel_rfl))) (a_cons (e_lst (a_cons (e_op o_pow e_int e_int) (a_cons e_str (a_cons (e_disp (ks := [_]) (ps_c e_str e_int ps_n)) a_nil)))) a_nil))) a_nil)))))))))))) (g_name (i := 14) nd (by rfl) (by exact .inl (by kernel_rfl)))
(s_one (s_if (t_not (t_tru (e_call (dds := []) ((fn__law_right (P := P) T TB).mono (by decide)) g (by show _ = _; kernel_rfl) T.g__law_right T.F__law_right.kp T.b__law_right_2 T.v__law_right_2 (fun _ _ => rfl) (a_cons (e_var (i := 14) (by rfl) (by exact .inl (by kernel_rfl))) (a_cons (e_un o_neg e_int) a_nil)))))
(s_one (s_ret e_bl))
s_nil)))
(s_one (s_ret e_bl))))))))))
end

end Q

local macro_rules | `(tactic| fail) => `(tactic| first
  | with_reducible refine Q.wpS_seq ?_
  | with_reducible refine Q.wpS_set ?_
  | with_reducible refine Q.wpS_ret ?_
  | with_reducible refine Q.wpS_expr ?_
  | with_reducible refine Q.wpS_skip ?_
  | with_reducible refine Q.wpS_if ?_
  | with_reducible refine Q.wpS_store ?_
  | with_reducible refine Q.wpS_asg ?_
  | with_reducible refine Q.wpS_par ?_
  | with_reducible refine Q.wpS_par3 ?_
  | with_reducible refine Q.wpS_for ?_
  | ((with_reducible refine Q.wpE_isvar ?_); refine Q.wpE_eq rfl ?_)
  | with_reducible refine Q.wpE_c ?_
  | with_reducible refine Q.wpE_cons ?_
  | with_reducible refine Q.wpE_nil ?_
  | with_reducible refine Q.wpE_m2 ?_
  | with_reducible refine Q.wpE_m1 ?_
  | with_reducible refine Q.wpE_call ?_
  | with_reducible refine Q.wpO_g1 ?_
  | with_reducible refine Q.wpO_g2 ?_
  | with_reducible refine Q.wpE_tup ?_
  | with_reducible refine Q.wpE_lst ?_
  | with_reducible refine Q.wpE_dnew ?_
  | with_reducible refine Q.wpE_disp ?_
  | with_reducible refine Q.wpE_psN ?_
  | with_reducible refine Q.wpE_psC ?_
  | with_reducible refine Q.wpE_callF0 ?_
  | with_reducible refine Q.wpE_callF ?_
  | with_reducible refine Q.wpE_meth ?_
  | with_reducible refine Q.wpE_if ?_
  | with_reducible refine Q.wpE_andV ?_
  | with_reducible refine Q.wpE_orV ?_
  | with_reducible refine Q.wpE_notV ?_
  | with_reducible refine Q.wpE_chain ?_
  | with_reducible refine Q.wpE_comp ?_
  | with_reducible refine Q.wpE_star ?_
  | with_reducible refine Q.wpE_sl ?_
  | with_reducible refine Q.wpE_none ?_
  | with_reducible refine Q.wpE_some ?_
  | with_reducible refine Q.wpE_iSeq ?_
  | with_reducible refine Q.wpE_rng1 ?_
  | with_reducible refine Q.wpE_rng2 ?_
  | with_reducible refine Q.wpT_B ?_
  | with_reducible refine Q.wpT_Tr ?_
  | with_reducible refine Q.wpT_not ?_
  | with_reducible refine Q.wpT_and ?_
  | with_reducible refine Q.wpT_or ?_
  | with_reducible refine Q.wpT_yes ?_
  | with_reducible refine Q.wpO_add ?_
  | with_reducible refine Q.wpO_sub ?_
  | with_reducible refine Q.wpO_neg ?_
  | with_reducible refine Q.wpO_lt ?_
  | with_reducible refine Q.wpO_le ?_
  | with_reducible refine Q.wpO_gt ?_
  | with_reducible refine Q.wpO_ge ?_
  | with_reducible refine Q.wpO_int ?_
  | with_reducible refine Q.wpO_abs ?_
  | with_reducible refine Q.wpO_lenT ?_
  | with_reducible refine Q.wpO_isN ?_
  | with_reducible refine Q.wpO_isNotN ?_
  | with_reducible refine Q.wpO_tupleT ?_
  | with_reducible refine Q.wpO_eqI ?_
  | with_reducible refine Q.wpO_neI ?_
  | with_reducible refine Q.wpO_eqS ?_
  | with_reducible refine Q.wpO_neSame ?_
  | with_reducible refine Q.wpO_neS ?_
  | with_reducible refine Q.wpO_cutT ?_
  | ((with_reducible refine Q.wpO_mod ?_ ?_); · decide)
  | ((with_reducible refine Q.wpO_div ?_ ?_ ?_); · decide; · decide)
  | with_reducible refine Q.brT ?_
  | with_reducible refine Q.brF ?_
  | with_reducible refine Q.brT2 ?_
  | with_reducible refine Q.brF2 ?_
  | with_reducible refine Q.brNT ?_
  | with_reducible refine Q.brNF ?_
  | with_reducible refine Q.exBl ?_
  | with_reducible refine Q.exTrB ?_
  | with_reducible refine Q.exTrI ?_
  | with_reducible refine Q.exTrN ?_
  | with_reducible refine Q.exInt ?_
  | with_reducible refine Q.exIt ?_
  | with_reducible refine Q.exPar ?_
  | with_reducible refine Q.exName ?_
  | ((with_reducible refine Q.exR1 ?_ ?_); · decide +kernel)
  | ((with_reducible refine Q.exR2 ?_ ?_ ?_); · decide +kernel; · decide +kernel)
  | ((with_reducible refine Q.lenE ?_ ?_); · rfl)
  | ((with_reducible refine Q.lenS ?_ ?_); · (simp only [List.length_cons, List.length_nil, List.cons_append, List.nil_append]; decide)))


namespace Q
open PySem PySem.Spec PyProof.Rows L2
variable {ca : CA}
/-! ### the draw -/
theorem draw_sp {p c n : Nat} {S : Store} {size : Int} {E : EK} {Q : D → Store → Prop} (P : Pen p c n S) (hn : n < 2 ^ 64) (h0 : 0 < size) (h1 : size < 2 ^ 64) (k : ∀ r T, 0 ≤ r → r < size → Pen p c (n + 1) T → KpX p S T → Q (.int r) T) : wpE (M__law_draw ca [.ref p, .int size] S) Q E := by
  obtain ⟨ns, t, ρ, hp, hc, hl, hb, ht0, htn, hr0, hrb, hne⟩ := P.open
  have hs9 : size.natAbs.log2 < 9000 := by have := log2_lt' (n := size.natAbs) (k := 64) (by omega); omega
  have mp := Int.emod_nonneg ρ (by omega : size ≠ 0)
  have mq := Int.emod_lt_of_pos ρ h0
  have bt : Bd 64 t := by show t.natAbs < _; omega
  refine wpE_def ?_
  unfold b__law_draw
  repeat fail
  refine wpO_rest hp ?_
  repeat fail
  refine ⟨fun hz => ?_, fun hz => ?_⟩
  · have hz := of_decide_eq_true hz
    repeat fail
    refine wpO_rest hp ?_
    repeat fail
    refine wpO_mod h0 ?_
    repeat fail
    refine wpO_rest hp ?_
    repeat fail
    refine wpO_div h0 hs9 ?_
    repeat fail
    refine st_rest hp ?_
    repeat fail
    refine k _ _ mp mq ?_ KpX.set
    have d0 : 0 ≤ ρ / size := Int.ediv_nonneg hr0 (by omega)
    have d1 := Int.ediv_le_self size hr0
    refine Pen.mk' (List.getElem?_set_self (lt_of_at hp)) (by rw [List.getElem?_set_ne (Ne.symm hne)]; exact hc) hl hb ht0 (by omega) d0 ?_ hne
    generalize (2 : Nat) ^ 1048577 = M at hrb
    omega
  · have hz := of_decide_eq_false hz
    repeat fail
    refine wpO_turn hp ?_
    repeat fail
    refine st_turn hp ?_
    have hp1 : (S.set p (.dct (penK c (t + 1) ρ)))[p]? = some (.dct (penK c (t + 1) ρ)) := List.getElem?_set_self (lt_of_at hp)
    have hc1 : (S.set p (.dct (penK c (t + 1) ρ)))[c]? = some (.lst (ns.map D.int)) := by rw [List.getElem?_set_ne (Ne.symm hne)]; exact hc
    have hk1 : KpX p S (S.set p (.dct (penK c (t + 1) ρ))) := KpX.set
    generalize S.set p (.dct (penK c (t + 1) ρ)) = S1 at hp1 hc1 hk1
    repeat fail
    refine wpO_mul (Bd.prod (k := 6) (l := 64) Bd.lit bt) ?_
    repeat fail
    refine wpO_cells hp1 ?_
    repeat fail
    intro m S2 k2 _ hm
    have hp2 := k2 _ _ hp1
    have hc2 := k2 _ _ hc1
    have hk2 := hk1.trans k2.x
    refine wpO_neNil hc2 hm ?_
    repeat fail
    have pen2 : Pen p c (n + 1) S2 := Pen.mk' hp2 hc2 hl hb (by omega) (by omega) hr0 hrb hne
    refine wp_split (fun e T => T = S2 ∧ ∃ cell : Int, e = [some (.ref p), some (.int size), none, some (.int t), some (.int cell), none, none, none] ∧ (ns ≠ [] → cell.natAbs < 2 ^ 1048577)) (fun e T hJ => ?_) ⟨fun he => ?_, fun he => ?_⟩
    · obtain ⟨rfl, cell, rfl, hcell⟩ := hJ
      repeat fail
      refine wpO_cells hp2 ?_
      repeat fail
      refine wpO_lenL hc2 ?_
      repeat fail
      rw [List.length_map]
      refine ⟨fun hlt => ?_, fun _ => ?_⟩
      · have hlt := of_decide_eq_true hlt
        have hne' : ns ≠ [] := fun e => by rw [e] at hlt; simp at hlt; omega
        repeat fail
        refine wpO_pow18 ?_
        repeat fail
        refine ⟨fun hge => ?_, fun _ => ?_⟩
        · have hge := of_decide_eq_true hge
          obtain ⟨d0, d1⟩ := rest_small (q := size) (hcell hne') hge h0
          repeat fail
          refine wpO_pow18 ?_
          repeat fail
          refine wpO_div h0 hs9 ?_
          repeat fail
          refine st_rest hp2 ?_
          repeat fail
          refine wpO_pow18 ?_
          repeat fail
          refine wpO_mod h0 ?_
          refine k _ _ (Int.emod_nonneg _ (by omega)) (Int.emod_lt_of_pos _ h0) ?_ (hk2.trans KpX.set)
          exact Pen.mk' (List.getElem?_set_self (lt_of_at hp2)) (by rw [List.getElem?_set_ne (Ne.symm hne)]; exact hc2) hl hb (by omega) (by omega) d0 d1 hne
        · repeat fail
          intro q S3 k3 _ hq
          have pT := pen2.kp k3
          have kT := hk2.trans k3.x
          repeat fail
          have i0 := Int.emod_nonneg t (by decide : (5 : Int) ≠ 0)
          have i1 := Int.emod_lt_of_pos t (by decide : (0 : Int) < 5)
          obtain ⟨pr, hpr, hat⟩ := atI_in (xs := [2147483629, 2147483647, 2147483563, 2147483587, 2147483579]) i0 i1
          have hpr1 : 0 < pr ∧ Bd 31 pr := by
            simp only [List.mem_cons, List.not_mem_nil, or_false] at hpr
            rcases hpr with rfl | rfl | rfl | rfl | rfl <;> exact ⟨by decide, by unfold Bd; decide⟩
          refine wpO_subL hq hat ?_
          repeat fail
          have c0 : Bd 33 (cell % 4294967291) := Bd.mod (by decide) Bd.lit
          refine wpO_mul (Bd.prod c0 (l := 17) Bd.lit) ?_
          repeat fail
          refine wpO_mul (Bd.prod (k := 17) Bd.lit bt) ?_
          repeat fail
          refine wpO_mul (Bd.prod (Bd.mul (k := 17) Bd.lit bt) bt) ?_
          repeat fail
          refine wpO_mul (Bd.prod (k := 18) Bd.lit bt) ?_
          repeat fail
          refine wpO_mod hpr1.1 ?_
          repeat fail
          generalize hm1 : (cell % 4294967291 * 48271 + 40503 * t * t + 69621 * t + 11) % pr = m1
          have b1 : Bd 31 m1 := by rw [← hm1]; exact Bd.mod hpr1.1 hpr1.2
          refine wpO_mul (Bd.prod b1 b1) ?_
          repeat fail
          refine wpO_mul (Bd.prod (k := 16) Bd.lit b1) ?_
          repeat fail
          refine wpO_mul (Bd.prod (k := 4) Bd.lit bt) ?_
          repeat fail
          generalize hm2 : (m1 * m1 + 16807 * m1 + 7 * t + 5) % 4294967279 = m2
          have b2 : Bd 33 m2 := by rw [← hm2]; exact Bd.mod (by decide) Bd.lit
          refine wpO_mul (Bd.prod b2 (Bd.add b2 (l := 26) Bd.lit)) ?_
          repeat fail
          refine wpO_mod h0 ?_
          exact k _ _ (Int.emod_nonneg _ (by omega)) (Int.emod_lt_of_pos _ h0) pT kT
      · repeat fail
        intro q S3 k3 _ hq
        have pT := pen2.kp k3
        have kT := hk2.trans k3.x
        repeat fail
        have i0 := Int.emod_nonneg t (by decide : (5 : Int) ≠ 0)
        have i1 := Int.emod_lt_of_pos t (by decide : (0 : Int) < 5)
        obtain ⟨pr, hpr, hat⟩ := atI_in (xs := [2147483629, 2147483647, 2147483563, 2147483587, 2147483579]) i0 i1
        have hpr1 : 0 < pr ∧ Bd 31 pr := by
          simp only [List.mem_cons, List.not_mem_nil, or_false] at hpr
          rcases hpr with rfl | rfl | rfl | rfl | rfl <;> exact ⟨by decide, by unfold Bd; decide⟩
        refine wpO_subL hq hat ?_
        repeat fail
        have c0 : Bd 33 (cell % 4294967291) := Bd.mod (by decide) Bd.lit
        refine wpO_mul (Bd.prod c0 (l := 17) Bd.lit) ?_
        repeat fail
        refine wpO_mul (Bd.prod (k := 17) Bd.lit bt) ?_
        repeat fail
        refine wpO_mul (Bd.prod (Bd.mul (k := 17) Bd.lit bt) bt) ?_
        repeat fail
        refine wpO_mul (Bd.prod (k := 18) Bd.lit bt) ?_
        repeat fail
        refine wpO_mod hpr1.1 ?_
        repeat fail
        generalize hm1 : (cell % 4294967291 * 48271 + 40503 * t * t + 69621 * t + 11) % pr = m1
        have b1 : Bd 31 m1 := by rw [← hm1]; exact Bd.mod hpr1.1 hpr1.2
        refine wpO_mul (Bd.prod b1 b1) ?_
        repeat fail
        refine wpO_mul (Bd.prod (k := 16) Bd.lit b1) ?_
        repeat fail
        refine wpO_mul (Bd.prod (k := 4) Bd.lit bt) ?_
        repeat fail
        generalize hm2 : (m1 * m1 + 16807 * m1 + 7 * t + 5) % 4294967279 = m2
        have b2 : Bd 33 m2 := by rw [← hm2]; exact Bd.mod (by decide) Bd.lit
        refine wpO_mul (Bd.prod b2 (Bd.add b2 (l := 26) Bd.lit)) ?_
        repeat fail
        refine wpO_mod h0 ?_
        exact k _ _ (Int.emod_nonneg _ (by omega)) (Int.emod_lt_of_pos _ h0) pT kT
    · have hpos : (0 : Int) < ns.length := by
        cases ns with
        | nil => cases he
        | cons a l => simp
      repeat fail
      refine wpO_cells hp2 ?_
      repeat fail
      refine wpO_cells hp2 ?_
      repeat fail
      refine wpO_lenL hc2 ?_
      rw [List.length_map]
      repeat fail
      refine wpO_mod hpos ?_
      obtain ⟨z, hz1, hz2⟩ := atI_in (xs := ns) (Int.emod_nonneg t (by omega)) (Int.emod_lt_of_pos t hpos)
      refine wpO_subL hc2 hz2 ?_
      exact ⟨rfl, z, rfl, fun _ => hb z hz1⟩
    · repeat fail
      refine ⟨rfl, _, rfl, fun hne' => ?_⟩
      cases ns with
      | nil => exact absurd rfl hne'
      | cons a l => cases he
variable {ca : CA}
theorem bits_lt {z : Int} (h : Builtin.Int.intBits z ≤ 1048576) : z.natAbs < 2 ^ 1048577 := by
  have h1 : z.natAbs < 2 ^ (z.natAbs.log2 + 1) := Nat.lt_log2_self
  have h2 : z.natAbs.log2 + 1 ≤ 1048577 := by
    unfold Builtin.Int.intBits at h
    split at h
    · rename_i hz
      have : z = 0 := by simpa using hz
      subst this
      show Nat.log2 0 + 1 ≤ _
      rw [Nat.log2_zero]
      omega
    · omega
  exact Nat.lt_of_lt_of_le h1 (Nat.pow_le_pow_right (by omega) h2)
theorem zero_lt_big : (0 : Int).natAbs < 2 ^ 1048577 := Nat.lt_of_lt_of_le (by decide : (0 : Int).natAbs < 2 ^ 1) (Nat.pow_le_pow_right (by decide) (by decide))
/-- the pen is made -/
theorem pen_sp {ns : List Int} {S : Store} {E : EK} {Q : D → Store → Prop} (hl : ns.length ≤ 63) (hb : ∀ z ∈ ns, Builtin.Int.intBits z ≤ 1048576) (k : ∀ p c T, Kp S T → S.length ≤ p → S.length ≤ c → Pen p c 0 T → Q (.ref p) T) : wpE (M__law_pen ca [.kl (ns.map D.int)] S) Q E := by
  refine wpE_def ?_
  unfold b__law_pen
  repeat fail
  intro p T k1 l1 h1
  repeat fail
  have cut : cutP (.kl (ns.map D.int)) none (some 63) T = some (.ref T.length, T ++ [.lst (cutD (ns.map D.int) none (some 63))]) := rfl
  have hcd : cutD (ns.map D.int) none (some 63) = ns.map D.int := by
    unfold cutD
    rw [show HT.sIx (ns.map D.int).length 0 none = 0 from rfl, List.drop_zero]
    refine List.take_of_length_le ?_
    rw [List.length_map]
    have : HT.sIx ns.length ns.length (some 63) = min 63 ns.length := by
      unfold HT.sIx
      simp
    omega
  refine wpO_of cut ?_
  repeat fail
  refine wpO_listI (xs := ns.map D.int) (by unfold itemsD; dsimp only; rw [at_mid, hcd]) fun c U k2 l2 h2 => ?_
  repeat fail
  have k3 : Kp T U := Kp.app.trans k2
  have hp := lt_of_at h1
  have l3 : (T ++ [O.lst (cutD (ns.map D.int) none (some 63))]).length ≤ c := l2
  rw [List.length_append] at l3
  refine ⟨k3 _ _ h1, _, rfl, (by decide : 3 ≤ 15), fun V k4 h4 => ?_⟩
  refine k p c _ ((k1.trans k3).disp l1 k4) l1 (by have := k1.len; omega) ?_
  have e : (mergeD [] [((Sum.inr "cells" : Key), D.ref c), (.inr "turn", .int 0), (.inr "rest", .int 0)]) = penK c 0 0 := by kernel_rfl
  have hc : c ≠ p := by omega
  exact Pen.mk' (ns := ns) (t := 0) (ρ := 0) (h4.trans (congrArg (fun z => some (O.dct z)) e)) (k4.k _ _ hc h2) hl (fun z hz => bits_lt (hb z hz)) (Int.le_refl _) (by omega) (Int.le_refl _) zero_lt_big hc
theorem pick_sp {p c n q : Nat} {S : Store} {xs : List D} {E : EK} {Q : D → Store → Prop} (P : Pen p c n S) (hn : n < 2 ^ 64) (hq : S[q]? = some (.lst xs)) (hqp : q ≠ p) (h0 : 0 < xs.length) (h1 : xs.length < 2 ^ 60) (k : ∀ d T, d ∈ xs → Pen p c (n + 1) T → KpX p S T → Q d T) : wpE (M__law_pick ca [.ref p, .ref q] S) Q E := by
  refine wpE_def ?_
  unfold b__law_pick
  repeat fail
  refine wpO_lenL hq ?_
  repeat fail
  refine draw_sp (size := (xs.length : Nat)) P hn (by omega) (by omega) fun r T r0 r1 P1 k1 => ?_
  have hr : r.toNat < xs.length := by omega
  have e := List.getElem?_eq_getElem hr
  have hat : L2.atI xs r = some xs[r.toNat] := by
    have : L2.atI xs ((r.toNat : Nat) : Int) = some xs[r.toNat] := L2.atI_nat e
    rw [show ((r.toNat : Nat) : Int) = r by omega] at this
    exact this
  refine wpO_subL (k1.k _ _ hqp hq) hat ?_
  exact k _ _ (List.getElem_mem hr) P1 k1
variable {ca : CA}
theorem isint_sp {S : Store} {E : EK} {P : D → Store → Prop} {d : D} {q : Kd} (hq : kindD d S = some q) (h : P (.bl (isIntK q)) S) : wpE (M_is_integer ca [d] S) P E := by
  refine wpE_def ?_
  unfold b_is_integer
  repeat fail
  refine wpO_isi hq ?_
  repeat fail
  refine ⟨fun h1 => ?_, fun h1 => ?_⟩
  · repeat fail
    refine wpO_isi hq ?_
    repeat fail
    cases q <;> first | exact h | cases h1
  · rw [h1]
    cases q <;> first | exact h | cases h1
theorem betw_sp {S : Store} {E : EK} {P : D → Store → Prop} {d : D} {q : Kd} {lo hi : Int} (hq : kindD d S = some q) (h : P (.bl (btw d lo hi)) S) : wpE (M_is_between ca [d, .int lo, .int hi] S) P E := by
  refine wpE_def ?_
  unfold b_is_between
  repeat fail
  refine isint_sp hq ?_
  repeat fail
  refine ⟨fun h1 => ?_, fun h1 => ?_⟩
  · obtain ⟨i, rfl⟩ : ∃ i, d = .int i := by cases q <;> first | exact kindD_int hq | cases h1
    repeat fail
    refine ⟨fun h2 => ?_, fun h2 => ?_⟩
    · repeat fail
      have e : btw (.int i) lo hi = decide (i ≤ hi) := by show (decide (lo ≤ i) && decide (i ≤ hi)) = _; rw [h2]; rfl
      rw [← e]
      exact h
    · have e : btw (.int i) lo hi = false := by show (decide (lo ≤ i) && decide (i ≤ hi)) = _; rw [h2]; rfl
      rw [← e]
      exact h
  · rw [h1, ← btw_no (lo := lo) (hi := hi) (kind_nint hq h1)]
    exact h
theorem fits_sp {S : Store} {E : EK} {P : D → Store → Prop} {d : D} (hk : Kinds S d) (h : ∀ T, Kp S T → P (.bl (vecB d)) T) : wpE (M_fits_vector ca [d] S) P E := by
  obtain ⟨⟨q, hqs⟩, hel⟩ := hk
  have hq := hqs S (Kp.refl _)
  refine wpE_def ?_
  unfold b_fits_vector
  repeat fail
  refine wpO_isi hq ?_
  repeat fail
  refine ⟨fun h1 => ?_, fun h1 => ?_⟩
  · have h1 : isKd q .tup = false := by cases z : isKd q .tup <;> first | rfl | (rw [z] at h1; cases h1)
    repeat fail
    rw [← vecB_no (kind_ntup hq h1)]
    exact h S (Kp.refl _)
  · have h1 : isKd q .tup = true := by cases z : isKd q .tup <;> first | rfl | (rw [z] at h1; cases h1)
    obtain ⟨xs, rfl⟩ : ∃ xs, d = .tup xs := by cases q <;> first | exact kindD_tup hq | cases h1
    repeat fail
    refine ⟨fun h2 => ?_, fun h2 => ?_⟩
    · repeat fail
      refine ⟨fun h3 => ?_, fun h3 => ?_⟩
      · have h3 : decide (((xs.length : Nat) : Int) ≤ 5) = false := by cases z : decide (((xs.length : Nat) : Int) ≤ 5) <;> first | rfl | (rw [z] at h3; cases h3)
        repeat fail
        have e : vecB (.tup xs) = false := by
          have : decide (xs.length ≤ 5) = false := decide_eq_false (by have := of_decide_eq_false h3; omega)
          unfold vecB
          simp only [this, Bool.and_false, Bool.false_and]
        rw [← e]
        exact h S (Kp.refl _)
      · have h3 : decide (((xs.length : Nat) : Int) ≤ 5) = true := by cases z : decide (((xs.length : Nat) : Int) ≤ 5) <;> first | rfl | (rw [z] at h3; cases h3)
        have l1 := of_decide_eq_true h2
        have l5 := of_decide_eq_true h3
        repeat fail
        refine wp_compM xs (fun x => .bl (btw x (-1000) 1000)) (fun i T _ => rfl) (by unfold bigN; omega) (by have : 5 < sizeLine := (by decide); omega) (fun i x T hx hT => ⟨_, rfl, ?_⟩) (fun k T kT l hT => ?_)
        · repeat fail
          obtain ⟨qx, hqx⟩ := hel xs rfl x (List.mem_of_getElem? hx)
          refine betw_sp (hqx T hT) ⟨Kp.refl _, rfl⟩
        · repeat fail
          refine wpO_all (bs := xs.map fun x => btw x (-1000) 1000) (by rw [List.map_map]; exact hT) ?_
          have e : vecB (.tup xs) = (xs.map fun x => btw x (-1000) 1000).all fun b => b := by
            have a1 : decide (1 ≤ xs.length) = true := decide_eq_true (by omega)
            have a2 : decide (xs.length ≤ 5) = true := decide_eq_true (by omega)
            unfold vecB
            simp only [a1, a2, Bool.true_and, List.all_map]
            rfl
          rw [← e]
          exact h T kT
    · repeat fail
      have e : vecB (.tup xs) = false := by
        have : decide (1 ≤ xs.length) = false := decide_eq_false (by have := of_decide_eq_false h2; omega)
        unfold vecB
        simp only [this, Bool.false_and]
      rw [← e]
      exact h S (Kp.refl _)
end Q


namespace Q
open PySem PySem.Spec PyProof.Rows L2
variable {ca : CA}
abbrev Cs (ca : CA) : List Addr := [ca.c_VectorSet, ca.c_JumpSet]
abbrev CJ (ca : CA) : List Addr := [ca.c_JumpSet]
theorem cj_cs {A : Addr} (h : A ∈ CJ ca) : A ∈ Cs ca := List.mem_cons_of_mem _ h
theorem jset_cj (ca : CA) : ca.c_JumpSet ∈ CJ ca := by simp [CJ]
variable {ca : CA}
theorem islistI_sp {S : Store} {E : EK} {P : D → Store → Prop} {d : D} {xs : List D} (hd : itemsD d S = some xs) (h : P (.bl true) S) : wpE (M_is_list ca [d] S) P E := by
  refine wpE_def ?_
  unfold b_is_list
  repeat fail
  obtain ⟨q, h1, h2⟩ := kind_items hd
  refine wpO_isiA h1 ?_
  rcases h2 with rfl | rfl
  · exact h
  · exact h
variable {ca : CA}
theorem checkedF_sp {S : Store} {E : EK} {P : D → Store → Prop} {d : D} {xs : List D} {i : Nat} (hd : itemsD d S = some xs) (kd : ∀ x ∈ xs, Kinds S x) (hi : faultX xs = some i) (le : xs.length ≤ 1200)
    (h : ∀ q T, Kp S T → T[q]? = some (.xd [("index", .int ((i : Nat) : Int))]) → E ca.c_InvalidMembers (some q) T) : wpE (M_checked_members ca [d] S) P E := by
  have hz : 5000 < sizeLine := by decide
  have hbig : 5000 < bigN := by unfold bigN; omega
  obtain ⟨hil, hbad, hgood⟩ := fault_at hi
  have hlast : ∀ (j : Nat) (x : D) (U : Store), xs[j]? = some x → j ≤ i → fitX (headX xs) x = false → j = i := fun j x U hx hj hf => by
    rcases Nat.lt_or_ge j i with z | z
    · rw [hgood j x z hx] at hf; cases hf
    · omega
  refine wpE_def ?_
  unfold b_checked_members
  repeat fail
  refine islistI_sp hd ?_
  repeat fail
  refine wpO_len hd ?_
  repeat fail
  rw [decide_eq_true (by omega : (1 : Int) ≤ ((xs.length : Nat) : Int))]
  repeat fail
  rw [decide_eq_true (by omega : ((xs.length : Nat) : Int) ≤ 2000)]
  repeat fail
  refine wpE_enuI ?_
  repeat fail
  refine ⟨_, _, rfl, hd, fun mi hmi => ?_⟩
  refine wp_forL (xs.mapIdx fun k z => D.tup [.int ((k : Nat) : Int), z]) (fun j e U => ∃ x1 x2 : Option D, e = [some d, x1, x2, none] ∧ Kp S U ∧ j ≤ i) (fun j e U ⟨_, _, _, kU, _⟩ => hmi U (items_kp kU hd) j) (fun j z e U hz0 ⟨x1, x2, he, kU, hj⟩ => ?_) (fun e U ⟨x1, x2, he, kU, hj⟩ => ?_) xs.length bigN 0 _ _ (by rw [List.length_mapIdx]; omega) (by omega) ⟨none, none, rfl, Kp.refl _, Nat.zero_le _⟩
  · subst he
    rw [List.getElem?_mapIdx] at hz0
    obtain ⟨x, hx, rfl⟩ := Option.map_eq_some_iff.mp hz0
    have hm := List.mem_of_getElem? hx
    have hraise : ∀ T, Kp U T → j = i → wpS (mRaise ca.c_InvalidMembers ["index"] (mCons (mVar 1) mNil) [some d, some (.int ((j : Nat) : Int)), some x, none] T) (fun e V => ∃ x1 x2 : Option D, e = [some d, x1, x2, none] ∧ Kp S V ∧ j + 1 ≤ i) P (fun _ _ => False) (fun e V => ∃ x1 x2 : Option D, e = [some d, x1, x2, none] ∧ Kp S V ∧ j + 1 ≤ i) (fun c n _ T => E c n T) := fun T kT ej => by
      refine wpS_raise ?_
      repeat fail
      exact ⟨⟨rfl, (by decide : 1 ≤ 1000)⟩, fun q V kV _ hV => h q V (kU.trans (kT.trans kV)) (by rw [← ej]; exact hV)⟩
    refine ⟨_, rfl, ?_⟩
    repeat fail
    refine fits_sp (kinds_kp (kd x hm) kU) fun T kT => ?_
    cases hv : vecB x with
    | false =>
      repeat fail
      exact wpS_mono (hraise T kT (hlast j x U hx hj (by unfold fitX; rw [hv]; rfl))) (fun _ _ q => q) (fun _ _ q => q) (fun _ _ q => q.elim) (fun _ _ q => q) fun _ _ _ _ q => q
    | true =>
      obtain ⟨v, rfl, v1, v5, vb⟩ := vecB_vec4 hv
      repeat fail
      refine wpO_len (d := tupD v) (xs := v.map D.int) rfl ?_
      rw [List.length_map]
      repeat fail
      obtain ⟨w, hw⟩ : ∃ w : List Int, xs[0]? = some (tupD w) := by
        rcases Nat.eq_zero_or_pos j with rfl | hpos
        · exact ⟨v, hx⟩
        · have h0 : xs[0]? = some (xs[0]'(by omega)) := List.getElem?_eq_getElem (by omega)
          obtain ⟨w, e, _⟩ := fitX_vec (hgood 0 _ (by omega) h0)
          exact ⟨w, by rw [h0, e]⟩
      have eh : headX xs = w.length := by
        unfold headX
        rw [List.headD_eq_head?_getD, List.head?_eq_getElem?, hw]
        exact vlen_tup w
      refine wpO_subN (i := 0) (items_kp (kU.trans kT) hd) hw ?_
      repeat fail
      refine wpO_len (d := tupD w) (xs := w.map D.int) rfl ?_
      rw [List.length_map]
      repeat fail
      have ef : fitX (headX xs) (tupD v) = decide (v.length = w.length) := by unfold fitX; rw [hv, eh, vlen_tup]; rfl
      by_cases hvw : v.length = w.length
      · rw [show (!decide (((v.length : Nat) : Int) = ((w.length : Nat) : Int))) = false from by rw [hvw]; simp]
        repeat fail
        refine ⟨_, _, rfl, kU.trans kT, ?_⟩
        rcases Nat.lt_or_ge j i with z | z
        · omega
        · have ej : j = i := by omega
          have := hbad (tupD v) (by rw [← ej]; exact hx)
          rw [ef, decide_eq_true hvw] at this
          cases this
      · rw [show (!decide (((v.length : Nat) : Int) = ((w.length : Nat) : Int))) = true from by rw [decide_eq_false (by omega)]; rfl]
        repeat fail
        exact wpS_mono (hraise T kT (hlast j _ U hx hj (by rw [ef]; exact decide_eq_false hvw))) (fun _ _ q => q) (fun _ _ q => q) (fun _ _ q => q.elim) (fun _ _ q => q) fun _ _ _ _ q => q
  · rw [List.length_mapIdx] at hj
    omega
/-- no list, or an empty one -/
theorem checkedN_sp {S : Store} {E : EK} {P : D → Store → Prop} {d : D} {q : Kd} (hq : kindD d S = some q) (hn : ∀ xs, itemsD d S = some xs → xs = [])
    (h : ∀ q T, Kp S T → T[q]? = some (.xd [("index", .int (-1))]) → E ca.c_InvalidMembers (some q) T) : wpE (M_checked_members ca [d] S) P E := by
  refine wpE_def ?_
  unfold b_checked_members
  repeat fail
  refine wpE_def ?_
  unfold b_is_list
  repeat fail
  refine wpO_isiA hq ?_
  cases hx : itemsD d S with
  | none =>
    rw [kind_noitems hq hx]
    repeat fail
    refine wpS_raise ?_
    repeat fail
    exact ⟨⟨rfl, (by decide : 1 ≤ 1000)⟩, fun q V kV _ hV => h q V kV hV⟩
  | some xs =>
    obtain rfl := hn xs hx
    obtain ⟨q2, hq2, hk⟩ := kind_items hx
    rw [hq] at hq2
    cases hq2
    rw [show [Bt.lst, .tup].any (isKd q) = true from by rcases hk with rfl | rfl <;> rfl]
    repeat fail
    refine wpO_len hx ?_
    repeat fail
    rw [show decide ((1 : Int) ≤ (([] : List D).length : Nat)) = false from rfl]
    repeat fail
    refine wpS_raise ?_
    repeat fail
    exact ⟨⟨rfl, (by decide : 1 ≤ 1000)⟩, fun q V kV _ hV => h q V kV hV⟩
variable {ca : CA}
variable {ca : CA}
theorem steps_sp {S : Store} {E : EK} {P : D → Store → Prop} {x y : List Int} (hxy : x.length = y.length) (hl : x.length ≤ 100) (h : ∀ q T, Kp S T → S.length ≤ q → T[q]? = some (.lst ((stepsL x y).map stepD)) → P (.ref q) T) : wpE (M_steps_of ca [tupD x, tupD y] S) P E := by
  have hz : 5000 < sizeLine := by decide
  have hbig : 5000 < bigN := by unfold bigN; omega
  refine wpE_def ?_
  unfold b_steps_of
  repeat fail
  intro F T0 k0 l0 h0
  have e0 := k0.len
  repeat fail
  refine wpE_mEnu (wpE_zipI ?_)
  repeat fail
  refine ⟨tupD x, tupD y, x.map D.int, y.map D.int, rfl, rfl, rfl, fun mi hmi => ?_⟩
  refine wp_forL ((List.zipWith (fun a b => D.tup [a, b]) (x.map D.int) (y.map D.int)).mapIdx fun k z => D.tup [.int (0 + ((k : Nat) : Int)), z]) (fun i e U => ∃ x3 x4 x5 : Option D, e = [some (tupD x), some (tupD y), some (.ref F), x3, x4, x5] ∧ Kp S U ∧ U[F]? = some (.lst ((stepsTo x y i).map stepD))) (fun i e U _ => ?_) (fun i z e U hz0 ⟨x3, x4, x5, he, kU, hF⟩ => ?_) (fun e U ⟨x3, x4, x5, he, kU, hF⟩ => ?_) x.length bigN 0 _ _ (by rw [List.length_mapIdx, List.length_zipWith, List.length_map, List.length_map]; omega) (by omega) ⟨none, none, none, rfl, k0, h0⟩
  · show (nextM mi i U).map _ = _
    rw [hmi U rfl rfl i, List.getElem?_mapIdx]
    rfl
  · subst he
    have hi : i < x.length := by have := (List.getElem?_eq_some_iff.mp hz0).1; rw [List.length_mapIdx, List.length_zipWith, List.length_map, List.length_map] at this; omega
    rw [List.getElem?_mapIdx, List.getElem?_zipWith, List.getElem?_map, List.getElem?_map, List.getElem?_eq_getElem hi, List.getElem?_eq_getElem (by omega)] at hz0
    cases hz0
    refine ⟨_, rfl, ?_⟩
    have e1 : stepB1 x y i = if x[i] = y[i] then none else some (i, if x[i] < y[i] then 1 else -1) := by unfold stepB1; rw [getD_at hi, getD_at (by omega)]
    have hs := stepsTo_succ x y i
    rw [e1] at hs
    repeat fail
    refine ⟨fun hq => ?_, fun hq => ?_⟩
    · have hne : x[i] ≠ y[i] := of_decide_eq_false (by rw [Bool.not_eq_true'] at hq; exact hq)
      rw [if_neg hne] at hs
      repeat fail
      refine tyL hF ?_
      repeat fail
      have fin : ∀ s : Int, (if x[i] < y[i] then (1 : Int) else -1) = s → (U.set F (.lst ((stepsTo x y i).map stepD ++ [D.tup [.int (0 + ((i : Nat) : Int)), .int s]])))[F]? = some (.lst ((stepsTo x y (i + 1)).map stepD)) := fun s es => by
        rw [List.getElem?_set_self (lt_of_at hF), hs, List.map_append, es, Int.zero_add]
        rfl
      have hlen : ((stepsTo x y i).map stepD).length < sizeLine := by rw [List.length_map]; have := stepsTo_len x y i; omega
      refine ⟨fun hq => ?_, fun hq => ?_⟩
      · repeat fail
        refine wpO_app hF hlen ?_
        exact ⟨_, _, _, rfl, kU.setN l0, fin 1 (if_pos (of_decide_eq_true hq))⟩
      · repeat fail
        refine wpO_app hF hlen ?_
        exact ⟨_, _, _, rfl, kU.setN l0, fin (-1) (if_neg (of_decide_eq_false hq))⟩
    · have heq : x[i] = y[i] := of_decide_eq_true (by rw [Bool.not_eq_false'] at hq; exact hq)
      rw [if_pos heq, List.append_nil] at hs
      repeat fail
      exact ⟨_, _, _, rfl, kU, by rw [hs]; exact hF⟩
  · subst he
    rw [List.length_mapIdx, List.length_zipWith, List.length_map, List.length_map, ← hxy, Nat.min_self] at hF
    repeat fail
    exact h F U kU l0 hF
theorem after_sp {S : Store} {E : EK} {P : D → Store → Prop} {x : List Int} {p : Nat × Int} (hp : p.1 < x.length) (hl : x.length ≤ 100) (h : P (tupD (aftL x p)) S) : wpE (M_after ca [tupD x, stepD p] S) P E := by
  have hz : 5000 < sizeLine := by decide
  refine wpE_def ?_
  unfold b_after
  refine wpS_seq (wpS_asg ?_)
  repeat fail
  refine ⟨_, rfl, ?_⟩
  repeat fail
  have c1 := cut_take (x.map D.int) p.1 (by rw [List.length_map]; omega)
  have c2 := cut_drop (x.map D.int) (p.1 + 1) (by rw [List.length_map]; omega)
  refine wpO_of (d := .tup ((x.map D.int).take p.1)) (T := S) (by show some (D.tup (cutD (x.map D.int) none (some ((p.1 : Nat) : Int))), S) = _; rw [c1]) ?_
  refine ⟨_, rfl, ?_⟩
  repeat fail
  refine wpO_subN (d := tupD x) (xs := x.map D.int) rfl (z := .int x[p.1]) (by rw [List.getElem?_map, List.getElem?_eq_getElem hp]; rfl) ?_
  repeat fail
  refine wpO_of (d := .tup ((x.map D.int).drop (p.1 + 1))) (T := S) (by show some (D.tup (cutD (x.map D.int) (some (((p.1 : Nat) : Int) + 1)) none), S) = _; rw [show (((p.1 : Nat) : Int) + 1) = ((p.1 + 1 : Nat) : Int) from by omega, c2]) ?_
  refine ⟨_, rfl, ?_⟩
  repeat fail
  have e : (x.map D.int).take p.1 ++ (D.int (x[p.1] + p.2) :: ((x.map D.int).drop (p.1 + 1) ++ [])) = (aftL x p).map D.int := by
    unfold aftL
    rw [getD_at hp, List.append_nil, List.map_set, List.set_eq_take_append_cons_drop, if_pos (by rw [List.length_map]; exact hp)]
  refine ⟨?_, ?_⟩
  · have := congrArg List.length e
    rw [List.length_map, aft_len] at this
    simp only [List.append_nil] at this ⊢
    omega
  · show P (.tup _) S
    have h2 : D.tup ((aftL x p).map D.int) = tupD (aftL x p) := rfl
    rw [← h2, ← e] at h
    exact h
variable {ca : CA}
theorem exch_sp {Q : Nat} {S : Store} {E : EK} {P : D → Store → Prop} {ks : List (List Int)} {x y : List Int} {p : Nat × Int} (hQ : S[Q]? = some (.dcT (trueT ks []))) (hxy : x.length = y.length) (hl : x.length ≤ 100) (hp : p.1 < x.length) (h : ∀ T, Kp S T → P (.bl (exB ks x y p)) T) :
    wpE (M_is_exchanged ca [.ref Q, tupD x, tupD y, stepD p] S) P E := by
  have hz : 5000 < sizeLine := by decide
  have hbig : 5000 < bigN := by unfold bigN; omega
  have al := aft_len x p
  have gt : ∀ v, (getT (trueT ks []) v).isSome = decide (v ∈ ks) := fun v => by rw [getT_true, show (getT ([] : List (List Int × D)) v).isSome = false from rfl, Bool.or_false]
  refine wpE_def ?_
  unfold b_is_exchanged
  repeat fail
  refine after_sp hp hl ?_
  repeat fail
  refine wpO_inT hQ ?_
  rw [gt]
  repeat fail
  refine ⟨fun hm => ?_, fun hm => ?_⟩
  · have e : exB ks x y p = true := by unfold exB; rw [hm]; rfl
    rw [hm, ← e]
    exact h S (Kp.refl _)
  · have e : exB ks x y p = (stepsL (aftL x p) y).any fun q => decide (aftL (aftL x p) q ∈ ks) := by unfold exB; rw [hm, Bool.false_or]
    repeat fail
    refine steps_sp (by omega) (by omega) fun q T kT lq hq => ?_
    repeat fail
    refine exItI (items_ref hq) fun mi hmi => ?_
    have sl := stepsTo_len (aftL x p) y (aftL x p).length
    refine wp_compR ((stepsL (aftL x p) y).map stepD) ((stepsL (aftL x p) y).map fun q => decide (aftL (aftL x p) q ∈ ks)) (fun _ z b => z = D.bl b) (by rw [List.length_map, List.length_map]) (fun j V kV => hmi V (items_ref (kV _ _ hq)) j) (by rw [List.length_map]; show (stepsTo (aftL x p) y (aftL x p).length).length < _; omega) (by rw [List.length_map]; show (stepsTo (aftL x p) y (aftL x p).length).length < _; omega) (fun r z b V hz hb kV _ => ?_) (fun k V ys k8 hk h8 hzs => ?_)
    · rw [List.getElem?_map] at hz hb
      obtain ⟨g, hg, rfl⟩ := Option.map_eq_some_iff.mp hz
      rw [hg] at hb
      cases hb
      have hg1 := steps_at (List.mem_of_getElem? hg)
      refine ⟨_, rfl, ?_⟩
      repeat fail
      refine after_sp hg1 (by omega) ?_
      repeat fail
      refine wpO_inT ((kT.trans kV) _ _ hQ) ?_
      rw [gt]
      exact ⟨Kp.refl _, fun U _ => rfl⟩
    · rw [all2_eq (f := D.bl) hzs] at h8
      repeat fail
      refine wpO_any h8 ?_
      rw [List.any_map, show ((fun b : Bool => b) ∘ fun q => decide (aftL (aftL x p) q ∈ ks)) = fun q => decide (aftL (aftL x p) q ∈ ks) from rfl, ← e]
      exact h V (kT.trans k8)
variable {ca : CA}
theorem ff_sp {n : Nat} {S : Store} {E : EK} {P : D → Store → Prop} {ks : List (List Int)} (hn : n ≤ 100) (hk : ks.length ≤ 1000) (hl : ∀ v ∈ ks, v.length = n) (h : ∀ T, Kp S T → P (ffD (ffL ks)) T) : wpE (M_first_failure ca [.tup (ks.map tupD)] S) P E := by
  have hz : 5000 < sizeLine := by decide
  have hbig : 5000 < bigN := by unfold bigN; omega
  have lk : (ks.map tupD).length = ks.length := List.length_map ..
  obtain ⟨f3, hf3⟩ : ∃ f3 : List Int → List Int → (Nat × Int) → Option (List Int × List Int × (Nat × Int)), f3 = fun x y p => if exB ks x y p = true then none else some (x, y, p) := ⟨_, rfl⟩
  obtain ⟨f2, hf2⟩ : ∃ f2 : List Int → List Int → Option (List Int × List Int × (Nat × Int)), f2 = fun x y => (stepsL x y).findSome? (f3 x y) := ⟨_, rfl⟩
  obtain ⟨f1, hf1⟩ : ∃ f1 : List Int → Option (List Int × List Int × (Nat × Int)), f1 = fun x => ks.findSome? (f2 x) := ⟨_, rfl⟩
  have hff : ffL ks = ks.findSome? f1 := by rw [hf1, hf2, hf3]; rfl
  refine wpE_def ?_
  unfold b_first_failure
  refine wpS_seq (wpS_set (wpE_dctT ?_))
  repeat fail
  refine ⟨ks, fun U kU j => rfl, by omega, (show 2 < 5 from by decide), fun q T kT lT hT => ?_⟩
  repeat fail
  refine wp_forL (ks.map tupD) (fun i e U => ∃ x2 x3 x4 : Option D, e = [some (.tup (ks.map tupD)), some (.ref q), x2, x3, x4] ∧ Kp T U ∧ (ks.take i).findSome? f1 = none) (fun i e U _ => rfl) (fun i z e U hz0 ⟨x2, x3, x4, he, kU, n1⟩ => ?_) (fun e U ⟨x2, x3, x4, he, kU, n1⟩ => ?_) ks.length bigN 0 _ _ (by rw [lk, Nat.zero_add]) (by omega) ⟨_, _, _, rfl, Kp.refl _, rfl⟩
  · subst he
    rw [List.getElem?_map] at hz0
    obtain ⟨x, hxi, rfl⟩ := Option.map_eq_some_iff.mp hz0
    have hx := List.mem_of_getElem? hxi
    refine ⟨_, rfl, ?_⟩
    repeat fail
    refine wp_forL (ks.map tupD) (fun i e U => ∃ x3 x4 : Option D, e = [some (.tup (ks.map tupD)), some (.ref q), some (tupD x), x3, x4] ∧ Kp T U ∧ (ks.take i).findSome? (f2 x) = none) (fun i e U _ => rfl) (fun j z e U hz0 ⟨x3, x4, he, kU, n2⟩ => ?_) (fun e U ⟨x3, x4, he, kU, n2⟩ => ?_) ks.length bigN 0 _ _ (by rw [lk, Nat.zero_add]) (by omega) ⟨_, _, rfl, kU, rfl⟩
    · subst he
      rw [List.getElem?_map] at hz0
      obtain ⟨y, hyi, rfl⟩ := Option.map_eq_some_iff.mp hz0
      have hy := List.mem_of_getElem? hyi
      have lx := hl x hx
      have ly := hl y hy
      refine ⟨_, rfl, ?_⟩
      repeat fail
      refine steps_sp (by omega) (by omega) fun q2 T2 k2 l2 h2 => ?_
      repeat fail
      refine exItI (items_ref h2) fun mi hmi => ?_
      have sl := stepsTo_len x y x.length
      have sl2 : ((stepsL x y).map stepD).length = (stepsTo x y x.length).length := List.length_map ..
      refine wp_forL ((stepsL x y).map stepD) (fun i e U => ∃ x4 : Option D, e = [some (.tup (ks.map tupD)), some (.ref q), some (tupD x), some (tupD y), x4] ∧ Kp T2 U ∧ ((stepsL x y).take i).findSome? (f3 x y) = none) (fun i e U ⟨_, _, kU, _⟩ => hmi U (items_ref (kU _ _ h2)) i) (fun m z e U hz0 ⟨x4, he, kU3, n3⟩ => ?_) (fun e U ⟨x4, he, kU3, n3⟩ => ?_) ((stepsL x y).map stepD).length bigN 0 _ _ (by rw [Nat.zero_add]) (by omega) ⟨_, rfl, Kp.refl _, rfl⟩
      · subst he
        rw [List.getElem?_map] at hz0
        obtain ⟨p, hpi, rfl⟩ := Option.map_eq_some_iff.mp hz0
        have hp := List.mem_of_getElem? hpi
        have kTU := (kU.trans k2).trans kU3
        refine ⟨_, rfl, ?_⟩
        repeat fail
        refine exch_sp (ks := ks) (kTU _ _ hT) (by omega) (by omega) (steps_at hp) fun V kV => ?_
        cases hb : exB ks x y p with
        | true =>
          repeat fail
          exact ⟨_, rfl, kU3.trans kV, findSome_next hpi n3 (by rw [hf3]; show (if exB ks x y p = true then none else _) = none; rw [hb]; rfl)⟩
        | false =>
          repeat fail
          have g3 : f3 x y p = some (x, y, p) := by rw [hf3]; show (if exB ks x y p = true then none else _) = _; rw [hb]; rfl
          have g2 : f2 x y = some (x, y, p) := by rw [hf2]; exact findSome_cut hpi n3 _ g3
          have g1 : f1 x = some (x, y, p) := by rw [hf1]; exact findSome_cut hyi n2 _ g2
          have g0 : ffL ks = some (x, y, p) := by rw [hff]; exact findSome_cut hxi n1 _ g1
          have := h V (kT.trans (kTU.trans kV))
          rw [g0] at this
          exact this
      · rw [List.length_map, List.take_length] at n3
        exact ⟨_, _, he, (kU.trans k2).trans kU3, findSome_next hyi n2 (by rw [hf2]; exact n3)⟩
    · rw [lk, List.take_length] at n2
      exact ⟨_, _, _, he, kU, findSome_next hxi n1 (by rw [hf1]; exact n2)⟩
  · subst he
    rw [lk, List.take_length] at n1
    repeat fail
    have := h U (kT.trans kU)
    rw [hff, n1] at this
    exact this
variable {ca : CA}
variable {ca : CA}
variable {ca : CA}
end Q


namespace Q
open PySem PySem.Spec PyProof.Rows L2

end Q


namespace Q
open PySem PySem.Spec PyProof.Rows L2
variable {ca : CA}
/-- checked_members of vectors of one dimension, however many -/
theorem checkedL_sp {n : Nat} {S : Store} {E : EK} {P : D → Store → Prop} {d : D} {ds : List (List Int)} (h1 : 1 ≤ n) (h5 : n ≤ 5) (hd : itemsD d S = some (ds.map tupD)) (ok : Vs n 1000 ds) (ne : ds ≠ []) (le : ds.length ≤ 4000) (few : (nub ds).length < 1000)
    (h : ds.length ≤ 2000 → (nub ds).length ≤ 120 → ∀ T, Kp S T → P (.tup ((keptV ds).map tupD)) T) (no : (2000 < ds.length ∨ 120 < (nub ds).length) → ∀ q T, Kp S T → T[q]? = some (.xd [("index", .int (-1))]) → E ca.c_InvalidMembers (some q) T) : wpE (M_checked_members ca [d] S) P E := by
  have hz : 5000 < sizeLine := by decide
  have nle := nub_len ds
  have hbig : 5000 < bigN := by unfold bigN; omega
  have hpos := List.length_pos_iff.mpr ne
  refine wpE_def ?_
  unfold b_checked_members
  repeat fail
  refine islistI_sp hd ?_
  repeat fail
  refine wpO_len hd ?_
  rw [List.length_map]
  repeat fail
  rw [decide_eq_true (by omega : (1 : Int) ≤ ((ds.length : Nat) : Int))]
  repeat fail
  by_cases big : 2000 < ds.length
  · rw [decide_eq_false (by omega : ¬ ((ds.length : Nat) : Int) ≤ 2000)]
    repeat fail
    refine wpS_raise ?_
    repeat fail
    exact ⟨⟨rfl, (by decide : 1 ≤ 1000)⟩, fun q V kV _ hV => no (.inl big) q V kV hV⟩
  rw [decide_eq_true (by omega : ((ds.length : Nat) : Int) ≤ 2000)]
  repeat fail
  refine wpE_enuI ?_
  repeat fail
  refine ⟨_, _, rfl, hd, fun mi hmi => ?_⟩
  refine wp_forL ((ds.map tupD).mapIdx fun k z => D.tup [.int ((k : Nat) : Int), z]) (fun i e U => ∃ x1 x2 : Option D, e = [some d, x1, x2, none] ∧ Kp S U) (fun i e U ⟨_, _, _, kU⟩ => hmi U (items_kp kU hd) i) (fun i z e U hz0 ⟨x1, x2, he, kU⟩ => ?_) (fun e U ⟨x1, x2, he, kU⟩ => ?_) ds.length bigN 0 _ _ (by rw [List.length_mapIdx, List.length_map]; omega) (by omega) ⟨none, none, rfl, Kp.refl _⟩
  · subst he
    rw [List.getElem?_mapIdx, List.getElem?_map] at hz0
    obtain ⟨z', hz1, rfl⟩ := Option.map_eq_some_iff.mp hz0
    obtain ⟨v, hvi, rfl⟩ := Option.map_eq_some_iff.mp hz1
    have okv := ok v (List.mem_of_getElem? hvi)
    refine ⟨_, rfl, ?_⟩
    repeat fail
    refine fits_sp (kinds_vec v) fun T kT => ?_
    rw [vecB_tup, fit_ok h1 h5 okv]
    repeat fail
    refine wpO_len (d := tupD v) (xs := v.map D.int) rfl ?_
    rw [List.length_map, okv.1]
    repeat fail
    have hT := items_kp (kU.trans kT) hd
    obtain ⟨w, hw⟩ : ∃ w, ds[0]? = some w := ⟨ds[0], List.getElem?_eq_getElem hpos⟩
    have okw := ok w (List.mem_of_getElem? hw)
    refine wpO_subN (i := 0) hT (z := tupD w) (by rw [List.getElem?_map, hw]; rfl) ?_
    repeat fail
    refine wpO_len (d := tupD w) (xs := w.map D.int) rfl ?_
    rw [List.length_map, okw.1]
    repeat fail
    rw [show (!decide (((n : Nat) : Int) = ((n : Nat) : Int))) = false from by simp]
    repeat fail
    exact ⟨_, _, rfl, kU.trans kT⟩
  · subst he
    have hU := items_kp kU hd
    repeat fail
    refine wpE_sortS (wpE_setCN ?_)
    repeat fail
    refine exItI hU fun mi hmi => ?_
    refine ⟨ds, fun j => hmi U hU j, by omega, by omega, by simp, by omega, fun q T kT lT hT => ?_⟩
    repeat fail
    refine wpO_tuple (items_ref hT) ?_
    repeat fail
    rw [List.length_map]
    have := kept_len ds
    have kl : (sortK (nub ds)).length = (nub ds).length := kept_len ds
    rw [kl]
    by_cases many : 120 < (nub ds).length
    · rw [decide_eq_true (show (((nub ds).length : Nat) : Int) > 120 by omega)]
      repeat fail
      refine wpS_raise ?_
      repeat fail
      exact ⟨⟨rfl, (by decide : 1 ≤ 1000)⟩, fun q V kV _ hV => no (.inr many) q V (kU.trans (kT.trans kV)) hV⟩
    · rw [decide_eq_false (show ¬ (((nub ds).length : Nat) : Int) > 120 by omega)]
      repeat fail
      exact h (by omega) (by omega) T (kU.trans kT)
end Q


namespace Q
open PySem PySem.Spec PyProof.Rows L2
end Q


namespace Q
open PySem PySem.Spec PyProof.Rows L2
section
variable {en : En} {S : Store} {N : En → Store → Prop} {R : D → Store → Prop} {B C : En → Store → Prop} {X : XKs} {E : EK} {P : D → Store → Prop}
theorem wpS_tryK {Cc : Addr} {i : Nat} {mb r0 : MS} {ms rK : Addr → Addr → Option Nat → MS} (h : wpS (mb en S) (fun e T => wpS (r0 e T) N R B C X) R B C (fun c n e T => c = Cc ∧ ∃ q, (∀ a d, keepR i (ms a d n) (rK a d n) (e.set i (some (excV a d n))) T = q) ∧ wpS q N R B C X)) : wpS (mTryK Cc i mb ms rK r0 en S) N R B C X := by
  unfold mTryK
  cases q : mb en S with
  | err c n e T =>
    rw [q] at h
    obtain ⟨h1, q, h2, h3⟩ := h
    dsimp only
    rw [if_pos h1, keepC_eq h2]
    exact h3
  | _ => rw [q] at h; exact h
theorem keepR_rt {i : Nat} {ms rK : MS} {z : D} {T : Store} (h : wpS (ms en S) (fun e2 T2 => wpS (rK (e2.set i none) T2) (fun _ _ => False) (fun d U => d = z ∧ U = T) (fun _ _ => False) (fun _ _ => False) (fun _ _ _ _ => False)) (fun _ _ => False) (fun _ _ => False) (fun _ _ => False) (fun _ _ _ _ => False)) : keepR i ms rK en S = .rt z T := by
  unfold keepR
  cases q : ms en S with
  | nx e2 S2 =>
    rw [q] at h
    dsimp only
    have h : wpS (rK (e2.set i none) S2) _ _ _ _ _ := h
    cases q2 : rK (e2.set i none) S2 with
    | rt d U => rw [q2] at h; obtain ⟨h1, h2⟩ := h; rw [h1, h2]
    | _ => rw [q2] at h; exact h.elim
  | _ => rw [q] at h; exact h.elim
theorem wpE_xf {a x : Addr} {n i : Nat} {fs : List (Str × D)} {f : Str} {z : D} (h : S[n]? = some (.xd fs)) (hz : fs.lookup f = some z) (he : en[i]? = some (some (.exc a x n))) (p : P z S) : wpE (mXf a x (some n) f (mVar i) en S) P E := by
  rw [mXf_at h hz he]
  exact p
theorem wpE_isX {a x : Addr} {n i : Nat} {fs : List (Str × D)} {b : Bool} (h : S[n]? = some (.xd fs)) (he : en[i]? = some (some (.exc a x n))) (p : P (.bl b) S) : wpE (mIsX a x (some n) b (mVar i) en S) P E := by
  rw [mIsX_at h he]
  exact p
end
variable {ca : CA}
/-! ### indexes refused -/
/-! ### refused members: what the three calls answer -/
def fp (p : Nat) : Nat → Bool := fun i => decide (i = p)
theorem int_repr {z : Int} (hz : z.natAbs < 2 ^ 60) : ∃ x, ∀ T : Store, reprP (.int z) T = some x := by
  obtain ⟨x, hx⟩ := (Nc.int (n := 0) (S := ([] : Store)) hz).repr (by decide) (by decide) (by decide)
  exact ⟨x, fun T => hx T fun n o h => by simp at h⟩
theorem wpS_blkT {S : Store} {en : En} {N : En → Store → Prop} {R : D → Store → Prop} {B C : En → Store → Prop} {X : XKs} {tj j : Nat} {P : Addr} {q : Str} {mb : Addr → ME → MS} {M : MFT} {mes : List ME} (hS : S[tj]? = some (.tab P q)) (h : wpS (mLams j mb M mes en S) N R B C X) : wpS (mBlkT tj P q j mb M mes en S) N R B C X := by
  unfold mBlkT
  rw [if_pos hS]
  exact h
theorem told_m {S U : Store} {q : Nat} {d : D} {t : Str} (hq : U[q]? = some (.xd [("index", d)])) (ht : reprP d U = some t) : Ans 3 (b__law_refused ca) S (.err ca.c_InvalidMembers (some q) U) (.str t) U := by
  intro f T hT
  unfold b__law_refused
  repeat fail
  refine wpS_tryK ?_
  repeat fail
  refine wpE_thk rfl hT ?_
  dsimp only [wpE]
  refine ⟨rfl, .rt (.str t) U, fun a y => keepR_rt ?_, ⟨rfl, rfl⟩⟩
  repeat fail
  refine ⟨fun z => Bool.noConfusion z, fun _ => ?_⟩
  repeat fail
  refine wpE_isX hq rfl ?_
  repeat fail
  refine wpE_isX hq rfl ?_
  repeat fail
  refine wpE_xf hq rfl rfl ?_
  repeat fail
  refine wpO_reprS ht ?_
  repeat fail
  exact ⟨rfl, rfl⟩
theorem told_n {S U : Store} {d : D} : Ans 3 (b__law_refused ca) S (.ok d U) .non U := by
  intro f T hT
  unfold b__law_refused
  repeat fail
  refine wpS_tryK ?_
  repeat fail
  refine wpE_thk rfl hT ?_
  repeat fail
  exact ⟨rfl, rfl⟩
def CkBad (ca : CA) (d : D) (z : Int) (S : Store) : Prop := ∀ T, Kp S T → ∀ {P : D → Store → Prop} {E : EK}, (∀ q U, Kp T U → U[q]? = some (.xd [("index", .int z)]) → E ca.c_InvalidMembers (some q) U) → wpE (M_checked_members ca [d] T) P E
def CkOk (ca : CA) (d : D) (ks : List (List Int)) (S : Store) : Prop := ∀ T, Kp S T → ∀ {P : D → Store → Prop} {E : EK}, (∀ U, Kp T U → P (.tup (ks.map tupD)) U) → wpE (M_checked_members ca [d] T) P E
theorem CkBad.kp {d : D} {z : Int} {S T : Store} (h : CkBad ca d z S) (k : Kp S T) : CkBad ca d z T := fun U kU => h U (k.trans kU)
theorem CkOk.kp {d : D} {ks : List (List Int)} {S T : Store} (h : CkOk ca d ks S) (k : Kp S T) : CkOk ca d ks T := fun U kU => h U (k.trans kU)
section
variable {S : Store} {d : D} {z : Int} {P : D → Store → Prop} {E : EK} {ks : List (List Int)} {n : Nat}
theorem vinit_bad {K : Nat} (h : CkBad ca d z S) (hE : ∀ q U, Kp S U → U[q]? = some (.xd [("index", .int z)]) → E ca.c_InvalidMembers (some q) U) : wpE (M_VectorSet___init__ ca [.ref K, d] S) P E := by
  refine wpE_def ?_
  unfold b_VectorSet___init__
  repeat fail
  refine wpS_setF ?_
  repeat fail
  exact h S (Kp.refl _) hE
theorem jinit_bad {K : Nat} (hK : S[K]? = some (.ins ca.c_JumpSet [])) (h : CkBad ca d z S) (hE : ∀ q U, Kp S U → U[q]? = some (.xd [("index", .int z)]) → E ca.c_InvalidMembers (some q) U) : wpE (M_JumpSet___init__ ca [.ref K, d] S) P E := by
  refine wpE_def ?_
  unfold b_JumpSet___init__
  repeat fail
  refine wpE_supE rfl hK (jset_cj ca) ?_
  repeat fail
  exact vinit_bad h hE
theorem jfail_bad (h : CkBad ca d z S) (hE : ∀ q U, Kp S U → U[q]? = some (.xd [("index", .int z)]) → E ca.c_InvalidMembers (some q) U) : wpE (M_JumpSet_failure ca [d] S) P E := by
  refine wpE_def ?_
  unfold b_JumpSet_failure
  repeat fail
  exact h S (Kp.refl _) hE
theorem vinit_ok {K : Nat} {A : Addr} (hA : A ∈ Cs ca) (hK : S[K]? = some (.ins A [])) (hc : CkOk ca d ks S) (ln : ks.length ≤ 1000) (h : ∀ T, KpX K S T → SetAt T A K ks → P .non T) : wpE (M_VectorSet___init__ ca [.ref K, d] S) P E := by
  have hz : 5000 < sizeLine := by decide
  have hKl := lt_of_at hK
  refine wpE_def ?_
  unfold b_VectorSet___init__
  repeat fail
  refine wpS_setF ?_
  repeat fail
  refine hc S (Kp.refl _) fun T kT => ?_
  repeat fail
  refine ⟨K, A, _, rfl, kT _ _ hK, hA, by decide, ?_⟩
  have eT := kT.len
  obtain ⟨T1, hT1⟩ : ∃ T1, T1 = T.set K (.ins A (putFD "kept" (.tup (ks.map tupD)) [])) := ⟨_, rfl⟩
  rw [← hT1]
  have k1 : KpX K S T1 := by rw [hT1]; exact kT.x.trans KpX.set
  have hK1 : T1[K]? = some (.ins A [("kept", .tup (ks.map tupD))]) := by rw [hT1, List.getElem?_set_self (by omega)]; rfl
  have e1 := k1.len
  refine wpS_setF ?_
  refine wpE_dctT ?_
  repeat fail
  refine wpO_fld hK1 hA rfl ?_
  refine exItI (d := .tup (ks.map tupD)) rfl fun mi hmi => ?_
  refine ⟨ks, fun U _ j => hmi U rfl j, by omega, (show 2 < 3 from by decide), fun q U kU lU hU => ?_⟩
  repeat fail
  refine ⟨K, A, _, rfl, kU _ _ hK1, hA, (show 1 < 1000 from by decide), ?_⟩
  have eU := kU.len
  have qU := lt_of_at hU
  exact h _ ((k1.trans kU.x).trans KpX.set) ⟨q, by rw [List.getElem?_set_self (by omega)]; rfl, by rw [List.getElem?_set_ne (by omega)]; exact hU, by omega⟩
theorem jinit_ok {K : Nat} {A : Addr} (hA : A ∈ CJ ca) (hK : S[K]? = some (.ins A [])) (hc : CkOk ca d ks S) (ln : ks.length ≤ 1000) (hn : n ≤ 100) (hl : ∀ v ∈ ks, v.length = n) (hJ : ffL ks = none) (h : ∀ T, KpX K S T → P .non T) : wpE (M_JumpSet___init__ ca [.ref K, d] S) P E := by
  refine wpE_def ?_
  unfold b_JumpSet___init__
  repeat fail
  refine wpE_supE rfl hK hA ?_
  repeat fail
  refine vinit_ok (cj_cs hA) hK hc ln fun T kT hT => ?_
  obtain ⟨q, hT1, hT2, hT3⟩ := hT
  repeat fail
  refine wpO_fld hT1 hA rfl ?_
  repeat fail
  refine ff_sp (n := n) hn ln hl fun U kU => ?_
  rw [hJ]
  repeat fail
  rw [show (!isNonB (ffD none)) = false from rfl]
  repeat fail
  exact h U (kT.trans kU.x)
theorem jfail_ok (hc : CkOk ca d ks S) (ln : ks.length ≤ 1000) (hn : n ≤ 100) (hl : ∀ v ∈ ks, v.length = n) (hJ : ffL ks = none) (h : ∀ T, Kp S T → P .non T) : wpE (M_JumpSet_failure ca [d] S) P E := by
  refine wpE_def ?_
  unfold b_JumpSet_failure
  repeat fail
  refine hc S (Kp.refl _) fun T kT => ?_
  repeat fail
  refine ff_sp (n := n) hn ln hl fun U kU => ?_
  rw [hJ]
  exact h U (kT.trans kU)
end
/-! ### the law's question: all three refuse, or none -/
theorem lam_bad {en : En} {S : Store} {N : En → Store → Prop} {R : D → Store → Prop} {B C : En → Store → Prop} {X : XKs} {j : Nat} {me rhs : ME} {mes : List ME} {z : Int} {x : Str} (hj : ∀ f : Addr, (en.set j (some (.adr f))).set j none = en) (hl : j < en.length) (hme : ∀ f : Addr, me (en.set j (some (.adr f))) = me en)
    (hE : wpE (me en S) (fun _ _ => False) (fun c q U => c = ca.c_InvalidMembers ∧ ∃ r, q = some r ∧ Kp S U ∧ U[r]? = some (.xd [("index", .int z)]))) (hr : ∀ T, reprP (.int z) T = some x) (hR : ∀ (f : Addr) (T : Store), rhs (en.set j (some (.adr f))) T = .ok (.str x) T)
    (k : ∀ V, Kp S V → wpS (mLams j (fun _ at_ => mIfS (mB (m2 gNe at_ rhs)) (mRet (mC (.bl false))) mSkip) (M__law_refused ca) mes en V) N R B C X) : wpS (mLams j (fun _ at_ => mIfS (mB (m2 gNe at_ rhs)) (mRet (mC (.bl false))) mSkip) (M__law_refused ca) (me :: mes) en S) N R B C X := by
  unfold M__law_refused at k ⊢
  refine wpS_lams1 hj hl hme (wpE_mono hE (fun _ _ z => z.elim) fun c q U ⟨e, r, e2, kU, hU⟩ => ?_)
  subst e
  subst e2
  refine ⟨_, _, told_m hU (hr U), .str x, U, U, fun f => hR f U, ?_, k U kU⟩
  show some (D.bl (!decide (x = x)), U) = _
  simp
theorem lam_ok {en : En} {S : Store} {N : En → Store → Prop} {R : D → Store → Prop} {B C : En → Store → Prop} {X : XKs} {j : Nat} {me rhs : ME} {mes : List ME} (hj : ∀ f : Addr, (en.set j (some (.adr f))).set j none = en) (hl : j < en.length) (hme : ∀ f : Addr, me (en.set j (some (.adr f))) = me en)
    (hE : wpE (me en S) (fun _ U => Kp S U) (fun _ _ _ => False)) (hR : ∀ (f : Addr) (T : Store), rhs (en.set j (some (.adr f))) T = .ok .non T)
    (k : ∀ V, Kp S V → wpS (mLams j (fun _ at_ => mIfS (mB (m2 gNe at_ rhs)) (mRet (mC (.bl false))) mSkip) (M__law_refused ca) mes en V) N R B C X) : wpS (mLams j (fun _ at_ => mIfS (mB (m2 gNe at_ rhs)) (mRet (mC (.bl false))) mSkip) (M__law_refused ca) (me :: mes) en S) N R B C X := by
  unfold M__law_refused at k ⊢
  refine wpS_lams1 hj hl hme (wpE_mono hE (fun d U kU => ?_) fun _ _ _ z => z.elim)
  exact ⟨_, _, told_n, .non, U, U, fun f => hR f U, rfl, k U kU⟩
section
variable {S : Store} {d : D} {P : D → Store → Prop} {E : EK} {ks : List (List Int)} {n : Nat}
theorem kp_mid {S T : Store} {o : O} (k : KpX S.length (S ++ [o]) T) : Kp S T := fun a o ha => k.k a o (by have := lt_of_at ha; omega) (Kp.app a o ha)
theorem right_bad {z : Int} (hz : z.natAbs < 2 ^ 60) (hS : S[0]? = some (.tab ca.lP__law_right (("_law_right" : Str) ++ ".<locals>." ++ "<lambda>"))) (hc : CkBad ca d z S) (h : ∀ T, Kp S T → P (.bl true) T) : wpE (M__law_right ca [d, .int z] S) P E := by
  obtain ⟨x, hx⟩ := int_repr hz
  have hR : ∀ (f : Addr) (T : Store), (mIf (mB (m2 gIs (mVar 1) (mC .non))) (mC .non) (mCall (g1N gRepr) (mCons (mVar 1) mNil))) ([some d, some (.int z), some (.adr f)] : En) T = .ok (.str x) T := fun f T => by
    show (ofOpt (gRepr (.int z) T)) = _
    unfold gRepr
    rw [hx T]
    rfl
  refine wpE_def ?_
  unfold b__law_right
  repeat fail
  refine wpS_blkT hS ?_
  refine lam_bad (z := z) (x := x) (fun _ => rfl) (by simp [startE]) (fun _ => rfl) ?_ hx hR fun V1 k1 => ?_
  · refine wpE_make ?_
    repeat fail
    exact vinit_bad (hc.kp Kp.app) fun q U kU hU => ⟨rfl, q, rfl, Kp.app.trans kU, hU⟩
  refine lam_bad (z := z) (x := x) (fun _ => rfl) (by simp [startE]) (fun _ => rfl) ?_ hx hR fun V2 k2 => ?_
  · refine wpE_make ?_
    repeat fail
    exact jinit_bad at_mid (hc.kp (k1.trans Kp.app)) fun q U kU hU => ⟨rfl, q, rfl, Kp.app.trans kU, hU⟩
  refine lam_bad (z := z) (x := x) (fun _ => rfl) (by simp [startE]) (fun _ => rfl) ?_ hx hR fun V3 k3 => ?_
  · repeat fail
    exact jfail_bad (hc.kp (k1.trans k2)) fun q U kU hU => ⟨rfl, q, rfl, kU, hU⟩
  refine wpS_lams0 ?_
  repeat fail
  exact h V3 (k1.trans (k2.trans k3))
theorem right_ok (hS : S[0]? = some (.tab ca.lP__law_right (("_law_right" : Str) ++ ".<locals>." ++ "<lambda>"))) (hc : CkOk ca d ks S) (ln : ks.length ≤ 1000) (hn : n ≤ 100) (hl : ∀ v ∈ ks, v.length = n) (hJ : ffL ks = none) (h : ∀ T, Kp S T → P (.bl true) T) : wpE (M__law_right ca [d, .non] S) P E := by
  refine wpE_def ?_
  unfold b__law_right
  repeat fail
  refine wpS_blkT hS ?_
  refine lam_ok (fun _ => rfl) (by simp [startE]) (fun _ => rfl) ?_ (fun f T => rfl) fun V1 k1 => ?_
  · refine wpE_make ?_
    repeat fail
    exact vinit_ok (by simp [Cs]) at_mid (hc.kp Kp.app) ln fun T kT _ => ⟨rfl, kp_mid kT⟩
  refine lam_ok (fun _ => rfl) (by simp [startE]) (fun _ => rfl) ?_ (fun f T => rfl) fun V2 k2 => ?_
  · refine wpE_make ?_
    repeat fail
    exact jinit_ok (jset_cj ca) at_mid (hc.kp (k1.trans Kp.app)) ln hn hl hJ fun T kT => ⟨rfl, kp_mid kT⟩
  refine lam_ok (fun _ => rfl) (by simp [startE]) (fun _ => rfl) ?_ (fun f T => rfl) fun V3 k3 => ?_
  · repeat fail
    exact jfail_ok (hc.kp (k1.trans k2)) ln hn hl hJ fun T kT => kT
  refine wpS_lams0 ?_
  repeat fail
  exact h V3 (k1.trans (k2.trans k3))
end
end Q


namespace Q
open PySem PySem.Spec PyProof.Rows L2
variable {ca : CA}
/-! ### what cannot be a member -/
def othersL (n : Nat) : List (List Int) := [List.replicate (n % 5 + 1) 0] ++ (if n < 5 then [List.replicate (n + 1) 0] else [])
structure OddV (p n : Nat) (d : D) (T : Store) : Prop where
  kinds : ∀ U, KpX p T U → Kinds U d
  fit : fitX n d = false
  inn : ∀ (U : Store) (q : Nat) (P : D → Store → Prop), KpX p T U → U[q]? = some (.lst ((othersL n).map tupD)) → P (.bl (!vecB d)) U → wpO (gNotInT d (.ref q) U) P
  vec : vecB d = true → ∃ m, m ≠ n ∧ 1 ≤ m ∧ m ≤ 5 ∧ d = tupD (List.replicate m 0)
def flatB : D → Bool
  | .non => true
  | .bl _ => true
  | .int _ => true
  | .str _ => true
  | .tup _ => true
  | _ => false
theorem flat_kind {d : D} (h : flatB d = true) : ∃ q, ∀ T : Store, kindD d T = some q := by
  cases d with
  | non => exact ⟨_, fun _ => rfl⟩
  | bl b => exact ⟨_, fun _ => rfl⟩
  | int i => exact ⟨_, fun _ => rfl⟩
  | str s => exact ⟨_, fun _ => rfl⟩
  | tup xs => exact ⟨_, fun _ => rfl⟩
  | _ => cases h
theorem flat_kinds {d : D} {S : Store} (h : flatB d = true) (h2 : ∀ xs, d = .tup xs → xs.all flatB = true) : Kinds S d := by
  obtain ⟨q, hq⟩ := flat_kind h
  refine ⟨⟨q, fun T _ => hq T⟩, fun xs e x hx => ?_⟩
  obtain ⟨q, hq⟩ := flat_kind (List.all_eq_true.mp (h2 xs e) x hx)
  exact ⟨q, fun T _ => hq T⟩
theorem py_othersL (n : Nat) {S : Store} {q : Nat} (h : S[q]? = some (.lst ((othersL n).map tupD))) : pyD S (.ref q) = some (.list ((othersL n).map fun v => PyData.tuple (v.map PyData.int))) := by
  unfold pyD
  unfold toPy
  rw [h]
  dsimp only
  rw [show ((othersL n).map tupD) = (othersL n).map fun w => D.tup (w.map D.int) from rfl, py_vecs]
  rfl
theorem in_others {n : Nat} {d : D} {pd : PyData} {S : Store} {q : Nat} {b : Bool} (h : S[q]? = some (.lst ((othersL n).map tupD))) (hp : pyD S d = some pd) (hs : SeqAt.shaped pd = true) (h2 : SeqAt.shaped (.list ((othersL n).map fun v => PyData.tuple (v.map PyData.int))) = true)
    (hb : (((othersL n).map fun v => PyData.tuple (v.map PyData.int)).any fun z => PyData.eqv z pd) = b) : inD d (.ref q) S = some b := by
  unfold inD
  rw [hp, py_othersL n h]
  simp only [Option.bind_some]
  rw [if_pos ⟨hs, h2⟩, hb]
theorem odd_tup {p n : Nat} {xs : List D} {T : Store} {ps : List PyData} (hf : xs.all flatB = true) (hx : fitX n (.tup xs) = false) (hp : ∀ U : Store, pyD U (.tup xs) = some (.tuple ps)) (hs : SeqAt.shaped (.tuple ps) = true) (h2 : SeqAt.shaped (.list ((othersL n).map fun v => PyData.tuple (v.map PyData.int))) = true)
    (hb : (((othersL n).map fun v => PyData.tuple (v.map PyData.int)).any fun z => PyData.eqv z (.tuple ps)) = vecB (.tup xs)) (hv : vecB (.tup xs) = true → ∃ m, m ≠ n ∧ 1 ≤ m ∧ m ≤ 5 ∧ D.tup xs = tupD (List.replicate m 0)) : OddV p n (.tup xs) T :=
  ⟨fun U _ => flat_kinds rfl fun _ e => by cases e; exact hf, hx, fun U q P _ h hP => wpO_ninX (in_others h (hp U) hs h2 hb) hP, hv⟩
theorem shaped_others {n : Nat} (h1 : 1 ≤ n) (h5 : n ≤ 5) : SeqAt.shaped (.list ((othersL n).map fun v => PyData.tuple (v.map PyData.int))) = true := by
  rcases (by omega : n = 1 ∨ n = 2 ∨ n = 3 ∨ n = 4 ∨ n = 5) with rfl | rfl | rfl | rfl | rfl <;> decide
theorem odd_flat {p n : Nat} {d : D} {pd : PyData} {T : Store} (h1 : 1 ≤ n) (h5 : n ≤ 5) (hf : flatB d = true) (ht : ∀ xs, d ≠ .tup xs) (hp : ∀ U : Store, pyD U d = some pd) (hs : SeqAt.shaped pd = true)
    (hb : ∀ ps : List PyData, PyData.eqv (.tuple ps) pd = false) : OddV p n d T := by
  have hv : vecB d = false := vecB_no ht
  refine ⟨fun U _ => flat_kinds hf fun xs e => (ht xs e).elim, ?_, fun U q P _ h hP => wpO_ninX (in_others h (hp U) hs (shaped_others h1 h5) ?_) hP, fun z => by rw [hv] at z; cases z⟩
  · unfold fitX
    rw [hv]
    rfl
  · rw [hv]
    refine List.any_eq_false.mpr fun x hx => ?_
    obtain ⟨v, _, rfl⟩ := List.mem_map.mp hx
    rw [hb]
    decide
theorem odd_ref {p n a : Nat} {o : O} {pd : PyData} {q0 : Kd} {T : Store} (h1 : 1 ≤ n) (h5 : n ≤ 5) (hap : a ≠ p) (ha : T[a]? = some o) (hk : ∀ U : Store, U[a]? = some o → kindD (.ref a) U = some q0) (hp : ∀ U : Store, U[a]? = some o → pyD U (.ref a) = some pd) (hs : SeqAt.shaped pd = true)
    (hb : ∀ ps : List PyData, PyData.eqv (.tuple ps) pd = false) : OddV p n (.ref a) T := by
  refine ⟨fun U k => ⟨⟨q0, fun V kV => hk V (kV _ _ (k.k _ _ hap ha))⟩, fun xs e => by cases e⟩, rfl, fun U q P k h hP => wpO_ninX (in_others (b := false) h (hp U (k.k _ _ hap ha)) hs (shaped_others h1 h5) ?_) hP, fun z => by cases z⟩
  refine List.any_eq_false.mpr fun x hx => ?_
  obtain ⟨v, _, rfl⟩ := List.mem_map.mp hx
  rw [hb]
  decide
theorem odd_dct {p n a : Nat} {T : Store} (h1 : 1 ≤ n) (h5 : n ≤ 5) (hap : a ≠ p) (ha : T[a]? = some (.dct [])) : OddV p n (.ref a) T := by
  have hp : ∀ U : Store, U[a]? = some (.dct []) → pyD U (.ref a) = some (.dict []) := fun U h => by
    unfold pyD
    unfold toPy
    rw [h]
    rfl
  refine ⟨fun U k => ⟨⟨.dct, fun V kV => by unfold kindD; dsimp only; rw [kV _ _ (k.k _ _ hap ha)]⟩, fun xs e => by cases e⟩, rfl, fun U q P k h hP => wpO_ninXd ?_ ?_ hP, fun z => by cases z⟩
  · unfold inD
    rw [hp U (k.k _ _ hap ha), py_othersL n h]
    simp only [Option.bind_some]
    rw [if_neg fun z => by cases z.1]
  · unfold dctTup
    rw [hp U (k.k _ _ hap ha), py_othersL n h]
    show (List.map _ (othersL n)).all isTupP = true
    refine List.all_eq_true.mpr fun x hx => ?_
    obtain ⟨v, _, rfl⟩ := List.mem_map.mp hx
    rfl
theorem rep1 (k : Nat) (x : D) : (List.replicate k [x]).flatten = List.replicate k x := by
  induction k with
  | zero => rfl
  | succ k ih => rw [List.replicate_succ, List.flatten_cons, ih]; rfl
theorem odd_sp {p c i n : Nat} {S : Store} {E : EK} {Q : D → Store → Prop} (P0 : Pen p c i S) (hi : i < 2 ^ 60) (h1 : 1 ≤ n) (h5 : n ≤ 5) (k : ∀ d T, OddV p n d T → Pen p c (i + 2) T → KpX p S T → Q d T) : wpE (M__law_odd ca [.ref p, .int ((n : Nat) : Int)] S) Q E := by
  have lp := P0.lt
  have hsz : 5000 < sizeLine := by decide
  refine wpE_def ?_
  unfold b__law_odd
  repeat fail
  intro a1 S1 k1 l1 e1
  repeat fail
  intro a2 S2 k2 l2 e2
  repeat fail
  refine wpO_repL (k := n) e2 (by omega) (by simp only [List.length_cons, List.length_nil]; omega) fun a3 S3 k3 l3 e3 => ?_
  rw [rep1] at e3
  repeat fail
  refine wpO_mulT (k := n) (by simp) h1 (by omega) (by decide) ?_
  rw [rep1]
  repeat fail
  refine wpO_mulT (k := n) (by simp) h1 (by omega) (by decide) ?_
  rw [rep1]
  repeat fail
  rw [show ((n : Nat) : Int) + 1 = ((n + 1 : Nat) : Int) by omega]
  refine wpO_mulT (k := n + 1) (by simp) (by omega) (by omega) (by decide) ?_
  rw [rep1]
  repeat fail
  intro L1 S4 k4 l4 e4
  repeat fail
  rw [show ((n : Nat) : Int) - 1 = ((n - 1 : Nat) : Int) by omega]
  refine wpO_mulZ (k := n - 1) (by simp) (by omega) (by decide) ?_
  rw [rep1]
  repeat fail
  intro L2 S5 k5 l5 e5
  repeat fail
  have P5 := P0.kp (((k1.trans k2).trans (k3.trans k4)).trans k5)
  have z1 := k1.len
  have z2 := k2.len
  have z3 := k3.len
  have z4 := k4.len
  have z5 := k5.len
  refine pick_sp P5 (by omega) e5 (by omega) (by simp) (by simp) fun w S6 hw P6 x6 => ?_
  repeat fail
  refine wpO_addT (by rw [List.length_replicate]; simp only [List.length_cons, List.length_nil]; omega) ?_
  repeat fail
  intro L3 S7 k7 l7 e7
  repeat fail
  have z6 := x6.len
  have z7 := k7.len
  refine wpO_addL (k7 _ _ (x6.k _ _ (by omega) (k5 _ _ e4))) e7 (by simp only [List.length_cons, List.length_nil]; omega) fun L4 S8 k8 l8 e8 => ?_
  repeat fail
  refine wpO_mulT (k := n) (by simp) h1 (by omega) (by decide) ?_
  rw [rep1]
  repeat fail
  refine wpO_mulT (k := n) (by simp) h1 (by omega) (by decide) ?_
  rw [rep1]
  repeat fail
  intro a9 S9 k9 l9 e9
  repeat fail
  refine wpO_mulT (k := n) (by simp) h1 (by omega) (by decide) ?_
  rw [rep1]
  repeat fail
  rw [show ((n : Nat) : Int) % 5 + 1 = ((n % 5 + 1 : Nat) : Int) by omega]
  refine wpO_mulT (k := n % 5 + 1) (by simp) (by omega) (by omega) (by decide) ?_
  rw [rep1]
  repeat fail
  intro LA SA kA lA eA
  repeat fail
  have z8 := k8.len
  have z9 := k9.len
  refine wpO_addL (kA _ _ (k9 _ _ e8)) eA (by simp only [List.length_cons, List.length_nil, List.length_append]; omega) fun LB SB kB lB eB => ?_
  repeat fail
  have zA := kA.len
  have zB := kB.len
  have PB := (((P6.kp k7).kp k8).kp k9).kp (kA.trans kB)
  refine pick_sp PB (by omega) eB (by omega) (by simp) (by simp) fun d SC hd PC xC => ?_
  repeat fail
  have xx : KpX p S SC := (((k1.trans k2).trans (k3.trans k4)).trans k5).x.trans ((x6.trans ((k7.trans k8).trans (k9.trans (kA.trans kB))).x).trans xC)
  refine k d SC ?_ PC xx
  have up1 : ∀ a o, a ≠ p → S1[a]? = some o → SC[a]? = some o := fun a o n h => xC.k _ _ n (((k7.trans k8).trans (k9.trans (kA.trans kB))) _ _ (x6.k _ _ n (((k2.trans k3).trans (k4.trans k5)) _ _ h)))
  have up3 : ∀ a o, a ≠ p → S3[a]? = some o → SC[a]? = some o := fun a o n h => xC.k _ _ n (((k7.trans k8).trans (k9.trans (kA.trans kB))) _ _ (x6.k _ _ n ((k4.trans k5) _ _ h)))
  have up9 : ∀ a o, a ≠ p → S9[a]? = some o → SC[a]? = some o := fun a o n h => xC.k _ _ n ((kA.trans kB) _ _ h)
  have E1 := up1 _ _ (by omega) e1
  have E3 := up3 _ _ (by omega) e3
  have E9 := up9 _ _ (by omega) e9
  simp only [List.mem_append, List.mem_cons, List.not_mem_nil, or_false] at hd hw
  have ne1 : a1 ≠ p := by omega
  have ne3 : a3 ≠ p := by omega
  have ne9 : a9 ≠ p := by omega
  clear k hsz P0 lp k1 k2 k3 k4 k5 k7 k8 k9 kA kB x6 xC xx up1 up3 up9 e1 e2 e3 e4 e5 e7 e8 e9 eA eB P5 P6 PB PC
  have hn : n = 1 ∨ n = 2 ∨ n = 3 ∨ n = 4 ∨ n = 5 := by omega
  rcases hd with ((rfl | rfl | rfl | rfl | rfl | rfl | rfl | rfl | rfl | rfl | rfl) | rfl) | rfl | rfl | rfl | rfl | rfl
  · exact odd_flat h1 h5 rfl (fun _ => by simp) (fun U => rfl) (by decide) (fun _ => rfl)
  · exact odd_flat h1 h5 rfl (fun _ => by simp) (fun U => rfl) (by decide) (fun _ => rfl)
  · exact odd_flat h1 h5 rfl (fun _ => by simp) (fun U => rfl) (by decide) (fun _ => rfl)
  · exact odd_flat h1 h5 rfl (fun _ => by simp) (fun U => rfl) (by decide +kernel) (fun _ => rfl)
  · exact odd_flat h1 h5 rfl (fun _ => by simp) (fun U => rfl) (by decide +kernel) (fun _ => rfl)
  · (rcases hn with rfl | rfl | rfl | rfl | rfl <;> exact odd_tup (by decide) (by decide) (fun U => rfl) (by decide) (shaped_others (by decide) (by decide)) (by decide) (fun z => absurd z (by decide)))
  · exact odd_ref h1 h5 ne1 E1 (fun U h => by unfold kindD; dsimp only; rw [h]) (fun U h => py_nil h) (by decide) (fun _ => rfl)
  · refine odd_ref (pd := .list (List.replicate n (.int 0))) h1 h5 ne3 E3 (fun U h => by unfold kindD; dsimp only; rw [h]) (fun U h => ?_) ?_ (fun _ => rfl)
    · unfold pyD
      unfold toPy
      rw [h]
      dsimp only
      rw [show List.replicate n (D.int 0) = (List.replicate n (0 : Int)).map D.int from (List.map_replicate ..).symm, py_ints, List.map_replicate]
      rfl
    · rcases hn with rfl | rfl | rfl | rfl | rfl <;> decide
  · (rcases hn with rfl | rfl | rfl | rfl | rfl <;> exact odd_tup (by decide) (by decide) (fun U => rfl) (by decide) (shaped_others (by decide) (by decide)) (by decide) (fun z => absurd z (by decide)))
  · (rcases hn with rfl | rfl | rfl | rfl | rfl <;> exact odd_tup (by decide) (by decide) (fun U => rfl) (by decide) (shaped_others (by decide) (by decide)) (by decide) (fun z => absurd z (by decide)))
  · rcases hn with rfl | rfl | rfl | rfl | rfl
    · exact odd_tup (by decide) (by decide) (fun U => rfl) (by decide) (shaped_others (by decide) (by decide)) (by decide) (fun z => ⟨2, by decide, by decide, by decide, rfl⟩)
    · exact odd_tup (by decide) (by decide) (fun U => rfl) (by decide) (shaped_others (by decide) (by decide)) (by decide) (fun z => ⟨3, by decide, by decide, by decide, rfl⟩)
    · exact odd_tup (by decide) (by decide) (fun U => rfl) (by decide) (shaped_others (by decide) (by decide)) (by decide) (fun z => ⟨4, by decide, by decide, by decide, rfl⟩)
    · exact odd_tup (by decide) (by decide) (fun U => rfl) (by decide) (shaped_others (by decide) (by decide)) (by decide) (fun z => ⟨5, by decide, by decide, by decide, rfl⟩)
    · exact odd_tup (by decide) (by decide) (fun U => rfl) (by decide) (shaped_others (by decide) (by decide)) (by decide) (fun z => absurd z (by decide))
  · rcases hw with rfl | rfl | rfl | rfl
    · (rcases hn with rfl | rfl | rfl | rfl | rfl <;> exact odd_tup (by decide) (by decide) (fun U => rfl) (by decide) (shaped_others (by decide) (by decide)) (by decide) (fun z => absurd z (by decide)))
    · (rcases hn with rfl | rfl | rfl | rfl | rfl <;> exact odd_tup (by decide) (by decide) (fun U => rfl) (by decide) (shaped_others (by decide) (by decide)) (by decide) (fun z => absurd z (by decide)))
    · (rcases hn with rfl | rfl | rfl | rfl | rfl <;> exact odd_tup (by decide) (by decide) (fun U => rfl) (by decide) (shaped_others (by decide) (by decide)) (by decide) (fun z => absurd z (by decide)))
    · (rcases hn with rfl | rfl | rfl | rfl | rfl <;> exact odd_tup (by decide) (by decide) (fun U => rfl) (by decide) (shaped_others (by decide) (by decide)) (by decide) (fun z => absurd z (by decide)))
  · (rcases hn with rfl | rfl | rfl | rfl | rfl <;> exact odd_tup (by decide) (by decide) (fun U => rfl) (by decide +kernel) (shaped_others (by decide) (by decide)) (by decide +kernel) (fun z => absurd z (by decide)))
  · (rcases hn with rfl | rfl | rfl | rfl | rfl <;> exact odd_tup (by decide) (by decide) (fun U => rfl) (by decide) (shaped_others (by decide) (by decide)) (by decide) (fun z => absurd z (by decide)))
  · exact odd_dct h1 h5 ne9 E9
  · (rcases hn with rfl | rfl | rfl | rfl | rfl <;> exact odd_tup (by decide) (by decide) (fun U => rfl) (by decide) (shaped_others (by decide) (by decide)) (by decide) (fun z => absurd z (by decide)))
  · rcases hn with rfl | rfl | rfl | rfl | rfl
    · exact odd_tup (by decide) (by decide) (fun U => rfl) (by decide) (shaped_others (by decide) (by decide)) (by decide) (fun z => ⟨2, by decide, by decide, by decide, rfl⟩)
    · exact odd_tup (by decide) (by decide) (fun U => rfl) (by decide) (shaped_others (by decide) (by decide)) (by decide) (fun z => ⟨3, by decide, by decide, by decide, rfl⟩)
    · exact odd_tup (by decide) (by decide) (fun U => rfl) (by decide) (shaped_others (by decide) (by decide)) (by decide) (fun z => ⟨4, by decide, by decide, by decide, rfl⟩)
    · exact odd_tup (by decide) (by decide) (fun U => rfl) (by decide) (shaped_others (by decide) (by decide)) (by decide) (fun z => ⟨5, by decide, by decide, by decide, rfl⟩)
    · exact odd_tup (by decide) (by decide) (fun U => rfl) (by decide) (shaped_others (by decide) (by decide)) (by decide) (fun z => ⟨1, by decide, by decide, by decide, rfl⟩)
end Q


namespace Q
open PySem PySem.Spec PyProof.Rows L2
variable {ca : CA}
/-! ### which lists are refused -/
section
variable {S : Store} {d : D} {n : Nat} {ds : List (List Int)} {xs : List D}
theorem ck_ok (h1 : 1 ≤ n) (h5 : n ≤ 5) (hd : itemsD d S = some (ds.map tupD)) (ok : Vs n 1000 ds) (ne : ds ≠ []) (le : ds.length ≤ 2000) (few : (nub ds).length ≤ 120) : CkOk ca d (keptV ds) S :=
  fun T kT P E h => checkedL_sp h1 h5 (items_kp kT hd) ok ne (by omega) (by omega) (fun _ _ U kU => h U kU) fun hb => by omega
theorem ck_big (h1 : 1 ≤ n) (h5 : n ≤ 5) (hd : itemsD d S = some (ds.map tupD)) (ok : Vs n 1000 ds) (ne : ds ≠ []) (le : ds.length ≤ 4000) (few : (nub ds).length < 1000) (hb : 2000 < ds.length ∨ 120 < (nub ds).length) : CkBad ca d (-1) S :=
  fun T kT P E h => checkedL_sp h1 h5 (items_kp kT hd) ok ne le few (fun a b => by omega) fun _ => h
theorem ck_fault {i : Nat} (hd : itemsD d S = some xs) (kd : ∀ x ∈ xs, Kinds S x) (hi : faultX xs = some i) (le : xs.length ≤ 1200) : CkBad ca d ((i : Nat) : Int) S :=
  fun T kT P E h => checkedF_sp (items_kp kT hd) (fun x hx => kinds_kp (kd x hx) kT) hi le h
theorem ck_none {q : Kd} (hq : ∀ T, Kp S T → kindD d T = some q) (hn : ∀ T, Kp S T → ∀ ys, itemsD d T = some ys → ys = []) : CkBad ca d (-1) S :=
  fun T kT P E h => checkedN_sp (hq T kT) (hn T kT) h
end
theorem fault_behind {n : Nat} {ds : List (List Int)} {b : D} {r : List D} (h1 : 1 ≤ n) (h5 : n ≤ 5) (ok : Vs n 1000 ds) (ne : ds ≠ []) (hb : fitX n b = false) : faultX (ds.map tupD ++ b :: r) = some ds.length := by
  have hh : headX (ds.map tupD ++ b :: r) = n := by
    cases ds with
    | nil => exact (ne rfl).elim
    | cons v vs => exact (vlen_tup v).trans (ok v List.mem_cons_self).1
  have hn := fault_vecs h1 h5 ok
  have hh2 : headX (ds.map tupD) = n := by
    cases ds with
    | nil => exact (ne rfl).elim
    | cons v vs => exact (vlen_tup v).trans (ok v List.mem_cons_self).1
  unfold faultX at hn ⊢
  rw [hh2] at hn
  rw [hh, List.findIdx?_append, hn, List.findIdx?_cons, hb, List.length_map]
  simp
theorem fault_first {b : D} {r : List D} (hb : vecB b = false) : faultX (b :: r) = some 0 := by
  unfold faultX
  rw [List.findIdx?_cons]
  have : fitX (headX (b :: r)) b = false := by unfold fitX; rw [hb]; rfl
  rw [this]
  rfl
theorem fault_second {m n : Nat} {v : List Int} {r : List D} (hm1 : 1 ≤ m) (hm5 : m ≤ 5) (hn : v.length = n) (hmn : m ≠ n) : faultX (tupD (List.replicate m 0) :: tupD v :: r) = some 1 := by
  have hh : headX (tupD (List.replicate m 0) :: tupD v :: r) = m := (vlen_tup _).trans (List.length_replicate ..)
  unfold faultX
  rw [hh, List.findIdx?_cons]
  have h0 : fitX m (tupD (List.replicate m 0)) = true := by
    have := fault_vecs (ds := [List.replicate m 0]) hm1 hm5 (fun w hw => by
      rw [List.mem_singleton.mp hw]
      exact ⟨List.length_replicate .., fun z hz => by rw [(List.mem_replicate.mp hz).2]; decide⟩)
    unfold faultX at this
    have hh3 : headX ([List.replicate m 0].map tupD) = m := (vlen_tup _).trans (List.length_replicate ..)
    rw [hh3] at this
    cases q : fitX m (tupD (List.replicate m 0)) with
    | true => rfl
    | false =>
      rw [List.map_cons, List.findIdx?_cons, q] at this
      cases this
  have h2 : fitX m (tupD v) = false := by
    unfold fitX
    rw [vlen_tup, hn, decide_eq_false (fun z => hmn z.symm), Bool.and_false]
  rw [h0, List.findIdx?_cons, h2]
  rfl
def rowsV (n m : Nat) : List (List Int) := (List.range m).map fun k => ((k : Nat) : Int) :: List.replicate (n - 1) 0
theorem rows_len (n m : Nat) : (rowsV n m).length = m := by unfold rowsV; rw [List.length_map, List.length_range]
theorem rows_ok {n m : Nat} (h1 : 1 ≤ n) (hm : m ≤ 200) : Vs n 1000 (rowsV n m) := fun v hv => by
  obtain ⟨k, hk, rfl⟩ := List.mem_map.mp hv
  have hk := List.mem_range.mp hk
  refine ⟨by rw [List.length_cons, List.length_replicate]; omega, fun z hz => ?_⟩
  rcases List.mem_cons.mp hz with rfl | hz
  · omega
  · rw [(List.mem_replicate.mp hz).2]
    decide
theorem rows_ff : ∀ n ∈ List.range 6, ∀ m ∈ List.range 10, ffL (rowsV n m) = none := by decide +kernel
theorem asc_line {f : Nat → List Int} (h : ∀ i j, i < j → f i ≤ f j) (hi : ∀ i j, f i = f j → i = j) (m : Nat) : Asc ((List.range m).map f) := by
  refine ⟨List.pairwise_map.mpr ?_, ?_⟩
  · exact List.Pairwise.imp (fun {a b} z => h a b z) List.pairwise_lt_range
  · exact List.pairwise_map.mpr (List.Pairwise.imp (fun {a b} z e => absurd (hi a b e) (by omega)) List.pairwise_lt_range)
theorem row_le {a b : Int} {r : List Int} (h : a < b) : a :: r ≤ b :: r := List.le_of_lt (List.Lex.rel h)
theorem rows_asc (n m : Nat) : Asc (rowsV n m) := asc_line (f := fun k => ((k : Nat) : Int) :: List.replicate (n - 1) 0) (fun i j h => row_le (by omega)) (fun i j e => by injection e with e1; omega) m
theorem rows_kept (n m : Nat) : keptV (rowsV n m) = rowsV n m := kept_asc (rows_asc n m)
theorem line_ff (m : Nat) : ffL (rowsV 1 m) = none := ffL_jump (n := 1) (fun v hv => by obtain ⟨k, _, rfl⟩ := List.mem_map.mp hv; rfl) (by
  have := line_jumpL 0 m
  simp only [Int.zero_add] at this
  exact this)
/-! ### the two thousand: fifty different ones -/
def fiftyV (g : Nat) : List (List Int) := (List.range g).map fun k => [((k : Nat) : Int) % 50]
theorem fifty_mem {g : Nat} (hg : 50 ≤ g) (v : List Int) : v ∈ fiftyV g ↔ v ∈ rowsV 1 50 := by
  unfold fiftyV rowsV
  constructor
  · intro hv
    obtain ⟨k, hk, rfl⟩ := List.mem_map.mp hv
    exact List.mem_map.mpr ⟨k % 50, List.mem_range.mpr (by omega), by show [((k % 50 : Nat) : Int)] = _; rw [show ((k % 50 : Nat) : Int) = ((k : Nat) : Int) % 50 by omega]⟩
  · intro hv
    obtain ⟨k, hk, rfl⟩ := List.mem_map.mp hv
    have hk := List.mem_range.mp hk
    exact List.mem_map.mpr ⟨k, List.mem_range.mpr (by omega), by show [((k : Nat) : Int) % 50] = [((k : Nat) : Int)]; rw [show ((k : Nat) : Int) % 50 = ((k : Nat) : Int) by omega]⟩
theorem fifty_ok (g : Nat) : Vs 1 1000 (fiftyV g) := fun v hv => by
  obtain ⟨k, hk, rfl⟩ := List.mem_map.mp hv
  exact ⟨rfl, fun z hz => by rw [List.mem_singleton.mp hz]; omega⟩
theorem fifty_few {g : Nat} (hg : 50 ≤ g) : (nub (fiftyV g)).length ≤ 50 := by
  have := nub_sub (fun x hx => (fifty_mem hg x).mp hx)
  rw [nub_id (rows_asc 1 50).2, rows_len] at this
  exact this
theorem fifty_ff {g : Nat} (hg : 50 ≤ g) : ffL (keptV (fiftyV g)) = none := ffL_jump (n := 1) (fun v hv => (fifty_ok g v (kept_mem.mp hv)).1) (jumpL_congr (fun v => kept_mem.trans (fifty_mem hg v)) (by
  have := line_jumpL 0 50
  simp only [Int.zero_add] at this
  exact this))
end Q


namespace Q
open PySem PySem.Spec PyProof.Rows L2
variable {ca : CA}
/-! ### the law -/
theorem OddV.kx {p n : Nat} {d : D} {S T : Store} (h : OddV p n d S) (x : KpX p S T) : OddV p n d T := ⟨fun U k => h.kinds U (x.trans k), h.fit, fun U q P k => h.inn U q P (x.trans k), h.vec⟩
theorem law_wp (ns : List Int) (hl : ns.length ≤ 63) (hb : ∀ z ∈ ns, Builtin.Int.intBits z ≤ 1048576) : wpE (M_law ca [.kl (ns.map D.int)] (tabS0 [(ca.lc__law_right, ca.lP__law_right, ("_law_right" : Str) ++ ".<locals>." ++ "<lambda>")])) (fun d _ => d = .bl true) (fun _ _ _ => False) := by
  have hz : 5000 < sizeLine := by decide
  have hbig : 5000 < bigN := by unfold bigN; omega
  obtain ⟨s0, hs0⟩ : ∃ s0, s0 = D.kl (ns.map D.int) := ⟨_, rfl⟩
  obtain ⟨S0, hS0⟩ : ∃ S0, S0 = tabS0 [(ca.lc__law_right, ca.lP__law_right, ("_law_right" : Str) ++ ".<locals>." ++ "<lambda>")] := ⟨_, rfl⟩
  have t0 : S0[0]? = some (.tab ca.lP__law_right (("_law_right" : Str) ++ ".<locals>." ++ "<lambda>")) := by rw [hS0]; rfl
  have l0 : S0.length = 1 := by rw [hS0]; rfl
  rw [← hS0]
  clear hS0
  refine wpE_def ?_
  unfold b_law
  repeat fail
  refine pen_sp hl hb fun p c T0 k0 lp lc P0 => ?_
  have tb0 := k0 _ _ t0
  have p2 : 0 ≠ p := by omega
  rw [← hs0]
  repeat fail
  refine wp_forL ((List.range 12).map fun k => D.int (k : Nat)) (fun i e U => ∃ x2 x3 x4 x5 x6 x7 x8 x9 x10 : Option D, e = [some s0, some (.ref p), x2, x3, x4, x5, x6, x7, x8, x9, x10, none, none, none, none, none] ∧ Pen p c (1000 * i) U ∧ U[0]? = some (.tab ca.lP__law_right (("_law_right" : Str) ++ ".<locals>." ++ "<lambda>"))) (fun i e U _ => next_rng (n := 12) i U) (fun i z e U hz0 ⟨x2, x3, x4, x5, x6, x7, x8, x9, x10, he, PU, tU⟩ => ?_) (fun e U ⟨x2, x3, x4, x5, x6, x7, x8, x9, x10, he, PU, tU⟩ => ?_) 12 bigN 0 _ _ (by simp) (by omega) ⟨_, _, _, _, _, _, _, _, _, rfl, P0, tb0⟩
  · subst he
    have hi : i < 12 := by have := (List.getElem?_eq_some_iff.mp hz0).1; rw [List.length_map, List.length_range] at this; exact this
    rw [List.getElem?_map, List.getElem?_range hi] at hz0
    cases hz0
    refine ⟨_, rfl, ?_⟩
    try dsimp only [List.cons_append, List.nil_append, setsE, wipeD, List.set_cons_zero, List.set_cons_succ]
    refine wpS_seqJ (fun e V => ∃ (n : Nat), 1 ≤ n ∧ n ≤ 5 ∧ e = [some s0, some (.ref p), some (.int ((i : Nat) : Int)), some (.int ((n : Nat) : Int)), x4, x5, x6, x7, x8, x9, x10, none, none, none, none, none] ∧ Pen p c (1000 * i + 1) V ∧ V[0]? = some (.tab ca.lP__law_right (("_law_right" : Str) ++ ".<locals>." ++ "<lambda>"))) ?_ ?_
    · repeat fail
      refine draw_sp PU (by omega) (by decide) (by decide) fun r T1 r0 r1 P1 x1 => ?_
      repeat fail
      obtain ⟨n, hn⟩ : ∃ n : Nat, 1 + r = ((n : Nat) : Int) := ⟨(1 + r).toNat, by omega⟩
      rw [hn]
      exact ⟨n, by omega, by omega, rfl, P1, x1.k _ _ p2 tU⟩
    clear PU tU
    rintro e1 T1 ⟨n, n1, n5, he, P1, t1⟩
    subst he
    refine wpS_seqJ (fun e V => ∃ (m R : Nat), 1 ≤ m ∧ m ≤ 9 ∧ e = [some s0, some (.ref p), some (.int ((i : Nat) : Int)), some (.int ((n : Nat) : Int)), some (.ref R), x5, x6, x7, x8, x9, x10, none, none, none, none, none] ∧ V[R]? = some (.lst ((rowsV n m).map tupD)) ∧ R ≠ p ∧ Pen p c (1000 * i + 2) V ∧ V[0]? = some (.tab ca.lP__law_right (("_law_right" : Str) ++ ".<locals>." ++ "<lambda>"))) ?_ ?_
    · repeat fail
      refine draw_sp P1 (by omega) (by decide) (by decide) fun r T2 r0 r1 P2 x2 => ?_
      repeat fail
      obtain ⟨m, hm⟩ : ∃ m : Nat, 1 + r = ((m : Nat) : Int) := ⟨(1 + r).toNat, by omega⟩
      rw [hm]
      refine exR1N (by omega) ?_
      rw [Int.toNat_natCast]
      refine wp_compM ((List.range m).map fun k => D.int (k : Nat)) (fun w => .tup (w :: List.replicate (n - 1) (.int 0))) (fun j T _ => next_rng j T) (by rw [List.length_map, List.length_range]; omega) (by rw [List.length_map, List.length_range]; omega) (fun j w T hw kT => ?_) (fun R T3 k3 l3 h3 => ?_)
      · refine ⟨_, rfl, ?_⟩
        try dsimp only [List.cons_append, List.nil_append, setsE, wipeD, List.set_cons_zero, List.set_cons_succ]
        repeat fail
        rw [show ((n : Nat) : Int) - 1 = ((n - 1 : Nat) : Int) by omega]
        refine wpO_mulZ (k := n - 1) (by simp) (by omega) (by decide) ?_
        rw [rep1]
        repeat fail
        refine wpO_addT (by rw [List.length_replicate]; simp only [List.length_cons, List.length_nil]; omega) ?_
        exact ⟨Kp.refl _, rfl⟩
      · repeat fail
        have lp2 := P2.lt
        refine ⟨m, R, by omega, by omega, rfl, ?_, by omega, P2.kp k3, k3 _ _ (x2.k _ _ p2 t1)⟩
        rw [h3, List.map_map]
        unfold rowsV
        rw [List.map_map]
        refine congrArg (fun z => some (O.lst z)) (List.map_congr_left fun k _ => ?_)
        show D.tup (D.int (k : Nat) :: List.replicate (n - 1) (D.int 0)) = D.tup (D.int (k : Nat) :: (List.replicate (n - 1) (0 : Int)).map D.int)
        rw [List.map_replicate]
    clear P1 t1
    rintro e2 T2 ⟨m, R, m1, m9, he, hR, hRp, P2, t2⟩
    subst he
    have ml := rows_len n m
    refine wpS_seqJ (fun e V => ∃ (a : Nat), a < m ∧ e = [some s0, some (.ref p), some (.int ((i : Nat) : Int)), some (.int ((n : Nat) : Int)), some (.ref R), some (.int ((a : Nat) : Int)), x6, x7, x8, x9, x10, none, none, none, none, none] ∧ Pen p c (1000 * i + 3) V ∧ KpX p T2 V) ?_ ?_
    · repeat fail
      refine wpO_lenL hR ?_
      rw [List.length_map, ml]
      repeat fail
      refine draw_sp P2 (by omega) (by omega) (by omega) fun r T3 r0 r1 P3 x3 => ?_
      repeat fail
      obtain ⟨a, rfl⟩ : ∃ a : Nat, r = ((a : Nat) : Int) := ⟨r.toNat, by omega⟩
      exact ⟨a, by omega, rfl, P3, x3⟩
    rintro e3 T3 ⟨a, am, he, P3, x3⟩
    subst he
    have hR3 := x3.k _ _ hRp hR
    have t3 := x3.k _ _ p2 t2
    clear P2 t2 hR x3
    refine wpS_seqJ (fun e V => ∃ (B : Nat) (b0 b1 : D), OddV p n b0 V ∧ OddV p n b1 V ∧ B ≠ p ∧ V[B]? = some (.lst [b0, b1]) ∧ e = [some s0, some (.ref p), some (.int ((i : Nat) : Int)), some (.int ((n : Nat) : Int)), some (.ref R), some (.int ((a : Nat) : Int)), some (.ref B), x7, x8, x9, x10, none, none, none, none, none] ∧ Pen p c (1000 * i + 20) V ∧ KpX p T3 V) ?_ ?_
    · repeat fail
      refine odd_sp P3 (by omega) n1 n5 fun b0 T4 o4 P4 x4 => ?_
      repeat fail
      refine odd_sp P4 (by omega) n1 n5 fun b1 T5 o5 P5 x5 => ?_
      repeat fail
      intro B T6 k6 l6 h6
      repeat fail
      have lp5 := P5.lt
      exact ⟨B, b0, b1, o4.kx (x5.trans k6.x), o5.kx k6.x, by omega, h6, rfl, (P5.kp k6).le (by omega), (x4.trans x5).trans k6.x⟩
    rintro e4 T4 ⟨B, b0, b1, o0, o1, hBp, hB, he, P4, x4⟩
    subst he
    have hR4 := x4.k _ _ hRp hR3
    have t4 := x4.k _ _ p2 t3
    clear P3 t3 hR3 x4
    refine wpS_seqJ (fun e V => ∃ (M : Nat) (mo : List D), (mo = [] ∨ mo = [b1]) ∧ M ≠ p ∧ V[M]? = some (.lst mo) ∧ e = [some s0, some (.ref p), some (.int ((i : Nat) : Int)), some (.int ((n : Nat) : Int)), some (.ref R), some (.int ((a : Nat) : Int)), some (.ref B), some (.ref M), x8, x9, x10, none, none, none, none, none] ∧ Pen p c (1000 * i + 30) V ∧ KpX p T4 V) ?_ ?_
    · repeat fail
      refine draw_sp P4 (by omega) (by decide) (by decide) fun r T5 r0 r1 P5 x5 => ?_
      repeat fail
      have e5 : r = 0 ∨ r = 1 := by omega
      refine wpO_cutL (x5.k _ _ hBp hB) fun M T6 k6 l6 h6 => ?_
      repeat fail
      have lp5 := P5.lt
      refine ⟨M, cutD [b0, b1] (some 1) (some (1 + r)), ?_, by omega, h6, rfl, (P5.kp k6).le (by omega), x5.trans k6.x⟩
      rcases e5 with rfl | rfl
      · exact .inl rfl
      · exact .inr rfl
    rintro e5 T5 ⟨M, mo, hmo, hMp, hM, he, P5, x5⟩
    subst he
    have hR5 := x5.k _ _ hRp hR4
    have hB5 := x5.k _ _ hBp hB
    have t5 := x5.k _ _ p2 t4
    have o05 := o0.kx x5
    have o15 := o1.kx x5
    clear P4 t4 hR4 hB o0 o1 x5
    refine wpS_seqJ (fun e V => ∃ (G : Nat), G ≠ p ∧ V[G]? = some (.lst (((rowsV n m).take a).map tupD ++ b0 :: (((rowsV n m).drop a).map tupD ++ mo))) ∧ e = [some s0, some (.ref p), some (.int ((i : Nat) : Int)), some (.int ((n : Nat) : Int)), some (.ref R), some (.int ((a : Nat) : Int)), some (.ref B), some (.ref M), some (.ref G), x9, x10, none, none, none, none, none] ∧ Kp T5 V) ?_ ?_
    · have lp5 := P5.lt
      have ml2 : mo.length ≤ 1 := by rcases hmo with rfl | rfl <;> simp
      repeat fail
      refine wpO_cutL hR5 fun A1 U1 k1 l1 h1 => ?_
      repeat fail
      refine wpO_cutL (k1 _ _ hB5) fun A2 U2 k2 l2 h2 => ?_
      repeat fail
      rw [cut_take _ _ (by rw [List.length_map, ml]; omega)] at h1
      rw [show cutD [b0, b1] none (some 1) = [b0] from rfl] at h2
      refine wpO_addL (k2 _ _ h1) h2 (by rw [List.length_take, List.length_map, ml]; simp only [List.length_cons, List.length_nil]; omega) fun A3 U3 k3 l3 h3 => ?_
      repeat fail
      refine wpO_cutL ((k1.trans (k2.trans k3)) _ _ hR5) fun A4 U4 k4 l4 h4 => ?_
      repeat fail
      rw [cut_drop _ _ (by rw [List.length_map, ml]; omega)] at h4
      refine wpO_addL (k4 _ _ h3) h4 (by simp only [List.length_append, List.length_take, List.length_drop, List.length_map, ml, List.length_cons, List.length_nil]; omega) fun A5 U5 k5 l5 h5 => ?_
      repeat fail
      refine wpO_addL h5 ((k1.trans (k2.trans (k3.trans (k4.trans k5)))) _ _ hM) (by simp only [List.length_append, List.length_take, List.length_drop, List.length_map, ml, List.length_cons, List.length_nil]; omega) fun A6 U6 k6 l6 h6 => ?_
      repeat fail
      have z1 := k1.len
      have z2 := k2.len
      have z3 := k3.len
      have z4 := k4.len
      have z5 := k5.len
      refine ⟨A6, by omega, ?_, rfl, k1.trans (k2.trans (k3.trans (k4.trans (k5.trans k6))))⟩
      rw [h6, List.map_take, List.map_drop]
      simp only [List.append_assoc, List.cons_append, List.nil_append]
    rintro e6 T6 ⟨G, hGp, hG, he, k6⟩
    subst he
    have P6 := P5.kp k6
    have hR6 := k6 _ _ hR5
    have hB6 := k6 _ _ hB5
    have t6 := k6 _ _ t5
    have o06 := o05.kx k6.x
    have o16 := o15.kx k6.x
    clear P5 t5 hR5 hB5 o05 o15 k6
    refine wpS_seqJ (fun e V => ∃ (O : Nat), O ≠ p ∧ V[O]? = some (.lst ((othersL n).map tupD)) ∧ e = [some s0, some (.ref p), some (.int ((i : Nat) : Int)), some (.int ((n : Nat) : Int)), some (.ref R), some (.int ((a : Nat) : Int)), some (.ref B), some (.ref M), some (.ref G), some (.ref O), x10, none, none, none, none, none] ∧ Kp T6 V) ?_ ?_
    · have lp6 := P6.lt
      repeat fail
      rw [show ((n : Nat) : Int) % 5 + 1 = ((n % 5 + 1 : Nat) : Int) by omega]
      refine wpO_mulT (k := n % 5 + 1) (by simp) (by omega) (by omega) (by decide) ?_
      rw [rep1]
      repeat fail
      intro A1 U1 k1 l1 h1
      repeat fail
      rw [show ((n : Nat) : Int) + 1 = ((n + 1 : Nat) : Int) by omega]
      refine wpO_mulT (k := n + 1) (by simp) (by omega) (by omega) (by decide) ?_
      rw [rep1]
      repeat fail
      intro A2 U2 k2 l2 h2
      repeat fail
      refine wpO_intB ?_
      rw [show btD (decide (((n : Nat) : Int) < 5)) = D.int (((if n < 5 then 1 else 0 : Nat) : Nat) : Int) by by_cases q : n < 5; (rw [if_pos q, decide_eq_true (by omega)]; rfl); (rw [if_neg q, decide_eq_false (by omega)]; rfl)]
      repeat fail
      refine wpO_repL (k := if n < 5 then 1 else 0) h2 (by split <;> omega) (by split <;> simp <;> omega) fun A3 U3 k3 l3 h3 => ?_
      repeat fail
      refine wpO_addL ((k2.trans k3) _ _ h1) h3 (by split <;> simp <;> omega) fun A4 U4 k4 l4 h4 => ?_
      repeat fail
      have z1 := k1.len
      have z2 := k2.len
      have z3 := k3.len
      refine ⟨A4, by omega, ?_, rfl, k1.trans (k2.trans (k3.trans k4))⟩
      rw [h4]
      unfold othersL tupD
      by_cases q : n < 5
      · rw [if_pos q, if_pos q]
        simp [List.map_replicate]
      · rw [if_neg q, if_neg q]
        simp [List.map_replicate]
    rintro e7 T7 ⟨O, hOp, hO, he, k7⟩
    subst he
    have P7 := P6.kp k7
    have hR7 := k7 _ _ hR6
    have hB7 := k7 _ _ hB6
    have hG7 := k7 _ _ hG
    have t7 := k7 _ _ t6
    have o07 := o06.kx k7.x
    have o17 := o16.kx k7.x
    clear P6 t6 hR6 hB6 hG o06 o16 k7
    obtain ⟨xs, hxs⟩ : ∃ xs, xs = ((rowsV n m).take a).map tupD ++ b0 :: (((rowsV n m).drop a).map tupD ++ mo) := ⟨_, rfl⟩
    rw [← hxs] at hG7
    have rok : Vs n 1000 (rowsV n m) := rows_ok n1 (by omega)
    have kd : ∀ U, KpX p T7 U → ∀ x ∈ xs, Kinds U x := fun U kU x hx => by
      rw [hxs] at hx
      rcases List.mem_append.mp hx with hx | hx
      · obtain ⟨v, _, rfl⟩ := List.mem_map.mp hx
        exact kinds_vec v
      · rcases List.mem_cons.mp hx with rfl | hx
        · exact o07.kinds _ kU
        · rcases List.mem_append.mp hx with hx | hx
          · obtain ⟨v, _, rfl⟩ := List.mem_map.mp hx
            exact kinds_vec v
          · rcases hmo with rfl | rfl
            · exact absurd hx List.not_mem_nil
            · rw [List.mem_singleton.mp hx]
              exact o17.kinds _ kU
    have xl : xs.length ≤ 20 := by
      rw [hxs]
      have : mo.length ≤ 1 := by rcases hmo with rfl | rfl <;> simp
      simp only [List.length_append, List.length_take, List.length_drop, List.length_map, ml, List.length_cons]
      omega
    have fl0 : 0 < a → faultX xs = some a := fun ha => by
      rw [hxs, fault_behind n1 n5 (fun v hv => rok v (List.mem_of_mem_take hv)) (fun z => by have := congrArg List.length z; rw [List.length_take, ml] at this; simp only [List.length_nil] at this; omega) o07.fit, List.length_take, ml]
      rw [show min a m = a by omega]
    have fl1 : a = 0 → vecB b0 = false → faultX xs = some 0 := fun ha hv => by
      rw [hxs, ha]
      exact fault_first hv
    have fl2 : a = 0 → vecB b0 = true → faultX xs = some 1 := fun ha hv => by
      obtain ⟨q, q1, q2, q3, q4⟩ := o07.vec hv
      obtain ⟨v, vs, hvs⟩ : ∃ v vs, rowsV n m = v :: vs := by
        cases e : rowsV n m with
        | nil => rw [e] at ml; simp only [List.length_nil] at ml; omega
        | cons v vs => exact ⟨v, vs, rfl⟩
      rw [hxs, ha, hvs, q4]
      exact fault_second q2 q3 (rok v (by rw [hvs]; exact List.mem_cons_self)).1 q1
    refine wpS_seqJ (fun e V => ∃ (u : Nat), faultX xs = some u ∧ e = [some s0, some (.ref p), some (.int ((i : Nat) : Int)), some (.int ((n : Nat) : Int)), some (.ref R), some (.int ((a : Nat) : Int)), some (.ref B), some (.ref M), some (.ref G), some (.ref O), some (.int ((u : Nat) : Int)), none, none, none, none, none] ∧ V = T7) ?_ ?_
    · repeat fail
      by_cases ha : 0 < a
      · rw [decide_eq_true (by omega : (0 : Int) < ((a : Nat) : Int))]
        repeat fail
        exact ⟨a, fl0 ha, rfl, rfl⟩
      · rw [decide_eq_false (by omega : ¬ (0 : Int) < ((a : Nat) : Int))]
        repeat fail
        refine wpO_subN (i := 0) (d := .ref B) (xs := [b0, b1]) (items_ref hB7) rfl ?_
        repeat fail
        refine o07.inn T7 O _ (KpX.refl _ _) hO ?_
        repeat fail
        have a0 : a = 0 := by omega
        refine ⟨fun q => ?_, fun q => ?_⟩
        · repeat fail
          exact ⟨0, fl1 a0 (by cases z : vecB b0 with | true => rw [z] at q; cases q | false => rfl), by rw [a0]; rfl, rfl⟩
        · repeat fail
          exact ⟨1, fl2 a0 (by cases z : vecB b0 with | true => rfl | false => rw [z] at q; cases q), rfl, rfl⟩
    rintro e8 T8 ⟨u, hu, he, hT⟩
    subst he
    subst hT
    repeat fail
    have ul : u < 20 := by have := (fault_at hu).1; omega
    refine wpO_tuple (items_ref hG7) ?_
    repeat fail
    intro L U1 k1 l1 h1
    repeat fail
    have lp7 := P7.lt
    refine pick_sp (P7.kp k1) (by omega) h1 (by omega) (by simp) (by simp) fun d U2 hd P8 x8 => ?_
    repeat fail
    have xx := k1.x.trans x8
    have hdi : itemsD d U2 = some xs := by
      simp only [List.mem_cons, List.not_mem_nil, or_false] at hd
      rcases hd with rfl | rfl
      · exact items_ref (xx.k _ _ hGp hG7)
      · rfl
    refine right_bad (z := ((u : Nat) : Int)) (by omega) (xx.k _ _ p2 t7) (ck_fault hdi (kd _ xx) hu (by omega)) fun U3 k3 => ?_
    repeat fail
    refine right_ok (n := n) (ks := rowsV n m) ((xx.trans k3.x).k _ _ p2 t7) ?_ (by omega) (by omega) (fun v hv => (rok v hv).1) (rows_ff n (List.mem_range.mpr (by omega)) m (List.mem_range.mpr (by omega))) fun U4 k4 => ?_
    · have := ck_ok (ca := ca) n1 n5 (items_ref ((xx.trans k3.x).k _ _ hRp hR7)) rok (fun z => by have := congrArg List.length z; rw [ml] at this; simp only [List.length_nil] at this; omega) (by omega) (by rw [nub_id (rows_asc n m).2]; omega)
      rw [rows_kept] at this
      exact this
    repeat fail
    exact ⟨_, _, _, _, _, _, _, _, _, rfl, (P8.kp (k3.trans k4)).le (by omega), (xx.trans (k3.trans k4).x).k _ _ p2 t7⟩
  · subst he
    refine wpS_seqJ (fun e V => ∃ m : Nat, 119 ≤ m ∧ m ≤ 122 ∧ e = [some s0, some (.ref p), x2, x3, x4, x5, x6, x7, x8, x9, x10, some (.int ((m : Nat) : Int)), none, none, none, none] ∧ Pen p c 12001 V ∧ V[0]? = some (.tab ca.lP__law_right (("_law_right" : Str) ++ ".<locals>." ++ "<lambda>"))) ?_ ?_
    · repeat fail
      refine draw_sp (n := 12000) (PU.le (by rw [List.length_map, List.length_range]; decide)) (by decide) (by decide) (by decide) fun r T1 r0 r1 P1 x1 => ?_
      repeat fail
      obtain ⟨m, hm⟩ : ∃ m : Nat, 119 + r = ((m : Nat) : Int) := ⟨(119 + r).toNat, by omega⟩
      rw [hm]
      exact ⟨m, by omega, by omega, rfl, P1, x1.k _ _ p2 tU⟩
    clear PU tU P0
    rintro e1 T1 ⟨m, m1, m2, he, P1, t1⟩
    subst he
    have lg : (2 : Int).natAbs.log2 + ((m : Nat) : Int).natAbs.log2 < 1000000 := by
      rcases (by omega : m = 119 ∨ m = 120 ∨ m = 121 ∨ m = 122) with rfl | rfl | rfl | rfl <;> decide
    have ml := rows_len 1 m
    have mok : Vs 1 1000 (rowsV 1 m) := rows_ok (by decide) (by omega)
    have mne : rowsV 1 m ≠ [] := fun z => by have := congrArg List.length z; rw [ml] at this; simp only [List.length_nil] at this; omega
    have mnub : (nub (rowsV 1 m)).length = m := by rw [nub_id (rows_asc 1 m).2, ml]
    refine wpS_seqJ (fun e V => ∃ R : Nat, R ≠ p ∧ V[R]? = some (.lst ((rowsV 1 m).map tupD)) ∧ e = [some s0, some (.ref p), x2, x3, x4, x5, x6, x7, x8, x9, x10, some (.int ((m : Nat) : Int)), some (.ref R), none, none, none] ∧ Kp T1 V) ?_ ?_
    · repeat fail
      refine exR1N (by omega) ?_
      rw [Int.toNat_natCast]
      refine wp_compM ((List.range m).map fun k => D.int (k : Nat)) (fun w => .tup [w]) (fun j T _ => next_rng j T) (by rw [List.length_map, List.length_range]; omega) (by rw [List.length_map, List.length_range]; omega) (fun j w T hw kT => ?_) (fun R T3 k3 l3 h3 => ?_)
      · refine ⟨_, rfl, ?_⟩
        try dsimp only [List.cons_append, List.nil_append, setsE, wipeD, List.set_cons_zero, List.set_cons_succ]
        repeat fail
        exact ⟨Kp.refl _, rfl⟩
      · repeat fail
        have lp1 := P1.lt
        refine ⟨R, by omega, ?_, rfl, k3⟩
        rw [h3, List.map_map]
        unfold rowsV
        rw [List.map_map]
        rfl
    rintro e2 T2 ⟨R, hRp, hR, he, k2⟩
    subst he
    have P2 := P1.kp k2
    have t2 := k2 _ _ t1
    clear P1 t1 k2
    refine wpS_seqJ (fun e V => e = [some s0, some (.ref p), x2, x3, x4, x5, x6, x7, x8, x9, x10, some (.int ((m : Nat) : Int)), some (.ref R), none, none, none] ∧ Kp T2 V) ?_ ?_
    · have twice : ∀ T3, Kp T2 T3 → ∀ {P : D → Store → Prop} {E : EK} {L : Nat}, (∀ T, Kp T3 T → P (.bl true) T) → T3[L]? = some (.lst ((rowsV 1 m ++ rowsV 1 m).map tupD ++ [.non])) → wpE (M__law_right ca [.ref L, .int (2 * ((m : Nat) : Int))] T3) P E := fun T3 k3 {P E L} h hL => by
        have := right_bad (ca := ca) (z := ((2 * m : Nat) : Int)) (d := .ref L) (by omega) (k3 _ _ t2) (ck_fault (i := 2 * m) (items_ref hL) (fun x hx => ?_) ?_ ?_) (P := P) (E := E) h
        · rw [show (2 * ((m : Nat) : Int)) = ((2 * m : Nat) : Int) by omega]
          exact this
        · rcases List.mem_append.mp hx with hx | hx
          · obtain ⟨v, _, rfl⟩ := List.mem_map.mp hx
            exact kinds_vec v
          · rw [List.mem_singleton.mp hx]
            exact flat_kinds rfl fun xs e => by cases e
        · rw [fault_behind (n := 1) (by decide) (by decide) (fun v hv => mok v ((List.mem_append.mp hv).elim id id)) (fun z => mne (List.append_eq_nil_iff.mp z).1) rfl, List.length_append, ml]
          rw [show m + m = 2 * m by omega]
        · rw [List.length_append, List.length_map, List.length_append, ml]
          simp only [List.length_cons, List.length_nil]
          omega
      have rest : ∀ T3, Kp T2 T3 → ∀ {P : D → Store → Prop}, (∀ L T4, Kp T3 T4 → T4[L]? = some (.lst ((rowsV 1 m ++ rowsV 1 m).map tupD ++ [.non])) → P (.ref L) T4) → wpO (gAdd (.ref R) (.ref R) T3) fun d T => wpE (mLst (mCons (mC .non) mNil) ([some s0, some (.ref p), x2, x3, x4, x5, x6, x7, x8, x9, x10, some (.int ((m : Nat) : Int)), some (.ref R), none, none, none] : En) T) (fun e U => wpO (gAdd d e U) P) (fun _ _ _ => False) := fun T3 k3 {P} h => by
        have hR3 := k3 _ _ hR
        refine wpO_addL hR3 hR3 (by rw [List.length_map, ml]; omega) fun A1 U1 k1 l1 h1 => ?_
        repeat fail
        intro A2 U2 k2 l2 h2
        refine wpO_addL (k2 _ _ h1) h2 (by simp only [List.length_append, List.length_map, ml, List.length_cons, List.length_nil]; omega) fun A3 U3 k3 l3 h3 => ?_
        exact h A3 U3 (k1.trans (k2.trans k3)) (by rw [h3, List.map_append])
      repeat fail
      refine ⟨fun q => ?_, fun q => ?_⟩
      · have q : m ≤ 120 := by have := of_decide_eq_true q; omega
        repeat fail
        refine right_ok (n := 1) (ks := rowsV 1 m) t2 ?_ (by omega) (by decide) (fun v hv => (mok v hv).1) (line_ff m) fun T3 k3 => ?_
        · have := ck_ok (ca := ca) (n := 1) (by decide) (by decide) (items_ref hR) mok mne (by omega) (by omega)
          rw [rows_kept] at this
          exact this
        repeat fail
        refine rest T3 k3 fun L T4 k4 hL => ?_
        repeat fail
        refine wpO_mul lg ?_
        repeat fail
        refine twice T4 (k3.trans k4) (fun T5 k5 => ?_) hL
        repeat fail
        exact ⟨rfl, k3.trans (k4.trans k5)⟩
      · have q : ¬ m ≤ 120 := by have := of_decide_eq_false q; omega
        repeat fail
        refine right_bad (z := -1) (by decide) t2 (ck_big (n := 1) (by decide) (by decide) (items_ref hR) mok mne (by omega) (by omega) (.inr (by omega))) fun T3 k3 => ?_
        repeat fail
        refine rest T3 k3 fun L T4 k4 hL => ?_
        repeat fail
        refine wpO_mul lg ?_
        repeat fail
        refine twice T4 (k3.trans k4) (fun T5 k5 => ?_) hL
        repeat fail
        exact ⟨rfl, k3.trans (k4.trans k5)⟩
    rintro e3 T3 ⟨he, k3⟩
    subst he
    have P3 := P2.kp k3
    have t3 := k3 _ _ t2
    clear P2 t2 k3 hR
    refine wpS_seqJ (fun e V => ∃ g : Nat, 1999 ≤ g ∧ g ≤ 2001 ∧ e = [some s0, some (.ref p), x2, x3, x4, x5, x6, x7, x8, x9, x10, some (.int ((m : Nat) : Int)), some (.ref R), some (.int ((g : Nat) : Int)), none, none] ∧ Pen p c 12002 V ∧ V[0]? = some (.tab ca.lP__law_right (("_law_right" : Str) ++ ".<locals>." ++ "<lambda>"))) ?_ ?_
    · repeat fail
      refine draw_sp P3 (by decide) (by decide) (by decide) fun r T1 r0 r1 P1 x1 => ?_
      repeat fail
      obtain ⟨g, hm⟩ : ∃ g : Nat, 1999 + r = ((g : Nat) : Int) := ⟨(1999 + r).toNat, by omega⟩
      rw [hm]
      exact ⟨g, by omega, by omega, rfl, P1, x1.k _ _ p2 t3⟩
    clear P3 t3
    rintro e4 T4 ⟨g, g1, g2, he, P4, t4⟩
    subst he
    have fl : (fiftyV g).length = g := by unfold fiftyV; rw [List.length_map, List.length_range]
    have fne : fiftyV g ≠ [] := fun z => by have := congrArg List.length z; rw [fl] at this; simp only [List.length_nil] at this; omega
    have ff := fifty_few (g := g) (by omega)
    refine wpS_seqJ (fun e V => e = [some s0, some (.ref p), x2, x3, x4, x5, x6, x7, x8, x9, x10, some (.int ((m : Nat) : Int)), some (.ref R), some (.int ((g : Nat) : Int)), none, none] ∧ Kp T4 V) ?_ ?_
    · repeat fail
      refine exR1N (by omega) ?_
      rw [Int.toNat_natCast]
      refine wp_compM ((List.range g).map fun k => D.int (k : Nat)) (fun w => match w with | .int k => .tup [.int (k % 50)] | w => w) (fun j T _ => next_rng j T) (by rw [List.length_map, List.length_range]; omega) (by rw [List.length_map, List.length_range]; omega) (fun j w T hw kT => ?_) (fun G T5 k5 l5 h5 => ?_)
      · rw [List.getElem?_map] at hw
        obtain ⟨j', hj', rfl⟩ := Option.map_eq_some_iff.mp hw
        refine ⟨_, rfl, ?_⟩
        try dsimp only [List.cons_append, List.nil_append, setsE, wipeD, List.set_cons_zero, List.set_cons_succ]
        repeat fail
        exact ⟨Kp.refl _, rfl⟩
      have h5 : T5[G]? = some (.lst ((fiftyV g).map tupD)) := by
        rw [h5, List.map_map]
        unfold fiftyV
        rw [List.map_map]
        rfl
      repeat fail
      refine ⟨fun q => ?_, fun q => ?_⟩
      · have q : g ≤ 2000 := by have := of_decide_eq_true q; omega
        repeat fail
        refine right_ok (n := 1) (ks := keptV (fiftyV g)) (k5 _ _ t4) ?_ ?_ (by decide) (fun v hv => (fifty_ok g v (kept_mem.mp hv)).1) (fifty_ff (by omega)) fun T6 k6 => ?_
        · exact ck_ok (ca := ca) (n := 1) (by decide) (by decide) (items_ref h5) (fifty_ok g) fne (by omega) (by omega)
        · rw [kept_len]
          omega
        repeat fail
        exact ⟨rfl, k5.trans k6⟩
      · have q : ¬ g ≤ 2000 := by have := of_decide_eq_false q; omega
        repeat fail
        refine right_bad (z := -1) (by decide) (k5 _ _ t4) (ck_big (n := 1) (by decide) (by decide) (items_ref h5) (fifty_ok g) fne (by omega) (by omega) (.inl (by omega))) fun T6 k6 => ?_
        repeat fail
        exact ⟨rfl, k5.trans k6⟩
    rintro e5 T5 ⟨he, k5⟩
    subst he
    have P5 := P4.kp k5
    have t5 := k5 _ _ t4
    clear P4 t4 k5
    have gpow : ∀ {U : Store} {P' : D → Store → Prop}, P' (.int 100000000000000000000) U → wpO (gPow (.int 10) (.int 20) U) P' := fun h => wpO_of (by unfold gPow; rw [gI_int, if_pos (by decide)]; rfl) h
    repeat fail
    intro a1 U1 k1 l1 h1
    repeat fail
    refine wpE_disp1T ?_
    repeat fail
    refine ⟨_, rfl, at_mid, ?_⟩
    obtain ⟨U2, hU2⟩ : ∃ U2, U2 = (U1 ++ [O.dcT []]).set U1.length (O.dcT [([0], .int 1)]) := ⟨_, rfl⟩
    have k2 : Kp U1 U2 := fun a o ha => by
      have := lt_of_at ha
      rw [hU2, List.getElem?_set_ne (by omega)]
      exact Kp.app a o ha
    have h2 : U2[U1.length]? = some (.dcT [([0], .int 1)]) := by
      rw [hU2, List.getElem?_set_self (by rw [List.length_append]; simp)]
    try rw [← hU2]
    repeat fail
    intro a3 U3 k3 l3 h3
    repeat fail
    refine gpow ?_
    repeat fail
    intro a4 U4' k4' l4 h4'
    refine ⟨h4', _, rfl, by decide, fun U4 y4 h4 => ?_⟩
    have k4 : Kp U3 U4 := fun a o ha => y4.k a o (by have := lt_of_at ha; omega) (k4' a o ha)
    repeat fail
    intro L U5 k5 l5 h5
    repeat fail
    have lp5 := P5.lt
    have z1 := k1.len
    have z2 := k2.len
    have z3 := k3.len
    have z4 := k4.len
    have z5 := k5.len
    have kk := (k1.trans k2).trans (k3.trans (k4.trans k5))
    refine pick_sp (P5.kp kk) (by decide) h5 (by omega) (by simp) (by simp) fun w V hw P6 y6 => ?_
    repeat fail
    have tV := y6.k _ _ p2 (kk _ _ t5)
    have H1 := y6.k _ _ (by omega) ((k2.trans (k3.trans (k4.trans k5))) _ _ h1)
    have H2 := y6.k _ _ (by omega) ((k3.trans (k4.trans k5)) _ _ h2)
    have H3 := y6.k _ _ (by omega) ((k4.trans k5) _ _ h3)
    have H4 := y6.k _ _ (by omega) (k5 _ _ h4)
    simp only [List.mem_cons, List.not_mem_nil, or_false] at hw
    obtain ⟨ys, hys⟩ : ∃ ys, ys = [D.non, D.int 0, D.bl true, D.str (Str.ofString ""), D.str (Str.ofString "ab"), D.ref a1, D.ref U1.length, D.ref a3, D.tup [], w] := ⟨_, rfl⟩
    have all : ∀ d ∈ ys, CkBad ca d (-1) V := fun d hd => by
      have dctB : ∀ {a : Nat} {kvs}, V[a]? = some (.dct kvs) → CkBad ca (.ref a) (-1) V := fun {a kvs} h => ck_none (q := .dct) (fun T k => by unfold kindD; dsimp only; rw [k _ _ h]) fun T k ys e => by unfold itemsD at e; dsimp only at e; rw [k _ _ h] at e; cases e
      rw [hys] at hd
      simp only [List.mem_cons, List.not_mem_nil, or_false] at hd
      rcases hd with rfl | rfl | rfl | rfl | rfl | rfl | rfl | rfl | rfl | rfl
      · exact ck_none (fun _ _ => rfl) fun _ _ _ e => by cases e
      · exact ck_none (fun _ _ => rfl) fun _ _ _ e => by cases e
      · exact ck_none (fun _ _ => rfl) fun _ _ _ e => by cases e
      · exact ck_none (fun _ _ => rfl) fun _ _ _ e => by cases e
      · exact ck_none (fun _ _ => rfl) fun _ _ _ e => by cases e
      · exact dctB H1
      · exact ck_none (q := .dct) (fun T k => by unfold kindD; dsimp only; rw [k _ _ H2]) fun T k ys e => by unfold itemsD at e; dsimp only at e; rw [k _ _ H2] at e; cases e
      · exact ck_none (q := .lst) (fun T k => by unfold kindD; dsimp only; rw [k _ _ H3]) fun T k ys e => by rw [items_ref (k _ _ H3)] at e; cases e; rfl
      · exact ck_none (fun _ _ => rfl) fun _ _ _ e => by cases e; rfl
      · rcases hw with rfl | rfl | rfl
        · exact ck_none (fun _ _ => rfl) fun _ _ _ e => by cases e
        · exact ck_none (fun _ _ => rfl) fun _ _ _ e => by cases e
        · exact dctB H4
    have yl : ys.length = 10 := by rw [hys]; rfl
    rw [← hys]
    refine wp_forL ys (fun i e W => (∃ x14 : Option D, e = [some s0, some (.ref p), x2, x3, x4, x5, x6, x7, x8, x9, x10, some (.int ((m : Nat) : Int)), some (.ref R), some (.int ((g : Nat) : Int)), x14, none]) ∧ Kp V W) (fun i e W _ => rfl) (fun i z e W hz0 ⟨⟨x14, he⟩, kW⟩ => ?_) (fun e W ⟨⟨x14, he⟩, kW⟩ => ?_) 10 bigN 0 _ _ (by rw [yl]) (by omega) ⟨⟨_, rfl⟩, Kp.refl _⟩
    · subst he
      refine ⟨_, rfl, ?_⟩
      try dsimp only [List.cons_append, List.nil_append, setsE, wipeD, List.set_cons_zero, List.set_cons_succ]
      repeat fail
      refine right_bad (z := -1) (by decide) (kW _ _ tV) ((all z (List.mem_of_getElem? hz0)).kp kW) fun W2 k2 => ?_
      repeat fail
      exact ⟨⟨_, rfl⟩, kW.trans k2⟩
    · subst he
      repeat fail
      rfl
theorem law_true (ca : CA) (hca : CaOk ca) (ns : List Int) (hl : ns.length ≤ 63) (hb : ∀ z ∈ ns, Builtin.Int.intBits z ≤ 1048576) : ∃ S', M_law ca [.kl (ns.map D.int)] (tabS0 [(ca.lc__law_right, ca.lP__law_right, ("_law_right" : Str) ++ ".<locals>." ++ "<lambda>")]) = .ok (.bl true) S' := by
  obtain ⟨a, T, h, e⟩ := wpE_ex (law_wp (ca := ca) ns hl hb)
  subst e
  exact ⟨T, h⟩
end Q

namespace Q
open PySem PySem.Spec PyProof.Rows L2
theorem all_mk {P : Program} {w : World} {K : PySem.W.Frag} {h : Heap} {mg : Str → Option Value} {fa : Addr} (po : ProgOk P) (pf : PFile P) (X : K.In h) (G : h.Ns mainGlobals mg) (hfa : mg "law" = some (.ref fa))
  {cc_VectorSet : Addr} (a_VectorSet : PySem.W.nsIn K mainGlobals "VectorSet" = some (some (.ref cc_VectorSet)))
  (w1_VectorSet : PySem.W.plainGet K cc_VectorSet Str.empty = true)
  (w2_VectorSet : PySem.W.hasDictIn K cc_VectorSet = true)
  (w3_VectorSet : PySem.W.plainOver K cc_VectorSet = true)
  (w4_VectorSet : PySem.W.findIn K (.ref cc_VectorSet) "__setattr__" = some (some (.builtin "object.__setattr__")))
  (w5_VectorSet : PySem.W.findIn K (.ref cc_VectorSet) "__class__" = some (some (.builtin "object.__class__")))
  (w6_VectorSet : PySem.W.mroIn K cc_VectorSet (.type "object") = some true)
  (w7_VectorSet : PySem.W.makesIn K cc_VectorSet = true)
  (w8_VectorSet : PySem.W.keepIn K (.ref cc_VectorSet) = true)
  (v0_VectorSet : PySem.W.mroIn K cc_VectorSet (.type "int") = some false)
  (v1_VectorSet : PySem.W.mroIn K cc_VectorSet (.type "bool") = some false)
  (v2_VectorSet : PySem.W.mroIn K cc_VectorSet (.type "tuple") = some false)
  (v3_VectorSet : PySem.W.mroIn K cc_VectorSet (.type "list") = some false)
  (v4_VectorSet : PySem.W.mroIn K cc_VectorSet (.type "str") = some false)
  (v5_VectorSet : PySem.W.mroIn K cc_VectorSet (.type "dict") = some false)
  {cc_JumpSet : Addr} (a_JumpSet : PySem.W.nsIn K mainGlobals "JumpSet" = some (some (.ref cc_JumpSet)))
  (w1_JumpSet : PySem.W.plainGet K cc_JumpSet Str.empty = true)
  (w2_JumpSet : PySem.W.hasDictIn K cc_JumpSet = true)
  (w3_JumpSet : PySem.W.plainOver K cc_JumpSet = true)
  (w4_JumpSet : PySem.W.findIn K (.ref cc_JumpSet) "__setattr__" = some (some (.builtin "object.__setattr__")))
  (w5_JumpSet : PySem.W.findIn K (.ref cc_JumpSet) "__class__" = some (some (.builtin "object.__class__")))
  (w6_JumpSet : PySem.W.mroIn K cc_JumpSet (.type "object") = some true)
  (w7_JumpSet : PySem.W.makesIn K cc_JumpSet = true)
  (w8_JumpSet : PySem.W.keepIn K (.ref cc_JumpSet) = true)
  (v0_JumpSet : PySem.W.mroIn K cc_JumpSet (.type "int") = some false)
  (v1_JumpSet : PySem.W.mroIn K cc_JumpSet (.type "bool") = some false)
  (v2_JumpSet : PySem.W.mroIn K cc_JumpSet (.type "tuple") = some false)
  (v3_JumpSet : PySem.W.mroIn K cc_JumpSet (.type "list") = some false)
  (v4_JumpSet : PySem.W.mroIn K cc_JumpSet (.type "str") = some false)
  (v5_JumpSet : PySem.W.mroIn K cc_JumpSet (.type "dict") = some false)
  (na_JumpSet_kept : PySem.W.findIn K (.ref cc_JumpSet) "kept" = some none)
  (na_JumpSet_known : PySem.W.findIn K (.ref cc_JumpSet) "known" = some none)
  (na_VectorSet_kept : PySem.W.findIn K (.ref cc_VectorSet) "kept" = some none)
  (na_VectorSet_known : PySem.W.findIn K (.ref cc_VectorSet) "known" = some none)
  {f__law_pen : Addr} {oc__law_pen kV__law_pen dc__law_pen pm__law_pen cd__law_pen ct__law_pen : Value} {od__law_pen an__law_pen : Option Addr} {sl__law_pen : Array (Option Value)}
  (a__law_pen : PySem.W.nsIn K mainGlobals "_law_pen" = some (some (.ref f__law_pen)))
  (l__law_pen : K.lookup f__law_pen = some ⟨oc__law_pen, od__law_pen, .func (PySem.W.fnOf "_law_pen" "_law_pen" (defArgs s__law_pen) (defBody s__law_pen) (defScope s__law_pen) .none kV__law_pen dc__law_pen pm__law_pen an__law_pen cd__law_pen ct__law_pen), sl__law_pen⟩)
  (c__law_pen : PySem.W.codeIn K cd__law_pen "_law_pen" = true) (k__law_pen : PySem.W.keepIn K (.ref f__law_pen) = true)
  {f__law_draw : Addr} {oc__law_draw kV__law_draw dc__law_draw pm__law_draw cd__law_draw ct__law_draw : Value} {od__law_draw an__law_draw : Option Addr} {sl__law_draw : Array (Option Value)}
  (a__law_draw : PySem.W.nsIn K mainGlobals "_law_draw" = some (some (.ref f__law_draw)))
  (l__law_draw : K.lookup f__law_draw = some ⟨oc__law_draw, od__law_draw, .func (PySem.W.fnOf "_law_draw" "_law_draw" (defArgs s__law_draw) (defBody s__law_draw) (defScope s__law_draw) .none kV__law_draw dc__law_draw pm__law_draw an__law_draw cd__law_draw ct__law_draw), sl__law_draw⟩)
  (c__law_draw : PySem.W.codeIn K cd__law_draw "_law_draw" = true) (k__law_draw : PySem.W.keepIn K (.ref f__law_draw) = true)
  {f__law_pick : Addr} {oc__law_pick kV__law_pick dc__law_pick pm__law_pick cd__law_pick ct__law_pick : Value} {od__law_pick an__law_pick : Option Addr} {sl__law_pick : Array (Option Value)}
  (a__law_pick : PySem.W.nsIn K mainGlobals "_law_pick" = some (some (.ref f__law_pick)))
  (l__law_pick : K.lookup f__law_pick = some ⟨oc__law_pick, od__law_pick, .func (PySem.W.fnOf "_law_pick" "_law_pick" (defArgs s__law_pick) (defBody s__law_pick) (defScope s__law_pick) .none kV__law_pick dc__law_pick pm__law_pick an__law_pick cd__law_pick ct__law_pick), sl__law_pick⟩)
  (c__law_pick : PySem.W.codeIn K cd__law_pick "_law_pick" = true) (k__law_pick : PySem.W.keepIn K (.ref f__law_pick) = true)
  {f__law_odd : Addr} {oc__law_odd kV__law_odd dc__law_odd pm__law_odd cd__law_odd ct__law_odd : Value} {od__law_odd an__law_odd : Option Addr} {sl__law_odd : Array (Option Value)}
  (a__law_odd : PySem.W.nsIn K mainGlobals "_law_odd" = some (some (.ref f__law_odd)))
  (l__law_odd : K.lookup f__law_odd = some ⟨oc__law_odd, od__law_odd, .func (PySem.W.fnOf "_law_odd" "_law_odd" (defArgs s__law_odd) (defBody s__law_odd) (defScope s__law_odd) .none kV__law_odd dc__law_odd pm__law_odd an__law_odd cd__law_odd ct__law_odd), sl__law_odd⟩)
  (c__law_odd : PySem.W.codeIn K cd__law_odd "_law_odd" = true) (k__law_odd : PySem.W.keepIn K (.ref f__law_odd) = true)
  {f__law_refused : Addr} {oc__law_refused kV__law_refused dc__law_refused pm__law_refused cd__law_refused ct__law_refused : Value} {od__law_refused an__law_refused : Option Addr} {sl__law_refused : Array (Option Value)}
  (a__law_refused : PySem.W.nsIn K mainGlobals "_law_refused" = some (some (.ref f__law_refused)))
  (l__law_refused : K.lookup f__law_refused = some ⟨oc__law_refused, od__law_refused, .func (PySem.W.fnOf "_law_refused" "_law_refused" (defArgs s__law_refused) (defBody s__law_refused) (defScope s__law_refused) .none kV__law_refused dc__law_refused pm__law_refused an__law_refused cd__law_refused ct__law_refused), sl__law_refused⟩)
  (c__law_refused : PySem.W.codeIn K cd__law_refused "_law_refused" = true) (k__law_refused : PySem.W.keepIn K (.ref f__law_refused) = true)
  {f_is_list : Addr} {oc_is_list kV_is_list dc_is_list pm_is_list cd_is_list ct_is_list : Value} {od_is_list an_is_list : Option Addr} {sl_is_list : Array (Option Value)}
  (a_is_list : PySem.W.nsIn K mainGlobals "is_list" = some (some (.ref f_is_list)))
  (l_is_list : K.lookup f_is_list = some ⟨oc_is_list, od_is_list, .func (PySem.W.fnOf "is_list" "is_list" (defArgs s_is_list) (defBody s_is_list) (defScope s_is_list) .none kV_is_list dc_is_list pm_is_list an_is_list cd_is_list ct_is_list), sl_is_list⟩)
  (c_is_list : PySem.W.codeIn K cd_is_list "is_list" = true) (k_is_list : PySem.W.keepIn K (.ref f_is_list) = true)
  {f_is_integer : Addr} {oc_is_integer kV_is_integer dc_is_integer pm_is_integer cd_is_integer ct_is_integer : Value} {od_is_integer an_is_integer : Option Addr} {sl_is_integer : Array (Option Value)}
  (a_is_integer : PySem.W.nsIn K mainGlobals "is_integer" = some (some (.ref f_is_integer)))
  (l_is_integer : K.lookup f_is_integer = some ⟨oc_is_integer, od_is_integer, .func (PySem.W.fnOf "is_integer" "is_integer" (defArgs s_is_integer) (defBody s_is_integer) (defScope s_is_integer) .none kV_is_integer dc_is_integer pm_is_integer an_is_integer cd_is_integer ct_is_integer), sl_is_integer⟩)
  (c_is_integer : PySem.W.codeIn K cd_is_integer "is_integer" = true) (k_is_integer : PySem.W.keepIn K (.ref f_is_integer) = true)
  {f_is_between : Addr} {oc_is_between kV_is_between dc_is_between pm_is_between cd_is_between ct_is_between : Value} {od_is_between an_is_between : Option Addr} {sl_is_between : Array (Option Value)}
  (a_is_between : PySem.W.nsIn K mainGlobals "is_between" = some (some (.ref f_is_between)))
  (l_is_between : K.lookup f_is_between = some ⟨oc_is_between, od_is_between, .func (PySem.W.fnOf "is_between" "is_between" (defArgs s_is_between) (defBody s_is_between) (defScope s_is_between) .none kV_is_between dc_is_between pm_is_between an_is_between cd_is_between ct_is_between), sl_is_between⟩)
  (c_is_between : PySem.W.codeIn K cd_is_between "is_between" = true) (k_is_between : PySem.W.keepIn K (.ref f_is_between) = true)
  {f_fits_vector : Addr} {oc_fits_vector kV_fits_vector dc_fits_vector pm_fits_vector cd_fits_vector ct_fits_vector : Value} {od_fits_vector an_fits_vector : Option Addr} {sl_fits_vector : Array (Option Value)}
  (a_fits_vector : PySem.W.nsIn K mainGlobals "fits_vector" = some (some (.ref f_fits_vector)))
  (l_fits_vector : K.lookup f_fits_vector = some ⟨oc_fits_vector, od_fits_vector, .func (PySem.W.fnOf "fits_vector" "fits_vector" (defArgs s_fits_vector) (defBody s_fits_vector) (defScope s_fits_vector) .none kV_fits_vector dc_fits_vector pm_fits_vector an_fits_vector cd_fits_vector ct_fits_vector), sl_fits_vector⟩)
  (c_fits_vector : PySem.W.codeIn K cd_fits_vector "fits_vector" = true) (k_fits_vector : PySem.W.keepIn K (.ref f_fits_vector) = true)
  {f_checked_members : Addr} {oc_checked_members kV_checked_members dc_checked_members pm_checked_members cd_checked_members ct_checked_members : Value} {od_checked_members an_checked_members : Option Addr} {sl_checked_members : Array (Option Value)}
  (a_checked_members : PySem.W.nsIn K mainGlobals "checked_members" = some (some (.ref f_checked_members)))
  (l_checked_members : K.lookup f_checked_members = some ⟨oc_checked_members, od_checked_members, .func (PySem.W.fnOf "checked_members" "checked_members" (defArgs s_checked_members) (defBody s_checked_members) (defScope s_checked_members) .none kV_checked_members dc_checked_members pm_checked_members an_checked_members cd_checked_members ct_checked_members), sl_checked_members⟩)
  (c_checked_members : PySem.W.codeIn K cd_checked_members "checked_members" = true) (k_checked_members : PySem.W.keepIn K (.ref f_checked_members) = true)
  {f_VectorSet___init__ : Addr} {oc_VectorSet___init__ kV_VectorSet___init__ dc_VectorSet___init__ pm_VectorSet___init__ cd_VectorSet___init__ ct_VectorSet___init__ : Value} {od_VectorSet___init__ an_VectorSet___init__ : Option Addr} {sl_VectorSet___init__ : Array (Option Value)}
  (a_VectorSet___init__ : PySem.W.findIn K (.ref cc_VectorSet) "__init__" = some (some (.ref f_VectorSet___init__))) (tf_VectorSet___init__ : PySem.W.typeIn K (.ref f_VectorSet___init__) = some (.type "function"))
  (l_VectorSet___init__ : K.lookup f_VectorSet___init__ = some ⟨oc_VectorSet___init__, od_VectorSet___init__, .func (PySem.W.fnOf "__init__" "VectorSet.__init__" (defArgs s_VectorSet___init__) (defBody s_VectorSet___init__) (defScope s_VectorSet___init__) .none kV_VectorSet___init__ dc_VectorSet___init__ pm_VectorSet___init__ an_VectorSet___init__ cd_VectorSet___init__ ct_VectorSet___init__), sl_VectorSet___init__⟩)
  (c_VectorSet___init__ : PySem.W.codeIn K cd_VectorSet___init__ "VectorSet.__init__" = true) (k_VectorSet___init__ : PySem.W.keepIn K (.ref f_VectorSet___init__) = true)
  {f_steps_of : Addr} {oc_steps_of kV_steps_of dc_steps_of pm_steps_of cd_steps_of ct_steps_of : Value} {od_steps_of an_steps_of : Option Addr} {sl_steps_of : Array (Option Value)}
  (a_steps_of : PySem.W.nsIn K mainGlobals "steps_of" = some (some (.ref f_steps_of)))
  (l_steps_of : K.lookup f_steps_of = some ⟨oc_steps_of, od_steps_of, .func (PySem.W.fnOf "steps_of" "steps_of" (defArgs s_steps_of) (defBody s_steps_of) (defScope s_steps_of) .none kV_steps_of dc_steps_of pm_steps_of an_steps_of cd_steps_of ct_steps_of), sl_steps_of⟩)
  (c_steps_of : PySem.W.codeIn K cd_steps_of "steps_of" = true) (k_steps_of : PySem.W.keepIn K (.ref f_steps_of) = true)
  {f_after : Addr} {oc_after kV_after dc_after pm_after cd_after ct_after : Value} {od_after an_after : Option Addr} {sl_after : Array (Option Value)}
  (a_after : PySem.W.nsIn K mainGlobals "after" = some (some (.ref f_after)))
  (l_after : K.lookup f_after = some ⟨oc_after, od_after, .func (PySem.W.fnOf "after" "after" (defArgs s_after) (defBody s_after) (defScope s_after) .none kV_after dc_after pm_after an_after cd_after ct_after), sl_after⟩)
  (c_after : PySem.W.codeIn K cd_after "after" = true) (k_after : PySem.W.keepIn K (.ref f_after) = true)
  {f_is_exchanged : Addr} {oc_is_exchanged kV_is_exchanged dc_is_exchanged pm_is_exchanged cd_is_exchanged ct_is_exchanged : Value} {od_is_exchanged an_is_exchanged : Option Addr} {sl_is_exchanged : Array (Option Value)}
  (a_is_exchanged : PySem.W.nsIn K mainGlobals "is_exchanged" = some (some (.ref f_is_exchanged)))
  (l_is_exchanged : K.lookup f_is_exchanged = some ⟨oc_is_exchanged, od_is_exchanged, .func (PySem.W.fnOf "is_exchanged" "is_exchanged" (defArgs s_is_exchanged) (defBody s_is_exchanged) (defScope s_is_exchanged) .none kV_is_exchanged dc_is_exchanged pm_is_exchanged an_is_exchanged cd_is_exchanged ct_is_exchanged), sl_is_exchanged⟩)
  (c_is_exchanged : PySem.W.codeIn K cd_is_exchanged "is_exchanged" = true) (k_is_exchanged : PySem.W.keepIn K (.ref f_is_exchanged) = true)
  {f_first_failure : Addr} {oc_first_failure kV_first_failure dc_first_failure pm_first_failure cd_first_failure ct_first_failure : Value} {od_first_failure an_first_failure : Option Addr} {sl_first_failure : Array (Option Value)}
  (a_first_failure : PySem.W.nsIn K mainGlobals "first_failure" = some (some (.ref f_first_failure)))
  (l_first_failure : K.lookup f_first_failure = some ⟨oc_first_failure, od_first_failure, .func (PySem.W.fnOf "first_failure" "first_failure" (defArgs s_first_failure) (defBody s_first_failure) (defScope s_first_failure) .none kV_first_failure dc_first_failure pm_first_failure an_first_failure cd_first_failure ct_first_failure), sl_first_failure⟩)
  (c_first_failure : PySem.W.codeIn K cd_first_failure "first_failure" = true) (k_first_failure : PySem.W.keepIn K (.ref f_first_failure) = true)
  {f_JumpSet___init__ cda_JumpSet___init__ ccl_JumpSet___init__ : Addr} {oc_JumpSet___init__ kV_JumpSet___init__ dc_JumpSet___init__ pm_JumpSet___init__ ct_JumpSet___init__ xcl_JumpSet___init__ xccl_JumpSet___init__ : Value} {od_JumpSet___init__ an_JumpSet___init__ xcld_JumpSet___init__ xcdd_JumpSet___init__ : Option Addr} {sl_JumpSet___init__ xcsl_JumpSet___init__ xccs_JumpSet___init__ : Array (Option Value)} {xvs_JumpSet___init__ : Array Value} {xtf_JumpSet___init__ : Tok}
  (a_JumpSet___init__ : PySem.W.findIn K (.ref cc_JumpSet) "__init__" = some (some (.ref f_JumpSet___init__))) (tf_JumpSet___init__ : PySem.W.typeIn K (.ref f_JumpSet___init__) = some (.type "function"))
  (l_JumpSet___init__ : K.lookup f_JumpSet___init__ = some ⟨oc_JumpSet___init__, od_JumpSet___init__, .func (PySem.W.fnX "__init__" "JumpSet.__init__" (defArgs s_JumpSet___init__) (defBody s_JumpSet___init__) (defScope s_JumpSet___init__) (clsCl ccl_JumpSet___init__) .none kV_JumpSet___init__ dc_JumpSet___init__ pm_JumpSet___init__ an_JumpSet___init__ (.ref cda_JumpSet___init__) ct_JumpSet___init__), sl_JumpSet___init__⟩) (c_JumpSet___init__ : PySem.W.codeIn K (.ref cda_JumpSet___init__) "JumpSet.__init__" = true) (k_JumpSet___init__ : PySem.W.keepIn K (.ref f_JumpSet___init__) = true)
  (x_JumpSet___init__ : K.lookup ccl_JumpSet___init__ = some ⟨xcl_JumpSet___init__, xcld_JumpSet___init__, .cell (some (.ref cc_JumpSet)), xcsl_JumpSet___init__⟩) (y_JumpSet___init__ : K.lookup cda_JumpSet___init__ = some ⟨xccl_JumpSet___init__, xcdd_JumpSet___init__, .fields xvs_JumpSet___init__, xccs_JumpSet___init__⟩) (e_f_JumpSet___init__ : xvs_JumpSet___init__[2]? = some (.str progFile xtf_JumpSet___init__))
  (sa_JumpSet___init__ : PySem.W.nsIn K cStatics "thirdparty.any" = some none) (sb_JumpSet___init__ : (PySem.W.clsIn K cc_JumpSet).isSome = true) (sc1_JumpSet___init__ : PySem.W.typeIn K (.ref f_VectorSet___init__) = some (.type "function")) (sd_JumpSet___init__ : PySem.W.fnIn K f_VectorSet___init__ = true)
  (se_JumpSet___init___JumpSet : (PySem.W.clsIn K cc_JumpSet).isSome = true) (sf_JumpSet___init___JumpSet : PySem.W.mroIn K cc_JumpSet (.ref cc_JumpSet) = some true) (sg_JumpSet___init___JumpSet : PySem.W.ks_superIn K cc_JumpSet cc_JumpSet "__init__" = some (some (.ref f_VectorSet___init__)))
  {f_JumpSet_failure : Addr} {oc_JumpSet_failure kV_JumpSet_failure dc_JumpSet_failure pm_JumpSet_failure cd_JumpSet_failure ct_JumpSet_failure : Value} {od_JumpSet_failure an_JumpSet_failure : Option Addr} {sl_JumpSet_failure : Array (Option Value)}
  (l_JumpSet_failure : K.lookup f_JumpSet_failure = some ⟨oc_JumpSet_failure, od_JumpSet_failure, .func (PySem.W.fnOf "failure" "JumpSet.failure" (defArgs s_JumpSet_failure) (defBody s_JumpSet_failure) (defScope s_JumpSet_failure) .none kV_JumpSet_failure dc_JumpSet_failure pm_JumpSet_failure an_JumpSet_failure cd_JumpSet_failure ct_JumpSet_failure), sl_JumpSet_failure⟩)
  (c_JumpSet_failure : PySem.W.codeIn K cd_JumpSet_failure "JumpSet.failure" = true) (k_JumpSet_failure : PySem.W.keepIn K (.ref f_JumpSet_failure) = true)
  {lc__law_right lP__law_right : Addr}
  {f__law_right : Addr} {oc__law_right kV__law_right dc__law_right pm__law_right ct__law_right : Value} {od__law_right an__law_right : Option Addr} {sl__law_right : Array (Option Value)}
  (a__law_right : PySem.W.nsIn K mainGlobals "_law_right" = some (some (.ref f__law_right)))
  (l__law_right : K.lookup f__law_right = some ⟨oc__law_right, od__law_right, .func (PySem.W.fnOf "_law_right" "_law_right" (defArgs s__law_right) (defBody s__law_right) (defScope s__law_right) .none kV__law_right dc__law_right pm__law_right an__law_right (.ref lc__law_right) ct__law_right), sl__law_right⟩)
  (c__law_right : PySem.W.codeIn K (.ref lc__law_right) "_law_right" = true) (k__law_right : PySem.W.keepIn K (.ref f__law_right) = true)
  (q__law_right : h.get? lP__law_right = some { cls := .none, data := .fields #[] }) (u__law_right : PySem.W.codeHdIn K lc__law_right lP__law_right = true) (r__law_right : K.lookup lP__law_right = none)
  {f_law : Addr} {oc_law kV_law dc_law pm_law cd_law ct_law : Value} {od_law an_law : Option Addr} {sl_law : Array (Option Value)}
  (a_law : PySem.W.nsIn K mainGlobals "law" = some (some (.ref f_law)))
  (l_law : K.lookup f_law = some ⟨oc_law, od_law, .func (PySem.W.fnOf "law" "law" (defArgs s_law) (defBody s_law) (defScope s_law) .none kV_law dc_law pm_law an_law cd_law ct_law), sl_law⟩)
  (c_law : PySem.W.codeIn K cd_law "law" = true) (k_law : PySem.W.keepIn K (.ref f_law) = true)
  (av_JumpSet_JumpSet___init__ : PySem.W.findIn K (.ref cc_JumpSet) "__init__" = some (some (.ref f_JumpSet___init__)))
  (av_VectorSet_VectorSet___init__ : PySem.W.findIn K (.ref cc_VectorSet) "__init__" = some (some (.ref f_VectorSet___init__)))
  (sga_JumpSet : PySem.W.specialIn K (.ref cc_JumpSet) "__getattribute__" = some (some (.builtin "type.__getattribute__"))) (srd_JumpSet : PySem.W.readsIn K cc_JumpSet (.type "type") = true)
  {sp_JumpSet_failure : Addr} {srs_JumpSet_failure : List Value}
  (sat_JumpSet_JumpSet_failure : PySem.W.findCls K (.ref cc_JumpSet) (.type "type") "failure" = some (.get (.builtin "staticmethod.__get__") (.ref sp_JumpSet_failure) .none (.ref cc_JumpSet)))
  (src_JumpSet_failure : PySem.W.recIn K sp_JumpSet_failure "staticmethod" = some (.ref f_JumpSet_failure :: srs_JumpSet_failure))
  {t_MAX_DIMENSION : Tok} (z_MAX_DIMENSION : PySem.W.nsIn K mainGlobals "MAX_DIMENSION" = some (some (.int 5 t_MAX_DIMENSION)))
  {t_MAX_ENTRY : Tok} (z_MAX_ENTRY : PySem.W.nsIn K mainGlobals "MAX_ENTRY" = some (some (.int 1000 t_MAX_ENTRY)))
  {t_MAX_GIVEN : Tok} (z_MAX_GIVEN : PySem.W.nsIn K mainGlobals "MAX_GIVEN" = some (some (.int 2000 t_MAX_GIVEN)))
  {t_MAX_MEMBERS : Tok} (z_MAX_MEMBERS : PySem.W.nsIn K mainGlobals "MAX_MEMBERS" = some (some (.int 120 t_MAX_MEMBERS)))
  (z_ValueError : PySem.W.nsIn K mainGlobals "ValueError" = some none)
  (z_abs : PySem.W.nsIn K mainGlobals "abs" = some none)
  (z_all : PySem.W.nsIn K mainGlobals "all" = some none)
  (z_any : PySem.W.nsIn K mainGlobals "any" = some none)
  (z_bool : PySem.W.nsIn K mainGlobals "bool" = some none)
  (z_enumerate : PySem.W.nsIn K mainGlobals "enumerate" = some none)
  (z_int : PySem.W.nsIn K mainGlobals "int" = some none)
  (z_isinstance : PySem.W.nsIn K mainGlobals "isinstance" = some none)
  (z_len : PySem.W.nsIn K mainGlobals "len" = some none)
  (z_list : PySem.W.nsIn K mainGlobals "list" = some none)
  (z_range : PySem.W.nsIn K mainGlobals "range" = some none)
  (z_repr : PySem.W.nsIn K mainGlobals "repr" = some none)
  (z_sorted : PySem.W.nsIn K mainGlobals "sorted" = some none)
  (z_super : PySem.W.nsIn K mainGlobals "super" = some none)
  (z_tuple : PySem.W.nsIn K mainGlobals "tuple" = some none)
  (z_zip : PySem.W.nsIn K mainGlobals "zip" = some none)
  {cc_InvalidMembers NN_InvalidMembers : Addr} {q_InvalidMembers : Str} {bs_InvalidMembers sub_InvalidMembers : List Value} {sn_InvalidMembers : List Str} {ab_InvalidMembers : Bool} {col_InvalidMembers : Option Bool} {dd_InvalidMembers : Option Addr} {x0_InvalidMembers x1_InvalidMembers x2_InvalidMembers x3_InvalidMembers x5_InvalidMembers : Option Value}
  (a_InvalidMembers : PySem.W.nsIn K mainGlobals "InvalidMembers" = some (some (.ref cc_InvalidMembers)))
  (l_InvalidMembers : K.lookup cc_InvalidMembers = some (excClassObj "InvalidMembers" q_InvalidMembers cc_InvalidMembers NN_InvalidMembers bs_InvalidMembers [.type "ValueError", .type "Exception", .type "BaseException", .type "object"] true sn_InvalidMembers sub_InvalidMembers ab_InvalidMembers col_InvalidMembers dd_InvalidMembers x0_InvalidMembers x1_InvalidMembers x2_InvalidMembers x3_InvalidMembers x5_InvalidMembers "ValueError.__new__"))
  (p1_InvalidMembers : PySem.W.findIn K (.ref cc_InvalidMembers) "__setattr__" = some (some (.builtin "object.__setattr__")))
  (p2_InvalidMembers : PySem.W.subIn K (.ref cc_InvalidMembers) (.type "BaseException") = some true)
  (p3_InvalidMembers : PySem.W.typeIn K (.ref cc_InvalidMembers) = some (.type "type"))
  (p4_InvalidMembers : PySem.W.keepIn K (.ref cc_InvalidMembers) = true)
  (p5_InvalidMembers : PySem.W.findIn K (.ref cc_InvalidMembers) "__getattribute__" = some (some (.builtin "BaseException.__getattribute__")))
  (p6_InvalidMembers : PySem.W.findIn K (.ref cc_InvalidMembers) "__getattr__" = some none)
  (p7_InvalidMembers : PySem.W.findIn K (.ref cc_InvalidMembers) "__class__" = some (some (.builtin "object.__class__")))
  {ii_InvalidMembers : Addr} {ioc_InvalidMembers ikV_InvalidMembers idc_InvalidMembers ipm_InvalidMembers icd_InvalidMembers ict_InvalidMembers : Value} {iod_InvalidMembers ian_InvalidMembers : Option Addr} {isl_InvalidMembers : Array (Option Value)}
  (iC_InvalidMembers : PySem.W.findIn K (.ref cc_InvalidMembers) "__init__" = some (some (.ref ii_InvalidMembers)))
  (il_InvalidMembers : K.lookup ii_InvalidMembers = some ⟨ioc_InvalidMembers, iod_InvalidMembers, .func (PySem.W.fnOf "__init__" "InvalidMembers.__init__" (defArgs si_InvalidMembers) (defBody si_InvalidMembers) (defScope si_InvalidMembers) .none ikV_InvalidMembers idc_InvalidMembers ipm_InvalidMembers ian_InvalidMembers icd_InvalidMembers ict_InvalidMembers), isl_InvalidMembers⟩)
  (ic_InvalidMembers : PySem.W.codeIn K icd_InvalidMembers "InvalidMembers.__init__" = true) (ik_InvalidMembers : PySem.W.keepIn K (.ref ii_InvalidMembers) = true) (tI_InvalidMembers : PySem.W.typeIn K (.ref ii_InvalidMembers) = some (.type "function"))
  {cc_InvalidVector NN_InvalidVector : Addr} {q_InvalidVector : Str} {bs_InvalidVector sub_InvalidVector : List Value} {sn_InvalidVector : List Str} {ab_InvalidVector : Bool} {col_InvalidVector : Option Bool} {dd_InvalidVector : Option Addr} {x0_InvalidVector x1_InvalidVector x2_InvalidVector x3_InvalidVector x5_InvalidVector : Option Value}
  (a_InvalidVector : PySem.W.nsIn K mainGlobals "InvalidVector" = some (some (.ref cc_InvalidVector)))
  (l_InvalidVector : K.lookup cc_InvalidVector = some (excClassObj "InvalidVector" q_InvalidVector cc_InvalidVector NN_InvalidVector bs_InvalidVector [.type "ValueError", .type "Exception", .type "BaseException", .type "object"] true sn_InvalidVector sub_InvalidVector ab_InvalidVector col_InvalidVector dd_InvalidVector x0_InvalidVector x1_InvalidVector x2_InvalidVector x3_InvalidVector x5_InvalidVector "ValueError.__new__"))
  (p1_InvalidVector : PySem.W.findIn K (.ref cc_InvalidVector) "__setattr__" = some (some (.builtin "object.__setattr__")))
  (p2_InvalidVector : PySem.W.subIn K (.ref cc_InvalidVector) (.type "BaseException") = some true)
  (p3_InvalidVector : PySem.W.typeIn K (.ref cc_InvalidVector) = some (.type "type"))
  (p4_InvalidVector : PySem.W.keepIn K (.ref cc_InvalidVector) = true)
  (p5_InvalidVector : PySem.W.findIn K (.ref cc_InvalidVector) "__getattribute__" = some (some (.builtin "BaseException.__getattribute__")))
  (p6_InvalidVector : PySem.W.findIn K (.ref cc_InvalidVector) "__getattr__" = some none)
  (p7_InvalidVector : PySem.W.findIn K (.ref cc_InvalidVector) "__class__" = some (some (.builtin "object.__class__")))
  {cc_NotJump NN_NotJump : Addr} {q_NotJump : Str} {bs_NotJump sub_NotJump : List Value} {sn_NotJump : List Str} {ab_NotJump : Bool} {col_NotJump : Option Bool} {dd_NotJump : Option Addr} {x0_NotJump x1_NotJump x2_NotJump x3_NotJump x5_NotJump : Option Value}
  (a_NotJump : PySem.W.nsIn K mainGlobals "NotJump" = some (some (.ref cc_NotJump)))
  (l_NotJump : K.lookup cc_NotJump = some (excClassObj "NotJump" q_NotJump cc_NotJump NN_NotJump bs_NotJump [.type "ValueError", .type "Exception", .type "BaseException", .type "object"] true sn_NotJump sub_NotJump ab_NotJump col_NotJump dd_NotJump x0_NotJump x1_NotJump x2_NotJump x3_NotJump x5_NotJump "ValueError.__new__"))
  (p1_NotJump : PySem.W.findIn K (.ref cc_NotJump) "__setattr__" = some (some (.builtin "object.__setattr__")))
  (p2_NotJump : PySem.W.subIn K (.ref cc_NotJump) (.type "BaseException") = some true)
  (p3_NotJump : PySem.W.typeIn K (.ref cc_NotJump) = some (.type "type"))
  (p4_NotJump : PySem.W.keepIn K (.ref cc_NotJump) = true)
  (p5_NotJump : PySem.W.findIn K (.ref cc_NotJump) "__getattribute__" = some (some (.builtin "BaseException.__getattribute__")))
  (p6_NotJump : PySem.W.findIn K (.ref cc_NotJump) "__getattr__" = some none)
  (p7_NotJump : PySem.W.findIn K (.ref cc_NotJump) "__class__" = some (some (.builtin "object.__class__")))
  {ii_NotJump : Addr} {ioc_NotJump ikV_NotJump idc_NotJump ipm_NotJump icd_NotJump ict_NotJump : Value} {iod_NotJump ian_NotJump : Option Addr} {isl_NotJump : Array (Option Value)}
  (iC_NotJump : PySem.W.findIn K (.ref cc_NotJump) "__init__" = some (some (.ref ii_NotJump)))
  (il_NotJump : K.lookup ii_NotJump = some ⟨ioc_NotJump, iod_NotJump, .func (PySem.W.fnOf "__init__" "NotJump.__init__" (defArgs si_NotJump) (defBody si_NotJump) (defScope si_NotJump) .none ikV_NotJump idc_NotJump ipm_NotJump ian_NotJump icd_NotJump ict_NotJump), isl_NotJump⟩)
  (ic_NotJump : PySem.W.codeIn K icd_NotJump "NotJump.__init__" = true) (ik_NotJump : PySem.W.keepIn K (.ref ii_NotJump) = true) (tI_NotJump : PySem.W.typeIn K (.ref ii_NotJump) = some (.type "function"))
  (cn_ : PySem.W.specialIn K (.builtin "object.__class__") "__get__" = some (some (.builtin "getset_descriptor.__get__"))) (ct_ : PySem.W.takesIn K (.builtin "object.__class__") = some true)
  (vV_ValueError : PySem.W.findCls K (.type "ValueError") (.type "type") "__init__" = some (.val (.builtin "ValueError.__init__")))
  (no_InvalidMembers_index : PySem.W.findIn K (.ref cc_InvalidMembers) "index" = some none)
  (no_NotJump_step : PySem.W.findIn K (.ref cc_NotJump) "step" = some none)
  (no_NotJump_x : PySem.W.findIn K (.ref cc_NotJump) "x" = some none)
  (no_NotJump_y : PySem.W.findIn K (.ref cc_NotJump) "y" = some none)
  : ∃ (K : PySem.W.Frag) (fd : FuncData) (M : MF) (ts : List (Addr × Addr × Str)), K.In h ∧ (∀ t ∈ ts, h.get? t.2.1 = some { cls := .none, data := .fields #[] }) ∧ (∀ t ∈ ts, K.lookup t.2.1 = none) ∧ (∀ t ∈ ts, PySem.W.CodeHd h t.1 t.2.1) ∧ (ts.map (·.2.1)).Nodup ∧ (∀ (s : Shared) (u : Value), BindsTo s fd ⟨[u], []⟩ [("_law_script", u)]) ∧ (∀ ns : List Int, ns.length ≤ 63 → (∀ z ∈ ns, Builtin.Int.intBits z ≤ 1048576) → ∃ S', M [.kl (ns.map D.int)] (tabS0 ts) = .ok (.bl true) S') ∧ ∀ base : Heap, K.In base → base.Ns mainGlobals mg → (∀ t ∈ ts, LamX.TabB base mg t.1 t.2.1) → FnM P w K mg base 11 fa fd ["_law_script"] M := by
  have F__law_pen := funD_mk (x := "_law_pen") (qual := "_law_pen") (st := s__law_pen) l__law_pen c__law_pen k__law_pen dfl0
  have F__law_draw := funD_mk (x := "_law_draw") (qual := "_law_draw") (st := s__law_draw) l__law_draw c__law_draw k__law_draw dfl0
  have F__law_pick := funD_mk (x := "_law_pick") (qual := "_law_pick") (st := s__law_pick) l__law_pick c__law_pick k__law_pick dfl0
  have F__law_odd := funD_mk (x := "_law_odd") (qual := "_law_odd") (st := s__law_odd) l__law_odd c__law_odd k__law_odd dfl0
  have F__law_refused := funD_mk (x := "_law_refused") (qual := "_law_refused") (st := s__law_refused) l__law_refused c__law_refused k__law_refused dfl0
  have F_is_list := funD_mk (x := "is_list") (qual := "is_list") (st := s_is_list) l_is_list c_is_list k_is_list dfl0
  have F_is_integer := funD_mk (x := "is_integer") (qual := "is_integer") (st := s_is_integer) l_is_integer c_is_integer k_is_integer dfl0
  have F_is_between := funD_mk (x := "is_between") (qual := "is_between") (st := s_is_between) l_is_between c_is_between k_is_between dfl0
  have F_fits_vector := funD_mk (x := "fits_vector") (qual := "fits_vector") (st := s_fits_vector) l_fits_vector c_fits_vector k_fits_vector dfl0
  have F_checked_members := funD_mk (x := "checked_members") (qual := "checked_members") (st := s_checked_members) l_checked_members c_checked_members k_checked_members dfl0
  have F_VectorSet___init__ := funD_mk (x := "__init__") (qual := "VectorSet.__init__") (st := s_VectorSet___init__) l_VectorSet___init__ c_VectorSet___init__ k_VectorSet___init__ dfl0
  have F_steps_of := funD_mk (x := "steps_of") (qual := "steps_of") (st := s_steps_of) l_steps_of c_steps_of k_steps_of dfl0
  have F_after := funD_mk (x := "after") (qual := "after") (st := s_after) l_after c_after k_after dfl0
  have F_is_exchanged := funD_mk (x := "is_exchanged") (qual := "is_exchanged") (st := s_is_exchanged) l_is_exchanged c_is_exchanged k_is_exchanged dfl0
  have F_first_failure := funD_mk (x := "first_failure") (qual := "first_failure") (st := s_first_failure) l_first_failure c_first_failure k_first_failure dfl0
  have S_JumpSet___init__ : SupFn K "__init__" "JumpSet.__init__" (defArgs s_JumpSet___init__) (defBody s_JumpSet___init__) (defScope s_JumpSet___init__) f_JumpSet___init__ _ cda_JumpSet___init__ ccl_JumpSet___init__ cc_JumpSet progFile := ⟨⟨_, _, _, _, _, _, _, _, rfl, l_JumpSet___init__⟩, c_JumpSet___init__, ⟨_, _, _, x_JumpSet___init__⟩, ⟨_, _, _, _, _, y_JumpSet___init__, e_f_JumpSet___init__⟩⟩
  have F_JumpSet_failure := funD_mk (x := "failure") (qual := "JumpSet.failure") (st := s_JumpSet_failure) l_JumpSet_failure c_JumpSet_failure k_JumpSet_failure dfl0
  have F__law_right := funD_mk (x := "_law_right") (qual := "_law_right") (st := s__law_right) l__law_right c__law_right k__law_right dfl0
  have F_law := funD_mk (x := "law") (qual := "law") (st := s_law) l_law c_law k_law dfl0
  have b_JumpSet___init___2 := SupFn.bindsN (ps := ["self", "members"]) S_JumpSet___init__ fun _ _ _ _ _ us hl => match us, hl with | [_, _], _ => rfl
  have b_JumpSet_failure_1 := FunD.bindsN (ps := ["members"]) F_JumpSet_failure fun _ _ _ _ _ _ us hl => match us, hl with | [_], _ => rfl
  have b_VectorSet___init___2 := FunD.bindsN (ps := ["self", "members"]) F_VectorSet___init__ fun _ _ _ _ _ _ us hl => match us, hl with | [_, _], _ => rfl
  have b__law_draw_2 := FunD.bindsN (ps := ["_law_pen_here", "_law_size"]) F__law_draw fun _ _ _ _ _ _ us hl => match us, hl with | [_, _], _ => rfl
  have b__law_odd_2 := FunD.bindsN (ps := ["_law_pen_here", "_law_size"]) F__law_odd fun _ _ _ _ _ _ us hl => match us, hl with | [_, _], _ => rfl
  have b__law_pen_1 := FunD.bindsN (ps := ["_law_script"]) F__law_pen fun _ _ _ _ _ _ us hl => match us, hl with | [_], _ => rfl
  have b__law_pick_2 := FunD.bindsN (ps := ["_law_pen_here", "_law_options"]) F__law_pick fun _ _ _ _ _ _ us hl => match us, hl with | [_, _], _ => rfl
  have b__law_refused_1 := FunD.bindsN (ps := ["_law_call"]) F__law_refused fun _ _ _ _ _ _ us hl => match us, hl with | [_], _ => rfl
  have b__law_right_2 := FunD.bindsN (ps := ["_law_given", "_law_due"]) F__law_right fun _ _ _ _ _ _ us hl => match us, hl with | [_, _], _ => rfl
  have b_after_2 := FunD.bindsN (ps := ["x", "step"]) F_after fun _ _ _ _ _ _ us hl => match us, hl with | [_, _], _ => rfl
  have b_checked_members_1 := FunD.bindsN (ps := ["members"]) F_checked_members fun _ _ _ _ _ _ us hl => match us, hl with | [_], _ => rfl
  have b_first_failure_1 := FunD.bindsN (ps := ["kept"]) F_first_failure fun _ _ _ _ _ _ us hl => match us, hl with | [_], _ => rfl
  have b_fits_vector_1 := FunD.bindsN (ps := ["value"]) F_fits_vector fun _ _ _ _ _ _ us hl => match us, hl with | [_], _ => rfl
  have b_is_between_3 := FunD.bindsN (ps := ["value", "low", "high"]) F_is_between fun _ _ _ _ _ _ us hl => match us, hl with | [_, _, _], _ => rfl
  have b_is_exchanged_4 := FunD.bindsN (ps := ["known", "x", "y", "step"]) F_is_exchanged fun _ _ _ _ _ _ us hl => match us, hl with | [_, _, _, _], _ => rfl
  have b_is_integer_1 := FunD.bindsN (ps := ["value"]) F_is_integer fun _ _ _ _ _ _ us hl => match us, hl with | [_], _ => rfl
  have b_is_list_1 := FunD.bindsN (ps := ["value"]) F_is_list fun _ _ _ _ _ _ us hl => match us, hl with | [_], _ => rfl
  have b_steps_of_2 := FunD.bindsN (ps := ["x", "y"]) F_steps_of fun _ _ _ _ _ _ us hl => match us, hl with | [_, _], _ => rfl
  have kb_VectorSet___init___ := FunD.bindsN (ps := ["self", "members"]) F_VectorSet___init__ fun _ _ _ _ _ _ us hl => match us, hl with | [_, _], _ => rfl
  have Fi_InvalidMembers := funD_mk (x := "__init__") (qual := "InvalidMembers.__init__") (st := si_InvalidMembers) il_InvalidMembers ic_InvalidMembers ik_InvalidMembers dfl0
  have bi_InvalidMembers := FunD.bindsN (ps := ["self", "index"]) Fi_InvalidMembers fun _ _ _ _ _ _ us hl => match us, hl with | [_, _], _ => rfl
  have Fi_NotJump := funD_mk (x := "__init__") (qual := "NotJump.__init__") (st := si_NotJump) il_NotJump ic_NotJump ik_NotJump dfl0
  have bi_NotJump := FunD.bindsN (ps := ["self", "x", "y", "step"]) Fi_NotJump fun _ _ _ _ _ _ us hl => match us, hl with | [_, _, _, _], _ => rfl
  have e_InvalidMembers : EcOk K "ValueError" "ValueError.__new__" "ValueError.__init__" [.type "ValueError", .type "Exception", .type "BaseException", .type "object"] cc_InvalidMembers := ⟨eb_ValueError, ⟨_, _, _, _, _, _, _, _, _, _, _, _, _, _, l_InvalidMembers⟩, p1_InvalidMembers, p2_InvalidMembers, p3_InvalidMembers, p4_InvalidMembers, p5_InvalidMembers, p6_InvalidMembers, p7_InvalidMembers, cn_, ct_⟩
  have e_InvalidVector : EcOk K "ValueError" "ValueError.__new__" "ValueError.__init__" [.type "ValueError", .type "Exception", .type "BaseException", .type "object"] cc_InvalidVector := ⟨eb_ValueError, ⟨_, _, _, _, _, _, _, _, _, _, _, _, _, _, l_InvalidVector⟩, p1_InvalidVector, p2_InvalidVector, p3_InvalidVector, p4_InvalidVector, p5_InvalidVector, p6_InvalidVector, p7_InvalidVector, cn_, ct_⟩
  have e_NotJump : EcOk K "ValueError" "ValueError.__new__" "ValueError.__init__" [.type "ValueError", .type "Exception", .type "BaseException", .type "object"] cc_NotJump := ⟨eb_ValueError, ⟨_, _, _, _, _, _, _, _, _, _, _, _, _, _, l_NotJump⟩, p1_NotJump, p2_NotJump, p3_NotJump, p4_NotJump, p5_NotJump, p6_NotJump, p7_NotJump, cn_, ct_⟩
  let ca : CA := ⟨cc_InvalidMembers, cc_InvalidVector, cc_NotJump, cc_VectorSet, cc_JumpSet, lc__law_right, lP__law_right⟩
  have hca : CaOk ca := ⟨cls_ne l_InvalidMembers l_InvalidVector (by decide), cls_ne l_InvalidMembers l_NotJump (by decide), cls_ne l_InvalidVector l_InvalidMembers (by decide), cls_ne l_InvalidVector l_NotJump (by decide), cls_ne l_NotJump l_InvalidMembers (by decide), cls_ne l_NotJump l_InvalidVector (by decide)⟩
  let T : Tx K mg ca := {
    e_InvalidMembers := e_InvalidMembers, h_InvalidMembers := PySem.W.mg_of X G a_InvalidMembers,
    e_InvalidVector := e_InvalidVector, h_InvalidVector := PySem.W.mg_of X G a_InvalidVector,
    e_NotJump := e_NotJump, h_NotJump := PySem.W.mg_of X G a_NotJump,
    i_InvalidMembers := ii_InvalidMembers, fdi_InvalidMembers := _, Fi_InvalidMembers := Fi_InvalidMembers, bi_InvalidMembers := bi_InvalidMembers, iC_InvalidMembers := iC_InvalidMembers, tI_InvalidMembers := tI_InvalidMembers,
    i_NotJump := ii_NotJump, fdi_NotJump := _, Fi_NotJump := Fi_NotJump, bi_NotJump := bi_NotJump, iC_NotJump := iC_NotJump, tI_NotJump := tI_NotJump,
    vV_ValueError := vV_ValueError,
    no_InvalidMembers_index := no_InvalidMembers_index,
    no_NotJump_step := no_NotJump_step,
    no_NotJump_x := no_NotJump_x,
    no_NotJump_y := no_NotJump_y,
    kit_InvalidMembers_InvalidVector := (e_InvalidMembers.kitC e_InvalidVector hca.ne_InvalidMembers_InvalidVector),
    kit_InvalidMembers_NotJump := (e_InvalidMembers.kitC e_NotJump hca.ne_InvalidMembers_NotJump),
    kit_InvalidMembers_ValueError := (e_InvalidMembers.kitT (by decide +kernel) (by decide +kernel)),
    f_JumpSet___init__ := f_JumpSet___init__, fd_JumpSet___init__ := _, cda_JumpSet___init__ := cda_JumpSet___init__, ccl_JumpSet___init__ := ccl_JumpSet___init__, S_JumpSet___init__ := S_JumpSet___init__, so_JumpSet___init__ := (all_cons ⟨sa_JumpSet___init__, Option.isSome_iff_exists.mp sb_JumpSet___init__, Option.isSome_iff_exists.mp se_JumpSet___init___JumpSet, sf_JumpSet___init___JumpSet, sg_JumpSet___init___JumpSet, sc1_JumpSet___init__, sd_JumpSet___init__, S_JumpSet___init__.cell⟩ all_nil),
    f__law_pen := f__law_pen, fd__law_pen := _, F__law_pen := F__law_pen, g__law_pen := PySem.W.mg_of X G a__law_pen,
    f__law_draw := f__law_draw, fd__law_draw := _, F__law_draw := F__law_draw, g__law_draw := PySem.W.mg_of X G a__law_draw,
    f__law_pick := f__law_pick, fd__law_pick := _, F__law_pick := F__law_pick, g__law_pick := PySem.W.mg_of X G a__law_pick,
    f__law_odd := f__law_odd, fd__law_odd := _, F__law_odd := F__law_odd, g__law_odd := PySem.W.mg_of X G a__law_odd,
    f__law_refused := f__law_refused, fd__law_refused := _, F__law_refused := F__law_refused, g__law_refused := PySem.W.mg_of X G a__law_refused,
    f_is_list := f_is_list, fd_is_list := _, F_is_list := F_is_list, g_is_list := PySem.W.mg_of X G a_is_list,
    f_is_integer := f_is_integer, fd_is_integer := _, F_is_integer := F_is_integer, g_is_integer := PySem.W.mg_of X G a_is_integer,
    f_is_between := f_is_between, fd_is_between := _, F_is_between := F_is_between, g_is_between := PySem.W.mg_of X G a_is_between,
    f_fits_vector := f_fits_vector, fd_fits_vector := _, F_fits_vector := F_fits_vector, g_fits_vector := PySem.W.mg_of X G a_fits_vector,
    f_checked_members := f_checked_members, fd_checked_members := _, F_checked_members := F_checked_members, g_checked_members := PySem.W.mg_of X G a_checked_members,
    f_VectorSet___init__ := f_VectorSet___init__, fd_VectorSet___init__ := _, F_VectorSet___init__ := F_VectorSet___init__,
    f_steps_of := f_steps_of, fd_steps_of := _, F_steps_of := F_steps_of, g_steps_of := PySem.W.mg_of X G a_steps_of,
    f_after := f_after, fd_after := _, F_after := F_after, g_after := PySem.W.mg_of X G a_after,
    f_is_exchanged := f_is_exchanged, fd_is_exchanged := _, F_is_exchanged := F_is_exchanged, g_is_exchanged := PySem.W.mg_of X G a_is_exchanged,
    f_first_failure := f_first_failure, fd_first_failure := _, F_first_failure := F_first_failure, g_first_failure := PySem.W.mg_of X G a_first_failure,
    f_JumpSet_failure := f_JumpSet_failure, fd_JumpSet_failure := _, F_JumpSet_failure := F_JumpSet_failure,
    f__law_right := f__law_right, fd__law_right := _, F__law_right := F__law_right, g__law_right := PySem.W.mg_of X G a__law_right,
    f_law := f_law, fd_law := _, F_law := F_law, g_law := PySem.W.mg_of X G a_law,
    h_VectorSet := PySem.W.mg_of X G a_VectorSet, ow_VectorSet := ⟨⟨w1_VectorSet, w2_VectorSet, w3_VectorSet, w4_VectorSet⟩, w5_VectorSet, cn_, ct_, w6_VectorSet, own_nT v0_VectorSet v1_VectorSet v2_VectorSet v3_VectorSet v4_VectorSet v5_VectorSet⟩,
    mk_VectorSet := ⟨w7_VectorSet, av_VectorSet_VectorSet___init__, beq_iff_eq.mpr tf_VectorSet___init__, w8_VectorSet⟩,
    h_JumpSet := PySem.W.mg_of X G a_JumpSet, ow_JumpSet := ⟨⟨w1_JumpSet, w2_JumpSet, w3_JumpSet, w4_JumpSet⟩, w5_JumpSet, cn_, ct_, w6_JumpSet, own_nT v0_JumpSet v1_JumpSet v2_JumpSet v3_JumpSet v4_JumpSet v5_JumpSet⟩,
    mk_JumpSet := ⟨w7_JumpSet, av_JumpSet_JumpSet___init__, beq_iff_eq.mpr tf_JumpSet___init__, w8_JumpSet⟩,
    na_c1_kept := (all_cons na_JumpSet_kept all_nil),
    na_c0_kept := (all_cons na_VectorSet_kept (all_cons na_JumpSet_kept all_nil)),
    na_c0_known := (all_cons na_VectorSet_known (all_cons na_JumpSet_known all_nil)),
    sp_JumpSet_failure := sp_JumpSet_failure,
    st_JumpSet_JumpSet_failure := ⟨sga_JumpSet, srd_JumpSet, sat_JumpSet_JumpSet_failure, ⟨_, src_JumpSet_failure⟩, k_JumpSet_failure⟩,
    kb_VectorSet___init___ := kb_VectorSet___init___,
    d_JumpSet___init___2 := [], v_JumpSet___init___2 := .nil, b_JumpSet___init___2 := b_JumpSet___init___2,
    d_JumpSet_failure_1 := [], v_JumpSet_failure_1 := .nil, b_JumpSet_failure_1 := b_JumpSet_failure_1,
    d_VectorSet___init___2 := [], v_VectorSet___init___2 := .nil, b_VectorSet___init___2 := b_VectorSet___init___2,
    d__law_draw_2 := [], v__law_draw_2 := .nil, b__law_draw_2 := b__law_draw_2,
    d__law_odd_2 := [], v__law_odd_2 := .nil, b__law_odd_2 := b__law_odd_2,
    d__law_pen_1 := [], v__law_pen_1 := .nil, b__law_pen_1 := b__law_pen_1,
    d__law_pick_2 := [], v__law_pick_2 := .nil, b__law_pick_2 := b__law_pick_2,
    b__law_refused_1 := b__law_refused_1,
    d__law_right_2 := [], v__law_right_2 := .nil, b__law_right_2 := b__law_right_2,
    d_after_2 := [], v_after_2 := .nil, b_after_2 := b_after_2,
    d_checked_members_1 := [], v_checked_members_1 := .nil, b_checked_members_1 := b_checked_members_1,
    d_first_failure_1 := [], v_first_failure_1 := .nil, b_first_failure_1 := b_first_failure_1,
    d_fits_vector_1 := [], v_fits_vector_1 := .nil, b_fits_vector_1 := b_fits_vector_1,
    d_is_between_3 := [], v_is_between_3 := .nil, b_is_between_3 := b_is_between_3,
    d_is_exchanged_4 := [], v_is_exchanged_4 := .nil, b_is_exchanged_4 := b_is_exchanged_4,
    d_is_integer_1 := [], v_is_integer_1 := .nil, b_is_integer_1 := b_is_integer_1,
    d_is_list_1 := [], v_is_list_1 := .nil, b_is_list_1 := b_is_list_1,
    d_steps_of_2 := [], v_steps_of_2 := .nil, b_steps_of_2 := b_steps_of_2,
    lk__law_right := ⟨_, _, _, _, _, _, _, _, _, rfl, l__law_right, c__law_right⟩,
    b_law := fun s u => FunD.bindsA (ps := ["_law_script"]) F_law (fun _ _ _ _ _ _ us hl => match us, hl with | [_], _ => rfl) s [u] rfl,
    t_MAX_DIMENSION := t_MAX_DIMENSION, c_MAX_DIMENSION := PySem.W.mg_of X G z_MAX_DIMENSION,
    t_MAX_ENTRY := t_MAX_ENTRY, c_MAX_ENTRY := PySem.W.mg_of X G z_MAX_ENTRY,
    t_MAX_GIVEN := t_MAX_GIVEN, c_MAX_GIVEN := PySem.W.mg_of X G z_MAX_GIVEN,
    t_MAX_MEMBERS := t_MAX_MEMBERS, c_MAX_MEMBERS := PySem.W.mg_of X G z_MAX_MEMBERS,
    n_ValueError := PySem.W.mg_none_of X G z_ValueError,
    n_abs := PySem.W.mg_none_of X G z_abs,
    n_all := PySem.W.mg_none_of X G z_all,
    n_any := PySem.W.mg_none_of X G z_any,
    n_bool := PySem.W.mg_none_of X G z_bool,
    n_enumerate := PySem.W.mg_none_of X G z_enumerate,
    n_int := PySem.W.mg_none_of X G z_int,
    n_isinstance := PySem.W.mg_none_of X G z_isinstance,
    n_len := PySem.W.mg_none_of X G z_len,
    n_list := PySem.W.mg_none_of X G z_list,
    n_range := PySem.W.mg_none_of X G z_range,
    n_repr := PySem.W.mg_none_of X G z_repr,
    n_sorted := PySem.W.mg_none_of X G z_sorted,
    n_super := PySem.W.mg_none_of X G z_super,
    n_tuple := PySem.W.mg_none_of X G z_tuple,
    n_zip := PySem.W.mg_none_of X G z_zip }
  have e := hfa.symm.trans T.g_law
  cases e
  exact ⟨K, T.fd_law, M_law ca, [(lc__law_right, lP__law_right, ("_law_right" : Str) ++ ".<locals>." ++ "<lambda>")], X, fun t ht => by rw [List.mem_singleton.mp ht]; exact q__law_right, fun t ht => by rw [List.mem_singleton.mp ht]; exact r__law_right, fun t ht => by rw [List.mem_singleton.mp ht]; exact PySem.W.codeHd_of_K X u__law_right, by simp, fun s u => T.b_law s u, fun ns hl hb => law_true ca hca ns hl hb, fun base _ _ hTB => fn_law T ⟨hTB _ (List.mem_singleton.mpr rfl)⟩⟩
end Q

open PySem PySem.W PyProof.Rows
set_option maxHeartbeats 0 in
set_option maxRecDepth 100000 in
theorem PySem.Challenge.cw_jumpsets_k06_members_refused_holds : PySem.Challenge.rw_jumpsets_k06_members_refused.Holds := by
  refine HeadFirst.head.2.2 HeadFirst.run ?_
  delta HeadFirst.head
  dsimp only
  k_fill
  refine Q.walk_MT (l := PySem.Challenge.rw_jumpsets_k06_members_refused) (n := 63) (k := 11) (x := "_law_script") rfl (by decide) rfl ⟨rfl, by decide, by decide⟩ (by decide +kernel) ?F
  case F =>
    intro w mg fa h Y G hmg
    have KX := PySem.W.km_in_of Y
    have hT8 := PySem.W.km_tabs_of Y
    refine' Q.all_mk (po := Q.inst_po) (pf := Q.inst_pf) KX G hmg ?a_VectorSet ?w1_VectorSet ?w2_VectorSet ?w3_VectorSet ?w4_VectorSet ?w5_VectorSet ?w6_VectorSet ?w7_VectorSet ?w8_VectorSet ?v0_VectorSet ?v1_VectorSet ?v2_VectorSet ?v3_VectorSet ?v4_VectorSet ?v5_VectorSet ?a_JumpSet ?w1_JumpSet ?w2_JumpSet ?w3_JumpSet ?w4_JumpSet ?w5_JumpSet ?w6_JumpSet ?w7_JumpSet ?w8_JumpSet ?v0_JumpSet ?v1_JumpSet ?v2_JumpSet ?v3_JumpSet ?v4_JumpSet ?v5_JumpSet ?na_JumpSet_kept ?na_JumpSet_known ?na_VectorSet_kept ?na_VectorSet_known ?a__law_pen ?l__law_pen ?c__law_pen ?k__law_pen ?a__law_draw ?l__law_draw ?c__law_draw ?k__law_draw ?a__law_pick ?l__law_pick ?c__law_pick ?k__law_pick ?a__law_odd ?l__law_odd ?c__law_odd ?k__law_odd ?a__law_refused ?l__law_refused ?c__law_refused ?k__law_refused ?a_is_list ?l_is_list ?c_is_list ?k_is_list ?a_is_integer ?l_is_integer ?c_is_integer ?k_is_integer ?a_is_between ?l_is_between ?c_is_between ?k_is_between ?a_fits_vector ?l_fits_vector ?c_fits_vector ?k_fits_vector ?a_checked_members ?l_checked_members ?c_checked_members ?k_checked_members ?a_VectorSet___init__ ?tf_VectorSet___init__ ?l_VectorSet___init__ ?c_VectorSet___init__ ?k_VectorSet___init__ ?a_steps_of ?l_steps_of ?c_steps_of ?k_steps_of ?a_after ?l_after ?c_after ?k_after ?a_is_exchanged ?l_is_exchanged ?c_is_exchanged ?k_is_exchanged ?a_first_failure ?l_first_failure ?c_first_failure ?k_first_failure ?a_JumpSet___init__ ?tf_JumpSet___init__ ?l_JumpSet___init__ ?c_JumpSet___init__ ?k_JumpSet___init__ ?x_JumpSet___init__ ?y_JumpSet___init__ ?e_f_JumpSet___init__ ?sa_JumpSet___init__ ?sb_JumpSet___init__ ?sc1_JumpSet___init__ ?sd_JumpSet___init__ ?se_JumpSet___init___JumpSet ?sf_JumpSet___init___JumpSet ?sg_JumpSet___init___JumpSet ?l_JumpSet_failure ?c_JumpSet_failure ?k_JumpSet_failure ?a__law_right ?l__law_right ?c__law_right ?k__law_right ?q__law_right ?u__law_right ?r__law_right ?a_law ?l_law ?c_law ?k_law ?av_JumpSet_JumpSet___init__ ?av_VectorSet_VectorSet___init__ ?sga_JumpSet ?srd_JumpSet ?sat_JumpSet_JumpSet_failure ?src_JumpSet_failure ?z_MAX_DIMENSION ?z_MAX_ENTRY ?z_MAX_GIVEN ?z_MAX_MEMBERS ?z_ValueError ?z_abs ?z_all ?z_any ?z_bool ?z_enumerate ?z_int ?z_isinstance ?z_len ?z_list ?z_range ?z_repr ?z_sorted ?z_super ?z_tuple ?z_zip ?a_InvalidMembers ?l_InvalidMembers ?p1_InvalidMembers ?p2_InvalidMembers ?p3_InvalidMembers ?p4_InvalidMembers ?p5_InvalidMembers ?p6_InvalidMembers ?p7_InvalidMembers ?iC_InvalidMembers ?il_InvalidMembers ?ic_InvalidMembers ?ik_InvalidMembers ?tI_InvalidMembers ?a_InvalidVector ?l_InvalidVector ?p1_InvalidVector ?p2_InvalidVector ?p3_InvalidVector ?p4_InvalidVector ?p5_InvalidVector ?p6_InvalidVector ?p7_InvalidVector ?a_NotJump ?l_NotJump ?p1_NotJump ?p2_NotJump ?p3_NotJump ?p4_NotJump ?p5_NotJump ?p6_NotJump ?p7_NotJump ?iC_NotJump ?il_NotJump ?ic_NotJump ?ik_NotJump ?tI_NotJump ?cn_ ?ct_ ?vV_ValueError ?no_InvalidMembers_index ?no_NotJump_step ?no_NotJump_x ?no_NotJump_y
    (case a_VectorSet => k_is); (case w1_VectorSet => k_is); (case w2_VectorSet => k_is); (case w3_VectorSet => k_is); (case w4_VectorSet => k_is); (case w5_VectorSet => k_is); (case w6_VectorSet => k_is); (case w7_VectorSet => k_is); (case w8_VectorSet => k_is); (case v0_VectorSet => k_is); (case v1_VectorSet => k_is); (case v2_VectorSet => k_is); (case v3_VectorSet => k_is); (case v4_VectorSet => k_is); (case v5_VectorSet => k_is); (case a_JumpSet => k_is); (case w1_JumpSet => k_is); (case w2_JumpSet => k_is); (case w3_JumpSet => k_is); (case w4_JumpSet => k_is); (case w5_JumpSet => k_is); (case w6_JumpSet => k_is); (case w7_JumpSet => k_is); (case w8_JumpSet => k_is); (case v0_JumpSet => k_is); (case v1_JumpSet => k_is); (case v2_JumpSet => k_is); (case v3_JumpSet => k_is); (case v4_JumpSet => k_is); (case v5_JumpSet => k_is); (case na_JumpSet_kept => k_is); (case na_JumpSet_known => k_is); (case na_VectorSet_kept => k_is); (case na_VectorSet_known => k_is); (case a__law_pen => k_is); (case l__law_pen => k_is); (case c__law_pen => k_is); (case k__law_pen => k_is); (case a__law_draw => k_is); (case l__law_draw => k_is); (case c__law_draw => k_is); (case k__law_draw => k_is); (case a__law_pick => k_is); (case l__law_pick => k_is); (case c__law_pick => k_is); (case k__law_pick => k_is); (case a__law_odd => k_is); (case l__law_odd => k_is); (case c__law_odd => k_is); (case k__law_odd => k_is); (case a__law_refused => k_is); (case l__law_refused => k_is); (case c__law_refused => k_is); (case k__law_refused => k_is); (case a_is_list => k_is); (case l_is_list => k_is); (case c_is_list => k_is); (case k_is_list => k_is); (case a_is_integer => k_is); (case l_is_integer => k_is); (case c_is_integer => k_is); (case k_is_integer => k_is); (case a_is_between => k_is); (case l_is_between => k_is); (case c_is_between => k_is); (case k_is_between => k_is); (case a_fits_vector => k_is); (case l_fits_vector => k_is); (case c_fits_vector => k_is); (case k_fits_vector => k_is); (case a_checked_members => k_is); (case l_checked_members => k_is); (case c_checked_members => k_is); (case k_checked_members => k_is); (case a_VectorSet___init__ => k_is); (case tf_VectorSet___init__ => k_is); (case l_VectorSet___init__ => k_is); (case c_VectorSet___init__ => k_is); (case k_VectorSet___init__ => k_is); (case a_steps_of => k_is); (case l_steps_of => k_is); (case c_steps_of => k_is); (case k_steps_of => k_is); (case a_after => k_is); (case l_after => k_is); (case c_after => k_is); (case k_after => k_is); (case a_is_exchanged => k_is); (case l_is_exchanged => k_is); (case c_is_exchanged => k_is); (case k_is_exchanged => k_is); (case a_first_failure => k_is); (case l_first_failure => k_is); (case c_first_failure => k_is); (case k_first_failure => k_is); (case a_JumpSet___init__ => k_is); (case tf_JumpSet___init__ => k_is); (case l_JumpSet___init__ => k_is); (case c_JumpSet___init__ => k_is); (case k_JumpSet___init__ => k_is); (case x_JumpSet___init__ => k_is); (case y_JumpSet___init__ => k_is); (case e_f_JumpSet___init__ => rfl); (case sa_JumpSet___init__ => k_is); (case sc1_JumpSet___init__ => k_is); (case sd_JumpSet___init__ => k_is); (case sf_JumpSet___init___JumpSet => k_is); (case a__law_right => k_is); (case l__law_right => k_is); (case c__law_right => k_is); (case k__law_right => k_is); (case a_law => k_is); (case l_law => k_is); (case c_law => k_is); (case k_law => k_is); (case av_JumpSet_JumpSet___init__ => k_is); (case av_VectorSet_VectorSet___init__ => k_is); (case sga_JumpSet => k_is); (case srd_JumpSet => k_is); (case sat_JumpSet_JumpSet_failure => k_is); (case src_JumpSet_failure => k_is); (case z_MAX_DIMENSION => k_is); (case z_MAX_ENTRY => k_is); (case z_MAX_GIVEN => k_is); (case z_MAX_MEMBERS => k_is); (case z_ValueError => k_is); (case z_abs => k_is); (case z_all => k_is); (case z_any => k_is); (case z_bool => k_is); (case z_enumerate => k_is); (case z_int => k_is); (case z_isinstance => k_is); (case z_len => k_is); (case z_list => k_is); (case z_range => k_is); (case z_repr => k_is); (case z_sorted => k_is); (case z_super => k_is); (case z_tuple => k_is); (case z_zip => k_is); (case a_InvalidMembers => k_is); (case l_InvalidMembers => k_is); (case p1_InvalidMembers => k_is); (case p2_InvalidMembers => k_is); (case p3_InvalidMembers => k_is); (case p4_InvalidMembers => k_is); (case p5_InvalidMembers => k_is); (case p6_InvalidMembers => k_is); (case p7_InvalidMembers => k_is); (case iC_InvalidMembers => k_is); (case il_InvalidMembers => k_is); (case ic_InvalidMembers => k_is); (case ik_InvalidMembers => k_is); (case tI_InvalidMembers => k_is); (case a_InvalidVector => k_is); (case l_InvalidVector => k_is); (case p1_InvalidVector => k_is); (case p2_InvalidVector => k_is); (case p3_InvalidVector => k_is); (case p4_InvalidVector => k_is); (case p5_InvalidVector => k_is); (case p6_InvalidVector => k_is); (case p7_InvalidVector => k_is); (case a_NotJump => k_is); (case l_NotJump => k_is); (case p1_NotJump => k_is); (case p2_NotJump => k_is); (case p3_NotJump => k_is); (case p4_NotJump => k_is); (case p5_NotJump => k_is); (case p6_NotJump => k_is); (case p7_NotJump => k_is); (case iC_NotJump => k_is); (case il_NotJump => k_is); (case ic_NotJump => k_is); (case ik_NotJump => k_is); (case tI_NotJump => k_is); (case cn_ => k_is); (case ct_ => k_is); (case vV_ValueError => k_is); (case no_InvalidMembers_index => k_is); (case no_NotJump_step => k_is); (case no_NotJump_x => k_is); (case no_NotJump_y => k_is); (case l_JumpSet_failure => k_is); (case c_JumpSet_failure => k_is); (case k_JumpSet_failure => k_is); (case q__law_right => exact hT8 _ (List.mem_singleton.mpr rfl)); (case sb_JumpSet___init__ => kernel_rfl); (case se_JumpSet___init___JumpSet => kernel_rfl); (case sg_JumpSet___init___JumpSet => ks_is); (case u__law_right => kernel_rfl); (case r__law_right => kernel_rfl)
