import PyProof.Rows.All
import Wide.All
import OpenK.AllK
import Wide.FinOn
import KE.KStateDown
import HandS.Base
import HandS.Call
import HandS.Ends
import HandS.Words
import HandS.Defaults
import HandS.HeadHook1
import HandS.HeadHook2
import HandS.HeadHook3
import HandS.HeadHook4
import PySem.Challenge.RW_dyeworks_k62_whole_chances
import Lean
import HandS.Head0
import HandS.Head1
import HandS.Head2
import KE.KNest
import HandS.List
import HandS.Comp
import HandS.Lambda
import HandS.GenOver
import HandS.GenList
import HandS.Dict
import HandS.Iter
import HandS.Small
import KE.KDictKeyed
import KE.KDictDisplayH
import KE.KDictWalk
import PyProof.SumWalkG
import PyProof.WalksMore
import HandS.DictSubView
import HandS.SetFor
import HandS.Strs
import HandS.TupMul
import HandS.Exc
import HandS.ExcOwn
import KE.GoesMore
import PyProof.EnumMake
import HandS.TryMany
import HandS.IsInst
import HandS.CallLocal
import HandS.TupAny
import HandS.Zip
import HandS.Wide
import HandS.Style
import HandS.CallRecv
import HandS.ForMost
import HandS.HeadEnd
import HandS.HeadWalk
section
set_option Elab.async false
set_option linter.all false
set_option maxRecDepth 100000
set_option maxHeartbeats 4000000
/-! The text by places: each def of the row's top, its datum. -/
namespace Dy
open PySem PySem.Spec PyProof.Rows L2
def top (i : Nat) : Stmt := PySem.Challenge.pw_dyeworks_k62_whole_chances.main.body.getD i (.Pass ⟨0, 0, 0, 0⟩)
abbrev sIsNumber : Stmt := top 12
abbrev sIsLot : Stmt := top 13
abbrev sIsRoute : Stmt := top 14
abbrev sIsKind : Stmt := top 15
abbrev sNeedWorks : Stmt := top 16
abbrev sJoined : Stmt := top 17
abbrev sBehind : Stmt := top 18
abbrev sHasWants : Stmt := top 19
abbrev sIsClean : Stmt := top 20
abbrev sDyed : Stmt := top 21
abbrev sIsPlan : Stmt := top 23
abbrev sNeedPlan : Stmt := top 24
abbrev sRoutesOf : Stmt := top 25
abbrev sClosed : Stmt := top 26
abbrev sIsFine : Stmt := top 27
abbrev sIsGood : Stmt := top 28
abbrev sNeedMany : Stmt := top 32
abbrev sNeedWeights : Stmt := top 33
abbrev sCommon : Stmt := top 34
abbrev sLowest : Stmt := top 35
abbrev sPower : Stmt := top 36
abbrev sPlanRows : Stmt := top 37
abbrev sCountRows : Stmt := top 38
abbrev sPlanChance : Stmt := top 39
abbrev sInit : Stmt := inClass (top 40) 0
abbrev sBest : Stmt := inClass (top 40) 1
abbrev sKindBest : Stmt := inClass (top 40) 2
abbrev sBestChance : Stmt := top 41
abbrev sRandomChance : Stmt := top 42
abbrev sTaken : Stmt := top 44
abbrev sAlike : Stmt := top 46
abbrev sLot : Stmt := top 47
abbrev sWorks : Stmt := top 48
abbrev sLDyed : Stmt := top 49
abbrev sLLowest : Stmt := top 50
abbrev sRows : Stmt := top 51
abbrev sAdd : Stmt := top 52
abbrev sLBest : Stmt := top 53
abbrev sWord : Stmt := top 54
abbrev sLaw : Stmt := top 55
/-- a def of the top at f -/
abbrev FnP (K : PySem.W.Frag) (x qual : Str) (st : Stmt) (f : Addr) (fd : FuncData) : Prop := FunD K x qual (defArgs st) (defBody st) (defScope st) [] [] f fd
def dd (x : Str) (st : Stmt) : He.DefD := ⟨(x, none), x, x, defArgs st, defBody st, defScope st, [], []⟩
def fn : List He.DefD := [dd "is_number" sIsNumber, dd "is_lot" sIsLot, dd "is_route" sIsRoute, dd "is_kind" sIsKind, dd "need_works" sNeedWorks, dd "joined" sJoined, dd "behind" sBehind, dd "has_wants" sHasWants,
  dd "is_clean" sIsClean, dd "dyed" sDyed, dd "is_plan" sIsPlan, dd "need_plan" sNeedPlan, dd "routes_of" sRoutesOf, dd "closed" sClosed, dd "is_fine" sIsFine, dd "is_good" sIsGood, dd "need_many" sNeedMany,
  dd "need_weights" sNeedWeights, dd "common" sCommon, dd "lowest" sLowest, dd "power" sPower, dd "plan_rows" sPlanRows, dd "count_rows" sCountRows, dd "plan_chance" sPlanChance,
  ⟨("Chances", some "__init__"), "__init__", "Chances.__init__", defArgs sInit, defBody sInit, defScope sInit, [], []⟩,
  ⟨("Chances", some "best"), "best", "Chances.best", defArgs sBest, defBody sBest, defScope sBest, [], []⟩,
  ⟨("Chances", some "kind_best"), "kind_best", "Chances.kind_best", defArgs sKindBest, defBody sKindBest, defScope sKindBest, [], []⟩,
  dd "best_chance" sBestChance, dd "random_chance" sRandomChance, dd "_law_taken" sTaken, dd "_law_alike" sAlike, dd "_law_lot" sLot, dd "_law_works" sWorks, dd "_law_dyed" sLDyed, dd "_law_lowest" sLLowest,
  dd "_law_rows" sRows, dd "_law_add" sAdd, dd "_law_best" sLBest, dd "_law_word" sWord, dd "law" sLaw]
/-- the names of the top that stand for defs -/
def defNames : List Str := ["is_number", "is_lot", "is_route", "is_kind", "need_works", "joined", "behind", "has_wants", "is_clean", "dyed", "is_plan", "need_plan", "routes_of", "closed", "is_fine", "is_good",
  "need_many", "need_weights", "common", "lowest", "power", "plan_rows", "count_rows", "plan_chance", "best_chance", "random_chance", "_law_taken", "_law_alike", "_law_lot", "_law_works", "_law_dyed", "_law_lowest"]
def defNames2 : List Str := ["_law_rows", "_law_add", "_law_best", "_law_word", "law"]
def freeNames : List Str := ["isinstance", "int", "bool", "tuple", "list", "str", "len", "all", "any", "zip", "set", "sorted", "enumerate", "range", "sum", "max", "min"]
def fa : List He.Fa := defNames.map He.Fa.glo ++ defNames2.map He.Fa.glo ++ freeNames.map He.Fa.free ++
  [.glo "BadNumber", .glo "BadPlan", .glo "BadWeights", .glo "Chances", .exc "BadNumber", .exc "BadPlan", .exc "BadWeights",
   .exm "BadNumber" "BadNumber" true, .exm "BadPlan" "BadNumber" false, .exm "BadPlan" "BadPlan" true, .exm "BadWeights" "BadNumber" false, .exm "BadWeights" "BadPlan" false, .exm "BadWeights" "BadWeights" true,
   .int "MOST_DYES" 5, .int "MOST_VATS" 5, .int "MOST_KINDS" 4, .int "MOST_ROUTES" 8, .int "MOST_LONG" 6, .int "MOST_MANY" 40, .int "MOST_WEIGHT" 9,
   .cls "Chances", .noat "Chances" "works", .noat "Chances" "weights", .noat "Chances" "known", .meth "Chances" "best", .meth "Chances" "kind_best", .mkr "Chances"]
/-- the defs whose code objects hold a table of inner code -/
def tf : List He.Defn := [("is_lot", none), ("is_route", none), ("is_kind", none), ("need_works", none), ("has_wants", none), ("is_clean", none), ("is_plan", none), ("need_weights", none), ("law", none)]
abbrev R : PySem.W.OpenRow := PySem.W.OpenLaw.row PySem.Challenge.rw_dyeworks_k62_whole_chances
abbrev hk : PySem.W.Hook := He.hookX 5 fa fn [] tf (fun _ => true)
end Dy
end
section
set_option Elab.async false
set_option linter.all false
set_option maxRecDepth 100000
set_option maxHeartbeats 0
namespace Dy
open PySem PySem.W PySem.Calls PyProof.Rows L2
def loose1 : List PySem.Str := ["__name__", "WorksError", "BadWorks", "BadPlan", "BadNumber", "BadWeights", "MOST_DYES", "MOST_VATS", "MOST_KINDS", "MOST_ROUTES", "MOST_LONG", "is_number", "is_lot", "is_route", "is_kind", "need_works", "joined", "behind", "has_wants", "is_clean", "dyed",
  "is_plan", "need_plan", "routes_of", "closed", "is_fine", "is_good"]
def loose2 : List PySem.Str := ["MOST_MANY", "MOST_WEIGHT", "need_many", "need_weights", "common", "lowest", "power", "plan_rows", "count_rows", "plan_chance", "Chances", "best_chance", "random_chance",
  "_law_taken", "_law_pick", "_law_alike", "_law_lot", "_law_works", "_law_dyed", "_law_lowest", "_law_rows", "_law_add", "_law_best", "_law_word"]
def loose : List PySem.Str := loose1 ++ loose2
def exT (K : PySem.W.Frag) : Bool := tf.dropLast.all fun p => decide ((He.cT K p).2 ≠ (He.cT K ("law", none)).2)
abbrev hk2 : PySem.W.Hook := He.hookX 5 fa fn [] tf exT
def ob (s : PySem.W.SharedT) : He.AlX := He.obsX 5 fa fn [] tf exT (HandSHeadRun.getT s)
theorem ob_eq (s : PySem.W.SharedT) : ob s = hk2.obs s.abs := He.obsX_eq (HandSHeadRun.getT_eq s)
abbrev qv : Program := view R.prog [55]
theorem run (w : World) : HandSHeadRun.RunEq R qv hk2 ob 6000 loose w := by
  intro os
  kernel_rfl
end Dy
end
section
set_option Elab.async false
set_option linter.all false
set_option maxRecDepth 100000
set_option maxHeartbeats 4000000
/-! What a def of the program may do to the abstract heap: tables of inner code grow, all else that was tracked stays. -/
namespace Dy
open PySem PySem.Spec PyProof.Rows L2
/-- the object o, at c, is a code object with its table at P -/
def CdH (c : Addr) (o : Obj) (P : Addr) : Prop := ∀ h : Heap, h.get? c = some o → PySem.W.CodeHd h c P
/-- .. of the name q -/
def CdN (c : Addr) (o : Obj) (q : Str) : Prop := ∀ h : Heap, h.get? c = some o → h.CodeRec (.ref c) q
theorem CdH.of {h : Heap} {c P : Addr} {o : Obj} (x : PySem.W.CodeHd h c P) (e : h.get? c = some o) : CdH c o P := fun h' e' => by
  obtain ⟨u, vs, file, tf, flags, tg, inF, text, tt, eu, r⟩ := x
  rw [e] at eu
  cases eu
  exact ⟨_, vs, file, tf, flags, tg, inF, text, tt, e', r⟩
theorem CdN.of {h : Heap} {c : Addr} {o : Obj} {q : Str} (x : h.CodeRec (.ref c) q) (e : h.get? c = some o) : CdN c o q := fun h' e' => by
  obtain ⟨c2, u, vs, t, ec, eu, r⟩ := x
  cases ec
  rw [e] at eu
  cases eu
  exact ⟨_, _, vs, t, rfl, e', r⟩
/-- a code object that is known whole -/
abbrev CdF (o : Obj) : HO := .frz o (.ext fun _ => True)
/-- the table at P and, k deep, those of the code objects that it tells; none of them is the one at B -/
def TabK (B : Addr) : Nat → Hp → Addr → Prop
  | 0, _, _ => True
  | k + 1, H, P => P ≠ B ∧ ∃ ps : Array Value, H P = some (.tbl ps) ∧ TriplesOk ps.toList ∧ ∀ (pos : Pos) (cv : Value), codeAmong pos ps.toList = some cv → ∃ (c : Addr) (o : Obj) (P' : Addr), cv = .ref c ∧ H c = some (CdF o) ∧ CdH c o P' ∧ TabK B k H P'
/-- the table at B: all its code objects bear the name q -/
def LamT (B : Addr) (q : Str) (H : Hp) : Prop := ∃ ps : Array Value, H B = some (.tbl ps) ∧ TriplesOk ps.toList ∧ ∀ (pos : Pos) (cv : Value), codeAmong pos ps.toList = some cv → ∃ (c : Addr) (o : Obj), cv = .ref c ∧ H c = some (CdF o) ∧ CdN c o q
theorem TabK.mono {B : Addr} {H H' : Hp} (ht : ∀ b ps, b ≠ B → H b = some (.tbl ps) → H' b = some (.tbl ps)) (hf : ∀ b o, H b = some (CdF o) → H' b = some (CdF o)) : ∀ (k : Nat) (P : Addr), TabK B k H P → TabK B k H' P
  | 0, _, _ => trivial
  | k + 1, P, x => by
    obtain ⟨nb, ps, e, tr, x⟩ := x
    refine ⟨nb, ps, ht _ _ nb e, tr, fun pos cv hc => ?_⟩
    obtain ⟨c, o, P', e1, e2, e3, e4⟩ := x pos cv hc
    exact ⟨c, o, P', e1, hf _ _ e2, e3, TabK.mono ht hf k P' e4⟩
theorem TabK.less {B : Addr} {H : Hp} : ∀ {k : Nat} {P : Addr}, TabK B (k + 1) H P → TabK B k H P
  | 0, _, _ => trivial
  | k + 1, P, x => by
    obtain ⟨nb, ps, e, tr, x⟩ := x
    refine ⟨nb, ps, e, tr, fun pos cv hc => ?_⟩
    obtain ⟨c, o, P', e1, e2, e3, e4⟩ := x pos cv hc
    exact ⟨c, o, P', e1, e2, e3, TabK.less e4⟩
/-- an empty table -/
theorem TabK.nil {B : Addr} {H : Hp} {P : Addr} (nb : P ≠ B) (e : H P = some (.tbl #[])) : ∀ k : Nat, TabK B k H P
  | 0 => trivial
  | k + 1 => ⟨nb, #[], e, True.intro, fun pos cv hc => by
    have z : codeAmong pos [] = some cv := hc
    simp [codeAmong] at z⟩
/-- the heap behind the making of a code object at c (its object o, its table at P') that the table at P tells -/
def grown (H : Hp) (P : Addr) (ps : Array Value) (c : Addr) (o : Obj) (P' : Addr) : Hp := upd (upd (upd H P (.tbl ps)) c (CdF o)) P' (.tbl #[])
section
variable {B P c P' : Addr} {H : Hp} {ps ps' : Array Value} {o : Obj}
theorem grown_at (h1 : H c = none) (h2 : H P' = none) (e : H P = some (.tbl ps)) : grown H P ps' c o P' P = some (.tbl ps') := by
  have n1 : P ≠ c := ne_of_none e h1
  have n2 : P ≠ P' := ne_of_none e h2
  unfold grown
  rw [upd_ne n2, upd_ne n1, upd_same]
theorem grown_c (ne : c ≠ P') : grown H P ps' c o P' c = some (CdF o) := by
  unfold grown
  rw [upd_ne ne, upd_same]
theorem grown_t : grown H P ps' c o P' P' = some (.tbl #[]) := by
  unfold grown
  rw [upd_same]
theorem grown_ne {b : Addr} (h0 : b ≠ P) (h1 : b ≠ c) (h2 : b ≠ P') : grown H P ps' c o P' b = H b := by
  unfold grown
  rw [upd_ne h2, upd_ne h1, upd_ne h0]
theorem grown_keep (h1 : H c = none) (h2 : H P' = none) (e : H P = some (.tbl ps)) {b : Addr} {u : HO} (eb : H b = some u) (nt : ∀ qs, u ≠ .tbl qs) : grown H P ps' c o P' b = some u := by
  rw [grown_ne (fun z => ?_) (ne_of_none eb h1) (ne_of_none eb h2)]
  · exact eb
  · subst z
    rw [e] at eb
    exact nt ps (Option.some.inj eb).symm
/-- every table that was known is known -/
theorem TabK.grow {pos : Pos} (h1 : H c = none) (h2 : H P' = none) (ne : c ≠ P') (nB : P' ≠ B) (e : H P = some (.tbl ps)) (tr : TriplesOk ps.toList) (hc : CdH c o P') :
    ∀ (k : Nat) (Q : Addr), TabK B k H Q → TabK B k (grown H P (ps ++ #[rawInt pos.line, rawInt pos.col, .ref c]) c o P') Q
  | 0, _, _ => trivial
  | k + 1, Q, x => by
    obtain ⟨nb, qs, eq, tq, x⟩ := x
    have old : ∀ (p : Pos) (cv : Value), codeAmong p qs.toList = some cv → ∃ (c0 : Addr) (o0 : Obj) (P0 : Addr), cv = .ref c0 ∧ grown H P (ps ++ #[rawInt pos.line, rawInt pos.col, .ref c]) c o P' c0 = some (CdF o0) ∧ CdH c0 o0 P0 ∧ TabK B k (grown H P (ps ++ #[rawInt pos.line, rawInt pos.col, .ref c]) c o P') P0 := fun p cv hv => by
      obtain ⟨c0, o0, P0, e1, e2, e3, e4⟩ := x p cv hv
      exact ⟨c0, o0, P0, e1, grown_keep h1 h2 e e2 (fun _ z => by cases z), e3, TabK.grow h1 h2 ne nB e tr hc k P0 e4⟩
    by_cases hQ : Q = P
    · subst hQ
      rw [e] at eq
      cases eq
      have eL : (ps ++ #[rawInt pos.line, rawInt pos.col, Value.ref c]).toList = ps.toList ++ [rawInt pos.line, rawInt pos.col, .ref c] := by simp
      refine ⟨nb, _, grown_at h1 h2 e, by rw [eL]; exact PySem.TriplesOk_snoc _ _ _ _ tr, fun p cv hv => ?_⟩
      rw [eL] at hv
      rcases LamX.among_app _ tr hv with z | z
      · exact old p cv z
      · exact ⟨c, o, P', z, grown_c ne, hc, TabK.nil nB grown_t k⟩
    · exact ⟨nb, qs, by rw [grown_ne hQ (ne_of_none eq h1) (ne_of_none eq h2)]; exact eq, tq, old⟩
end
/-- H' behind H: what is tracked stays (but at M), tuples stay, known tables are known, the table at B is as it was -/
structure Gw (B : Addr) (M : List Addr) (H H' : Hp) : Prop where
  keep : ∀ b o, b ∉ M → H b = some o → (∀ ps, o ≠ .tbl ps) → H' b = some o
  tups : ∀ b xs, H b = some (.tup xs) → H' b = some (.tup xs)
  tabs : ∀ k Q, TabK B k H Q → TabK B k H' Q
  lam : ∀ ps, H B = some (.tbl ps) → H' B = some (.tbl ps)
  dom : ∀ b, H' b = none → H b = none
section
variable {B : Addr} {M : List Addr} {H H1 H2 : Hp} {p : Addr} {o u : HO}
theorem Gw.refl (B : Addr) (M : List Addr) (H : Hp) : Gw B M H H := ⟨fun _ _ _ e _ => e, fun _ _ e => e, fun _ _ e => e, fun _ e => e, fun _ e => e⟩
theorem Gw.trans (a : Gw B M H H1) (b : Gw B M H1 H2) : Gw B M H H2 :=
  ⟨fun c o n e t => b.keep c o n (a.keep c o n e t) t, fun c xs e => b.tups c xs (a.tups c xs e), fun k Q e => b.tabs k Q (a.tabs k Q e), fun ps e => b.lam ps (a.lam ps e), fun c e => a.dom c (b.dom c e)⟩
theorem Gw.of_same (h : ∀ b o, H b = some o → H1 b = some o) : Gw B M H H1 where
  keep := fun b o _ e _ => h b o e
  tups := fun b xs e => h b _ e
  tabs := TabK.mono (fun b ps _ e => h b _ e) fun b o e => h b _ e
  lam := fun ps e => h B _ e
  dom := fun b e => by
    cases q : H b with
    | none => rfl
    | some v =>
      rw [h b v q] at e
      cases e
theorem Gw.new (h : H p = none) : Gw B M H (upd H p o) := .of_same fun b u e => by
  rw [upd_ne (ne_of_none e h)]
  exact e
/-- what is no table, no known code object, no tuple -/
structure Loose (u : HO) : Prop where
  tbl : ∀ ps, u ≠ .tbl ps
  cdf : ∀ o, u ≠ CdF o
  tup : ∀ xs, u ≠ .tup xs
theorem Loose.lst {xs : List V} : Loose (.lst xs) := ⟨fun _ z => (nomatch z), fun _ z => (nomatch z), fun _ z => (nomatch z)⟩
theorem Loose.ins {C dx : Addr} {fs : List (Str × V)} : Loose (.ins C dx fs) := ⟨fun _ z => (nomatch z), fun _ z => (nomatch z), fun _ z => (nomatch z)⟩
theorem Gw.put (g : Gw B M H H1) (hp : H p = none ∨ p ∈ M) (e : H1 p = some u) (l : Loose u) : Gw B M H (upd H1 p o) := by
  have ne : ∀ {b : Addr} {v : HO}, H1 b = some v → v ≠ u → b ≠ p := fun {b v} eb nl z => by
    subst z
    rw [e] at eb
    exact nl (Option.some.inj eb).symm
  refine ⟨fun b v n ev t => ?_, fun b xs ev => ?_, fun k Q x => ?_, fun ps ev => ?_, fun b eb => ?_⟩
  · have hb : b ≠ p := fun z => by
      subst z
      rcases hp with z | z
      · rw [z] at ev
        cases ev
      · exact n z
    rw [upd_ne hb]
    exact g.keep b v n ev t
  · have q := g.tups b xs ev
    rw [upd_ne (ne q fun z => l.tup _ z.symm)]
    exact q
  · refine TabK.mono (fun b ps _ q => ?_) (fun b o q => ?_) k Q (g.tabs k Q x)
    · rw [upd_ne (ne q fun z => l.tbl _ z.symm)]
      exact q
    · rw [upd_ne (ne q fun z => l.cdf _ z.symm)]
      exact q
  · have q := g.lam ps ev
    rw [upd_ne (ne q fun z => l.tbl _ z.symm)]
    exact q
  · by_cases hb : b = p
    · subst hb
      rw [upd_same] at eb
      cases eb
    · rw [upd_ne hb] at eb
      exact g.dom b eb
theorem Gw.add (g : Gw B M H H1) (h : H1 p = none) : Gw B M H (upd H1 p o) := g.trans (.new h)
theorem Gw.weak {M' : List Addr} (g : Gw B M H H1) (h : ∀ b ∈ M, b ∈ M' ∨ H b = none) : Gw B M' H H1 :=
  ⟨fun b o n e t => g.keep b o (fun z => (h b z).elim n fun q => by rw [q] at e; cases e) e t, g.tups, g.tabs, g.lam, g.dom⟩
theorem Gw.grown {P c P' : Addr} {ps : Array Value} {oc : Obj} {pos : Pos} (h1 : H c = none) (h2 : H P' = none) (ne : c ≠ P') (nB : P' ≠ B) (nP : P ≠ B) (e : H P = some (.tbl ps)) (tr : TriplesOk ps.toList) (hc : CdH c oc P') (hB : H B ≠ none) :
    Gw B M H (grown H P (ps ++ #[rawInt pos.line, rawInt pos.col, .ref c]) c oc P') where
  keep := fun b u _ eb t => grown_keep h1 h2 e eb t
  tups := fun b xs eb => grown_keep h1 h2 e eb fun _ z => by cases z
  tabs := TabK.grow h1 h2 ne nB e tr hc
  lam := fun qs eb => by
    rw [grown_ne (fun z => nP z.symm) (ne_of_none eb h1) (ne_of_none eb h2)]
    exact eb
  dom := fun b eb => by
    by_cases hb : b = P
    · subst hb
      rw [grown_at h1 h2 e] at eb
      cases eb
    · by_cases hb2 : b = P'
      · subst hb2
        rw [grown_t] at eb
        cases eb
      · by_cases hb3 : b = c
        · subst hb3
          rw [grown_c ne] at eb
          cases eb
        · rw [grown_ne hb hb3 hb2] at eb
          exact eb
end
end Dy
end
section
set_option Elab.async false
set_option linter.all false
set_option maxRecDepth 100000
set_option maxHeartbeats 4000000
/-! A generator expression's start: its code object, its frame, its own context. -/
namespace Dy
open PySem PySem.Spec PyProof.Rows L2
section
variable {X : Cx} {pins : List (Addr × Obj)} {σ : L2.St} {H : Hp} {s : Shared}
/-- a code object was made and told by the table at P -/
theorem inv_grown {P c P' : Addr} {ps : Array Value} {pos : Pos} {o : Obj} {h' : Heap} {t' : Nat} (I : Inv X pins σ H s) (e : H P = some (.tbl ps)) (k : Heap.ExtBut P s.heap h')
    (hP : h'.get? P = some { cls := .none, data := .fields (ps ++ #[rawInt pos.line, rawInt pos.col, .ref c]) }) (sc : s.heap.objs.size ≤ c) (sP : s.heap.objs.size ≤ P') (ne : c ≠ P') (hc : h'.get? c = some o) (hP' : h'.get? P' = some { cls := .none, data := .fields #[] }) :
    Inv X pins σ (grown H P (ps ++ #[rawInt pos.line, rawInt pos.col, .ref c]) c o P') { s with heap := h', toks := t' } := by
  have h1 : H c = none := I.hok.fresh sc
  have h2 : H P' = none := I.hok.fresh sP
  have nP : ∀ {b : Addr}, H b = none → b ≠ P := fun {b} n z => by
    rw [z, e] at n
    cases n
  have lt : ∀ {b : Addr} {u : Obj} {q : Addr}, s.heap.get? b = some u → s.heap.objs.size ≤ q → b ≠ q := fun {b u q} eb hq => Nat.ne_of_lt (Nat.lt_of_lt_of_le (Heap.lt_size eb) hq)
  refine I.step (g' := s.gens) (d' := s.drawn) (ch := []) (fun b z => nomatch z) (fun b u _ _ _ eb n => k b u (nP n) eb) (fun b u _ _ _ eb n => ⟨u.slots, k b u (nP n) eb⟩) (fun b u _ eb n => ?_) (fun b u _ eb => ?_)
    (fun b xs eb => ?_) (fun b u v eb => ?_) (fun b qs eb => ?_) (fun m hm => ?_) (fun b u eb => ?_) I.bare
  · rw [grown_ne (nP n) (lt eb sc) (lt eb sP)]
    exact n
  · by_cases hb : b = P
    · subst hb
      exact ⟨_, hP⟩
    · exact ⟨u, k b u hb eb⟩
  · exact grown_keep h1 h2 e eb fun _ z => by cases z
  · exact grown_keep h1 h2 e eb fun _ z => by cases z
  · by_cases hb : b = P
    · subst hb
      rw [e] at eb
      cases eb
      exact ⟨_, grown_at h1 h2 e⟩
    · exact ⟨#[], by rw [grown_ne hb (ne_of_none eb h1) (ne_of_none eb h2), eb]; simp⟩
  · obtain ⟨ob, es, ep, eo, r⟩ := hm
    exact ⟨ob, es, ep, k _ ob (nP I.free) eo, r⟩
  · by_cases hb2 : b = P'
    · subst hb2
      rw [grown_t] at eb
      cases eb
      exact hP'
    · by_cases hb1 : b = c
      · subst hb1
        rw [grown_c ne] at eb
        cases eb
        exact ⟨hc, trivial, ⟨o, hc⟩, fun _ _ _ _ => trivial⟩
      · by_cases hb : b = P
        · subst hb
          rw [grown_at h1 h2 e] at eb
          cases eb
          exact hP
        · rw [grown_ne hb hb1 hb2] at eb
          have nt : ∀ {d : Addr} {v : HO}, H d = some v → (∀ qs, v ≠ .tbl qs) → d ≠ P := fun {d v} ed n z => by
            subst z
            rw [e] at ed
            exact n ps (Option.some.inj ed).symm
          refine (I.hok b u eb).stay (fun d v hd q => k d v ?_ q) (fun d q => grown_keep h1 h2 e q fun _ z => by cases z) fun d xs q => grown_keep h1 h2 e q fun _ z => by cases z
          rcases hd with z | z
          · rw [z]
            exact hb
          · exact nt z fun _ y => by cases y
end
/-- the frame that a generator expression's code runs in -/
def gEnv (X : Cx) (scope : Scope) (C : Addr) (code : Value) : Env :=
  { scope, locals := C, globals := X.env.globals, cells := cellsFrom (C + 1) scope.names (cloFrom X.env.cells scope.names []), qual := X.env.qual ++ "<genexpr>.", func := none, code, frame := some C, builtins := builtinsNs }
/-- its context: begun at s and H; fp: the walked iterator's objects; pn: the generator's own object -/
abbrev gcx (X : Cx) (s : Shared) (H : Hp) (scope : Scope) (code : Value) (fp : List Addr) (pn : List (Addr × Obj)) : Cx :=
  { X with A := X.A.in1.in1.deeper (gEnv X scope s.heap.objs.size code), s_0 := s, H_0 := H, env := gEnv X scope s.heap.objs.size code, outer := X.stack, stack := gEnv X scope s.heap.objs.size code :: X.stack, ex := fp,
           fn := fun x => scope.names.lookup x == some .cell, pn := pn, xe := fun _ _ => False }
section
variable {X : Cx} {pins : List (Addr × Obj)} {σ : L2.St} {H : Hp} {s : Shared}
theorem gen_start {scope : Scope} {own : List (Str × Nat)} {fp : List Addr} {code : Value} {h1 h2 : Heap} {gobj : Obj} {G : Array GenState} {tk : Nat} {m : Str → Option Value} (I : Inv X pins σ H s) (ok : BlkOk X.N X.env.scope scope own) (hN : X.N.Nodup)
    (hfp : ∀ b ∈ fp, FpOk X pins H b ∧ b < s.heap.objs.size) (e1 : h1 = pushCells (s.heap.push { cls := .type "frame", data := .dict #[] }) scope.names) (hm : h2.Ns s.heap.objs.size m) (sb : Heap.SameBut s.heap.objs.size h1 h2)
    (gd : ∃ vs : Array Value, gobj.data = .fields vs) (hG : AllBare G) :
    Inv (gcx X s H scope code fp [(h2.objs.size, gobj)]) [] (wipe σ (own.map (·.2))) H { s with heap := h2.push gobj, gens := G, toks := tk } := by
  have fr : ∀ y ∈ scope.names, y.2 = .free → ∃ c, X.env.cells.lookup y.1 = some c := fun y hy e => by
    rcases ok.free y hy e with z | z
    · exact I.ok.has _ (.inl z)
    · exact I.ok.has _ (.inr z)
  have kp1 : ∀ b o, s.heap.get? b = some o → h1.get? b = some o := fun b o e => by
    rw [e1]
    exact pushCells_keeps _ _ _ _ (Heap.get?_push_of_some _ e)
  have kp : ∀ b o, s.heap.get? b = some o → (h2.push gobj).get? b = some o := fun b o e => Heap.get?_push_of_some _ ((sb.2 b (Nat.ne_of_lt (Heap.lt_size e))).trans (kp1 b o e))
  have ksz : (s.heap.push { cls := .type "frame", data := .dict #[] }).objs.size = s.heap.objs.size + 1 := Heap.size_push ..
  have cl : ∀ {y c}, (cellsFrom (s.heap.objs.size + 1) scope.names (cloFrom X.env.cells scope.names [])).lookup y = some c → (y, c) ∈ cellsFrom (s.heap.push { cls := .type "frame", data := .dict #[] }).objs.size scope.names (cloFrom X.env.cells scope.names []) := fun {y c} e => by
    rw [ksz]
    exact PySem.mem_of_lookup e
  have cm : ∀ {y c}, (y, c) ∈ cloFrom X.env.cells scope.names [] → X.env.cells.lookup y = some c ∧ c < s.heap.objs.size := fun {y c} q => by
    rcases cloFrom_mem q with z | ⟨z, rfl⟩
    · cases z
    · obtain ⟨c, hc⟩ := fr _ z rfl
      obtain ⟨v, hv⟩ := I.cell _ _ hc
      rw [hc]
      exact ⟨rfl, hv.lt⟩
  -- a cell is a captured one, or new and void
  have mem : ∀ {y c}, (cellsFrom (s.heap.objs.size + 1) scope.names (cloFrom X.env.cells scope.names [])).lookup y = some c →
      (X.env.cells.lookup y = some c ∧ c < s.heap.objs.size) ∨ (s.heap.objs.size + 1 ≤ c ∧ (h2.push gobj).IsCell c none) := fun {y c} e => by
    rcases cells_mem (cl e) with z | ⟨_, z2, z3⟩
    · exact .inl (cm z)
    · rw [ksz] at z2
      refine .inr ⟨z2, ?_⟩
      rw [← e1] at z3
      obtain ⟨o, eo, d⟩ := z3
      exact ⟨o, Heap.get?_push_of_some _ ((sb.2 c (Nat.ne_of_gt z2)).trans eo), d⟩
  have look : ∀ {y}, scope.names.lookup y = some .free → ∃ c, (cellsFrom (s.heap.objs.size + 1) scope.names (cloFrom X.env.cells scope.names [])).lookup y = some c ∧ X.env.cells.lookup y = some c := fun {y} hl => by
    have hy : (y, NameKind.free) ∈ scope.names := PySem.mem_of_lookup hl
    obtain ⟨c, e⟩ := mem_lookup (cells_acc (names := scope.names) (n := s.heap.objs.size + 1) (cloFrom_has (cells := X.env.cells) (acc := []) hy))
    refine ⟨c, e, ?_⟩
    rcases cells_mem (cl e) with z | ⟨z, _, _⟩
    · exact (cm z).1
    · have q := ok.uniq _ z
      rw [hl] at q
      cases q
  have okG : (gcx X s H scope code fp [(h2.objs.size, gobj)]).Ok := by
    refine ⟨I.ok.mod, ok.kind, I.ok.glob, rfl, Nat.le_refl _, fun y z c q1 q2 => ?_, fun y hy => ?_, fun y c z e => ?_, I.ok.hd, Around.frames_deeper I.ok.frames, .inr ⟨rfl, rfl⟩, fun b hb => ⟨?_, fun y c e z => ?_⟩, I.bs,
      Nat.le_trans I.ok.bsz I.sz, fun b o e hb => ?_, fun b hb z => ?_, I.stack, I.stkFree⟩
    · refine cells_inj (fun p hp => ?_) (fun y z c a b => I.ok.inj y z c (cm a).1 (cm b).1) (cl q1) (cl q2)
      rw [ksz]
      exact Nat.lt_succ_of_lt (cm (y := p.1) (c := p.2) hp).2
    · rcases hy with hy | hy
      · obtain ⟨c, q⟩ := cells_has (n := s.heap.objs.size + 1) (acc := cloFrom X.env.cells scope.names []) (PySem.mem_of_lookup (show scope.names.lookup y = some .cell from hy))
        exact mem_lookup q
      · obtain ⟨c, q, _⟩ := look hy
        exact ⟨c, q⟩
    · have z : (scope.names.lookup y == some NameKind.cell) = true := z
      have z : scope.names.lookup y = some .cell := by simpa using z
      rcases cells_mem (cl e) with q | ⟨_, q, _⟩
      · rcases cloFrom_mem q with q | ⟨q, _⟩
        · cases q
        · have r := ok.uniq _ q
          rw [z] at r
          cases r
      · rw [ksz] at q
        exact Nat.le_of_succ_le q
    · exact Nat.ne_of_lt (hfp b hb).2
    · rcases mem e with ⟨q, _⟩ | ⟨q, _⟩
      · exact (hfp b hb).1.2.2.2.2.1 y c q z
      · have q2 : s.heap.objs.size + 1 ≤ b := by rw [← z]; exact q
        exact absurd (Nat.lt_of_lt_of_le (hfp b hb).2 (Nat.le_of_succ_le q2)) (Nat.lt_irrefl _)
    · rcases (hfp b hb).1.2.2.2.1 with z | z
      · exact I.ok.noex b o e z
      · exact absurd (Nat.lt_of_lt_of_le (Heap.lt_size e) (Nat.le_trans I.ok.bsz z)) (Nat.lt_irrefl _)
    · rcases List.mem_cons.mp (I.stkSub b z) with q | q
      · exact (hfp b hb).1.2.1 q
      · exact (hfp b hb).1.2.2.1 q
  have szA : s.heap.objs.size < h2.objs.size := hm.lt
  refine ⟨okG, rfl, hG, Un.kept kp, ⟨m, ?_, fun i y v q1 q2 q3 => ?_⟩, fun y c e => ?_, I.hok.fresh (Nat.le_refl _), fun y c e => ?_, fun p hp => ?_, I.hok.kept kp, by rw [wipe_length]; exact I.len⟩
  · exact hm.keeps fun b o e => Heap.get?_push_of_some _ e
  · obtain ⟨q2, nv⟩ := wipe_some q2
    have no : ∀ k, scope.names.lookup y = some k → ¬ (k = .local ∨ k = .cell) := fun k hk hh => by
      rcases ok.own _ (PySem.mem_of_lookup hk) hh with z | z
      · obtain ⟨p, hp, ey⟩ := List.mem_map.mp z
        have ix := ok.ix p hp
        have ey : p.1 = y := ey
        rw [ey] at ix
        exact nv (List.mem_map.mpr ⟨p, hp, nodup_ix hN ix q1⟩)
      · exact z (List.mem_of_getElem? q1)
    have q3 : Vis scope y := q3
    have hf : scope.names.lookup y = some .free := by
      rcases q3 with z | z | z
      · exact absurd (.inl rfl) (no _ z)
      · exact absurd (.inr rfl) (no _ z)
      · exact z
    obtain ⟨mm, hn, hl⟩ := I.loc
    have vis : Vis X.env.scope y := (ok.free _ (PySem.mem_of_lookup hf) rfl).elim (fun z => .inr (.inl z)) fun z => .inr (.inr z)
    obtain ⟨u, r, q⟩ := hl i y v q1 q2 vis
    obtain ⟨c, l1, l2⟩ := look hf
    refine ⟨u, r, .inr ⟨.inr hf, c, l1, ?_⟩⟩
    rcases q with ⟨z, _⟩ | ⟨_, c', e', z⟩
    · have z : X.env.scope.names.lookup y = some .local := z
      rcases ok.free _ (PySem.mem_of_lookup hf) rfl with z' | z' <;> rw [show X.env.scope.names.lookup y = _ from z'] at z <;> cases z
    · rw [l2] at e'
      cases e'
      exact z.keeps kp
  · rcases mem e with ⟨z, _⟩ | ⟨_, z⟩
    · obtain ⟨v, z⟩ := I.cell y c z
      exact ⟨v, z.keeps kp⟩
    · exact ⟨_, z⟩
  · rcases mem e with ⟨z, _⟩ | ⟨z, _⟩
    · exact I.freeC y c z
    · exact I.hok.fresh (Nat.le_of_succ_le z)
  · have hp : p ∈ [(h2.objs.size, gobj)] := by simpa using hp
    rw [List.mem_singleton.mp hp]
    obtain ⟨vs, gd⟩ := gd
    refine ⟨Heap.get?_push_size _ (Obj.isFreed_of_fields gd), I.hok.fresh (Nat.le_of_lt szA), Nat.ne_of_gt szA, fun z => ?_, fun v q => by rw [gd] at q; cases q⟩
    have q : h2.objs.size ∈ frs X.stack := z
    rcases List.mem_cons.mp (I.stkSub _ q) with q | q
    · have q : h2.objs.size = X.env.locals := q
      exact absurd (Nat.lt_trans I.lt szA) (by rw [q]; exact Nat.lt_irrefl _)
    · exact I.nofs (Nat.le_of_lt szA) q
end
end Dy
end
section
set_option Elab.async false
set_option linter.all false
set_option maxRecDepth 100000
set_option maxHeartbeats 4000000
/-! all(..), any(..) of a generator expression with one for and no if: whatever its element does. -/
namespace Dy
open PySem PySem.Spec PyProof.Rows L2
/-- what is to hold between the turns; stop: the truth at which the asker stops -/
def GenW (J : It) (g : TG) (te : TE) (σ : L2.St) (vs : List Nat) (stop : Bool) (Q : VK) (W : Nat → Nat → Hp → Prop) : Prop :=
  ∀ i m H, W i m H → (J.stop i H ∧ Q (.bl (!stop)) H) ∨ (J.go i H ∧ ∃ Nx : Hp → Prop, (∀ H', Nx H' → ∃ m', m' < m ∧ W (i + 1) m' H') ∧ ∀ x H', J.yld i H x H' →
    g x (wipe σ vs) H' fun σ2 H2 => wipe σ2 vs = wipe σ vs ∧ te σ2 H2 fun y H3 => ∃ b, y = .bl b ∧ (b = stop → Q (.bl stop) H3) ∧ (b ≠ stop → Nx H3))
def GYld (G : Cx) (stop : Bool) (Q : VK) : Protocol := fun _ _ v s kap =>
  ∃ b pins σ H, v = .bool b ∧ Inv G pins σ H s ∧ (b = stop → Q (.bl stop) H) ∧ (b ≠ stop → ∀ s'' : Shared, s''.heap = s.heap → s''.os = s.os → AllBare s''.gens → kap (.send .none) s'')
def GFin (G : Cx) (stop : Bool) (Q : VK) : Nat → Shared → Shared → Prop := fun _ _ s => ∃ σ H, Inv G [] σ H s ∧ Q (.bl (!stop)) H
theorem over_gen {A : Around} {elt tg iter : Expr} {scope : Scope} {pos : Pos} {it acc : Value} {env : Env} : A.over (.compLoop (.GeneratorExp elt [⟨tg, iter, [], 0⟩] scope pos) 0 it acc env) [] = A.deeper env := by
  first
    | rfl
    | (obtain ⟨hd, d, fr, gs, u⟩ := A; simp [Around.over, Around.deeper, marksOver, frameCount, unitsOf, envsOf, guardsOf, pushEnvs, pushGuards, Code.envs, Code.env?, Code.isFrame, Code.guards, Code.isGuard, Code.weight, Code.frames, Code.isCreation, Code.isCaller, Code.cUnits])
theorem over_genS {A : Around} {elt tg iter : Expr} {scope : Scope} {pos : Pos} {it acc : Value} {env : Env} : A.over (.compStart (.GeneratorExp elt [⟨tg, iter, [], 0⟩] scope pos) 0 it acc env) [] = A.deeper env := by
  first
    | rfl
    | (obtain ⟨hd, d, fr, gs, u⟩ := A; simp [Around.over, Around.deeper, marksOver, frameCount, unitsOf, envsOf, guardsOf, pushEnvs, pushGuards, Code.envs, Code.env?, Code.isFrame, Code.guards, Code.isGuard, Code.weight, Code.frames, Code.isCreation, Code.isCaller, Code.cUnits])
theorem inv_same {X : Cx} {pins : List (Addr × Obj)} {σ : L2.St} {H : Hp} {s s' : Shared} (I : Inv X pins σ H s) (h1 : s'.heap = s.heap) (h2 : s'.os = s.os) (h3 : AllBare s'.gens) : Inv X pins σ H s' := by
  obtain ⟨hp, g, d, t, o⟩ := s'
  have h1 : hp = s.heap := h1
  have h2 : o = s.os := h2
  subst h1 h2
  exact ⟨I.ok, I.os, h3, I.base, I.loc, I.cell, I.free, I.freeC, I.pin, I.hok, I.len⟩
section
variable {X : Cx} {scope : Scope} {code : Value} {fp : List Addr} {s0 : Shared} {H0 : Hp} {a it : Addr} {gobj : Obj} {tg elt iter : Expr} {pos : Pos} {J : It} {g : TG} {te : TE} {σ : L2.St} {vs : List Nat} {stop : Bool} {Q : VK} {W : Nat → Nat → Hp → Prop} {tn : Nat → Heap → Prop}
theorem gen_stat {σ' : L2.St} {H' : Hp} {s' : Shared} (hfa : ∀ b ∈ fp, b ≠ a) (I : Inv (gcx X s0 H0 scope code fp [(a, gobj)]) [] σ' H' s') (hn : ∀ b ∈ fp, H' b = none) : ∀ b ∈ fp, FpOk (gcx X s0 H0 scope code fp [(a, gobj)]) [] H' b := fun b hb =>
  ⟨hn b hb, (I.ok.exf b hb).1, I.ok.exfs b hb, .inl hb, fun x c e => (I.ok.exf b hb).2 x c e, fun p hp z => by
    have hp : p ∈ [(a, gobj)] := by simpa using hp
    rw [List.mem_singleton.mp hp] at z
    exact hfa b hb z.symm⟩
theorem seg_loop (hc : X.calm = true) (hco : scope.isCoroutine = false) (hfa : ∀ b ∈ fp, b ≠ a) (T : Turn X.prog X.w X.K tg J fp it tn) (pg : PG (gcx X s0 H0 scope code fp [(a, gobj)]) tg g) (pe : PE (gcx X s0 H0 scope code fp [(a, gobj)]) elt te) (hW : GenW J g te σ vs stop Q W) :
    ∀ (n i m : Nat) (sA s : Shared) (H : Hp), m < n → Inv (gcx X s0 H0 scope code fp [(a, gobj)]) [] (wipe σ vs) H s → tn i s.heap → (∀ b ∈ fp, H b = none) → W i m H →
      Seg (model X.prog X.w) X.A.in1.in1 (fun n sA r s' => r = .ok .next ∧ GFin (gcx X s0 H0 scope code fp [(a, gobj)]) stop Q n sA s') (GYld (gcx X s0 H0 scope code fp [(a, gobj)]) stop Q) n sA
        (.compLoop (.GeneratorExp elt [⟨tg, iter, [], 0⟩] scope pos) 0 (.ref it) .none (gEnv X scope s0.heap.objs.size code))
        ((model X.prog X.w).den (.compLoop (.GeneratorExp elt [⟨tg, iter, [], 0⟩] scope pos) 0 (.ref it) .none (gEnv X scope s0.heap.objs.size code))) [] s := by
  intro n
  induction n with
  | zero => exact fun i m sA s H hm => absurd hm (Nat.not_lt_zero _)
  | succ n ih =>
    intro i m sA s H hm I st nf w
    show Seg _ _ _ _ _ sA _ ((compTurn (.GeneratorExp elt [⟨tg, iter, [], 0⟩] scope pos) 0 (.ref it) .none (gEnv X scope s0.heap.objs.size code)).onRaise (leaving (gEnv X scope s0.heap.objs.size code))) [] s
    rw [compTurn_gen, Sem.onRaise_eq_wrap]
    refine seg_bind_wrap (wpAny_standAt ?_)
    refine seg_bind_wrap ?_
    rw [over_gen]
    rcases hW i m H w with ⟨stp, q⟩ | ⟨go, Nx, hNx, step⟩
    · refine wpAny_mono (T.done (gcx X s0 H0 scope code fp [(a, gobj)]) rfl rfl rfl hc i [] s _ H (fun _ _ => False) I (gen_stat hfa I nf) st stp) (fun r s' h => ?_) fun _ _ z => False.elim z
      obtain ⟨hr, I'⟩ := h
      subst hr
      exact seg_end (.ok .next) ⟨rfl, _, H, I', q⟩
    · refine wpAny_mono (T.item (gcx X s0 H0 scope code fp [(a, gobj)]) rfl rfl rfl hc i [] s _ H (fun _ _ => False) I (gen_stat hfa I nf) st go) (fun r s1 h => ?_) fun _ _ z => False.elim z
      obtain ⟨u, hr, h⟩ := h
      subst hr
      refine seg_bind_wrap ?_
      rw [over_gen]
      refine wpAny_mono h (fun _ s2 h => ?_) fun _ _ z => False.elim z
      obtain ⟨x, H2, I2, rx, y2, st2, n2⟩ := h
      refine seg_bind_wrap ?_
      rw [over_gen]
      refine wpAny_mono (pg.run _ s2 _ H2 x u _ (I2.pinned (gen_stat hfa I2 n2) (T.obj _ _ st2)) rx (step x H2 y2)) (fun _ s3 h => ?_) fun _ _ z => False.elim z
      obtain ⟨σ3, H3, I3, e3, q3⟩ := h
      simp only [List.forIn_nil]
      refine seg_bind_wrap (wpAny_pure ?_)
      rw [if_pos rfl]
      have hy : ∀ v, yieldOut (gEnv X scope s0.heap.objs.size code) v = yieldValue v := fun v => by
        unfold yieldOut
        rw [show (gEnv X scope s0.heap.objs.size code).scope.isCoroutine = false from hco, if_neg Bool.false_ne_true]
      simp only [hy]
      rw [Sem.bind_eq_wrap', Sem.bind_eq_wrap', Sem.wrap_wrap, Sem.wrap_wrap]
      refine seg_wrap ?_
      rw [over_gen]
      refine wpAny_mono (pe.run _ s3 σ3 H3 _ I3 q3) (fun v s4 h => ?_) fun _ _ z => False.elim z
      obtain ⟨yv, H4, I4, r4, b, ey, qs, qn⟩ := h
      subst ey
      obtain rfl : v = Value.bool b := r4
      refine seg_at (seg_yield rfl rfl rfl ⟨b, _, σ3, H4, rfl, I4, qs, fun nb s'' eh eo eg => ?_⟩)
      obtain ⟨m', lm, w'⟩ := hNx H4 (qn nb)
      have I5 := inv_same I4 eh eo eg
      have pin' : ∀ b ∈ fp, ∀ o, s2.heap.get? b = some o → s''.heap.get? b = some o ∧ H4 b = none := fun b hb o eb =>
        let z := I5.pin (b, o) (List.mem_append_right _ (List.mem_append_right _ (mem_pinsAt hb eb)))
        ⟨z.1, z.2.1⟩
      have hl : (wipe σ vs).length = σ3.length := by rw [← e3, wipe_length]
      refine seg_again rfl (ih (i + 1) m' s'' s'' H4 (Nat.lt_of_lt_of_le lm (Nat.le_of_lt_succ hm)) ((I5.unpinned (pins := [])).weak hl fun j v e => ?_) (T.keep _ _ _ st2 fun b hb o eb => (pin' b hb o eb).1) (fun b hb => ?_) w')
      · rw [← e3] at e
        exact (wipe_some e).1
      · obtain ⟨o, eb, _⟩ := T.obj _ _ st2 b hb
        exact (pin' b hb o eb).2
end
end Dy
end
section
set_option Elab.async false
set_option linter.all false
set_option maxRecDepth 100000
set_option maxHeartbeats 4000000
/-! all(..), any(..): the asker's loop, and the rule. -/
namespace Dy
open PySem PySem.Spec PyProof.Rows L2 GenW
theorem setGen_has {s : Shared} {g : Nat} {x : GenState} (h : g + 1 ≤ (s.setGen g x).gens.size) : (s.setGen g x).gens[g]? = some x := by
  rw [setGen_size] at h
  unfold Shared.setGen
  simp only [Array.getElem?_setIfInBounds_self]
  rw [if_pos (by omega)]
section
variable {X : Cx} {scope : Scope} {code : Value} {fp : List Addr} {s0 : Shared} {H0 : Hp} {a it : Addr} {gobj : Obj} {tg elt iter : Expr} {pos : Pos} {J : It} {g : TG} {te : TE} {σ : L2.St} {vs : List Nat} {stop : Bool} {Q : VK} {W : Nat → Nat → Hp → Prop} {tn : Nat → Heap → Prop}
theorem seg_start (hc : X.calm = true) (hco : scope.isCoroutine = false) (hfa : ∀ b ∈ fp, b ≠ a) (T : Turn X.prog X.w X.K tg J fp it tn) (pg : PG (gcx X s0 H0 scope code fp [(a, gobj)]) tg g) (pe : PE (gcx X s0 H0 scope code fp [(a, gobj)]) elt te) (hW : GenW J g te σ vs stop Q W)
    {n m : Nat} {sA s : Shared} {H : Hp} (hm : m < n) (I : Inv (gcx X s0 H0 scope code fp [(a, gobj)]) [] (wipe σ vs) H s) (st : tn 0 s.heap) (nf : ∀ b ∈ fp, H b = none) (w : W 0 m H) :
    Seg (model X.prog X.w) X.A.in1.in1 (fun n sA r s' => r = .ok .next ∧ GFin (gcx X s0 H0 scope code fp [(a, gobj)]) stop Q n sA s') (GYld (gcx X s0 H0 scope code fp [(a, gobj)]) stop Q) n sA
      (.compStart (.GeneratorExp elt [⟨tg, iter, [], 0⟩] scope pos) 0 (.ref it) .none (gEnv X scope s0.heap.objs.size code))
      ((model X.prog X.w).den (.compStart (.GeneratorExp elt [⟨tg, iter, [], 0⟩] scope pos) 0 (.ref it) .none (gEnv X scope s0.heap.objs.size code))) [] s := by
  have loop := seg_loop (iter := iter) (pos := pos) hc hco hfa T pg pe hW n 0 m sA s H hm I st nf w
  show Seg _ _ _ _ _ sA _ ((compStart (.GeneratorExp elt [⟨tg, iter, [], 0⟩] scope pos) 0 (.ref it) .none (gEnv X scope s0.heap.objs.size code)).onRaise (leaving (gEnv X scope s0.heap.objs.size code))) [] s
  unfold compStart
  rw [Sem.onRaise_eq_wrap]
  show Seg _ _ _ _ _ sA _ ((ask >>= _).wrap _ _ _ _) [] s
  refine seg_bind_wrap (wpAny_askSetting ?_)
  split
  · exact seg_again rfl loop
  · refine seg_bind_wrap (wpAny_rule ?_)
    show Seg _ _ _ _ _ sA _ ((standAt iter.pos >>= _).wrap _ _ _ _) [] s
    exact seg_bind_wrap (wpAny_standAt (seg_bind_wrap (T.self _ 0 s _ _ st (seg_again rfl loop))))
/-- what is wanted of the asker's end -/
def AskEnd (G : Cx) (Q : VK) (r : Result) (s' : Shared) : Prop := ∃ b pins σ H, r = .ok (.ret (.bool b)) ∧ Inv G pins σ H s' ∧ Q (.bl b) H
theorem inv_gen {G : Cx} {pins : List (Addr × Obj)} {σ : L2.St} {H : Hp} {s : Shared} {gi : Nat} {x : GenState} {h' : Heap} (I : Inv G pins σ H s) (hx : x.bare = true) (k : ∀ b o, s.heap.get? b = some o → h'.get? b = some o) : Inv G pins σ H { s.setGen gi x with heap := h' } := by
  have J : Inv G pins σ H { s with heap := h', toks := s.toks } := I.kept k
  exact inv_same J rfl rfl (allBare_setGen I.bare hx)
theorem ask_loop {id : String} {f : Builtin} (hid : (id = "all.loop" ∧ stop = false) ∨ (id = "any.loop" ∧ stop = true)) {gi : Nat} (hh : X.A.handled = none) (hroom : X.A.in1.depth < recursionLimit) (hgo : ∀ h : Heap, h.get? a = some gobj → h.IsGen a gi) :
    ∀ (n : Nat) (s : Shared) (gs : GenState) (pins : List (Addr × Obj)) (σ' : L2.St) (H : Hp), Inv (gcx X s0 H0 scope code fp [(a, gobj)]) pins σ' H s → s.gens[gi]? = some gs →
      gs.Goes (model X.prog X.w) X.A.in1.in1 (fun n sA r s' => r = .ok .next ∧ GFin (gcx X s0 H0 scope code fp [(a, gobj)]) stop Q n sA s') (GYld (gcx X s0 H0 scope code fp [(a, gobj)]) stop Q) n (.send .none) (s.setGen gi .running) →
      codeAny (model X.prog X.w) X.A (.builtin id ⟨[.ref a], []⟩) (AskEnd (gcx X s0 H0 scope code fp [(a, gobj)]) Q) s := by
  have atA : ∀ {pins : List (Addr × Obj)} {σ' : L2.St} {H : Hp} {s : Shared}, Inv (gcx X s0 H0 scope code fp [(a, gobj)]) pins σ' H s → s.heap.get? a = some gobj := fun {pins σ' H s} I =>
    (I.pin (a, gobj) (List.mem_append_left _ (List.mem_singleton.mpr rfl))).1
  intro n
  induction n with
  | zero =>
    intro s gs pins σ' H I hgs go
    have lt : gi + 1 ≤ s.gens.size := (Array.getElem?_eq_some_iff.mp hgs).1
    have nx : ∀ (Q' : Option Value → Shared → Prop) (E : Value → Shared → Prop), (∀ s', AskEnd (gcx X s0 H0 scope code fp [(a, gobj)]) Q (.ok (.ret (.bool (!stop)))) s' → Q' none s') → (∀ s', AskEnd (gcx X s0 H0 scope code fp [(a, gobj)]) Q (.ok (.ret (.bool stop))) s' → Q' (some (.bool stop)) s') →
        wpAny (model X.prog X.w) X.A.in1 (pyNext (.ref a)) Q' E s := fun Q' E h1 h2 => by
      refine wpAny_pyNext_genexpQ (P := GFin (gcx X s0 H0 scope code fp [(a, gobj)]) stop Q) hh I.nolimit hroom (hgo _ (atA I)) hgs go (fun v s₁ gs' hb hy => ?_) (fun s₁ hp h' hk => ?_)
      · obtain ⟨b, pins', σ2, H2, ev, I2, q1, q2⟩ := hy
        subst ev
        have eb : b = stop := by
          by_cases z : b = stop
          · exact z
          · exact (q2 z s₁ rfl rfl I2.bare).elim
        subst eb
        exact h2 _ ⟨b, pins', σ2, H2, rfl, inv_gen I2 hb (fun _ _ e => e), q1 rfl⟩
      · obtain ⟨σ2, H2, I2, q⟩ := hp
        exact h1 _ ⟨!stop, _, σ2, H2, rfl, inv_gen I2 rfl hk, q⟩
    rcases hid with ⟨rfl, rfl⟩ | ⟨rfl, rfl⟩
    · refine codeAny_builtin F.entry_all_loop ?_
      rw [Around.under_plainId F.plain_all_loop _]
      show wpAny _ X.A.in1 (pyNext (.ref a) >>= _) _ _ s
      refine wpAny_bind (nx _ _ (fun s' h => wpAny_bind (wpAny_rule (wpAny_pure h))) fun s' h => ?_)
      refine wpAny_bind (wpAny_holding (wpAny_truthy_bool (wpAny_bind (wpAny_letGo ?_))))
      rw [if_neg Bool.false_ne_true]
      exact wpAny_bind (wpAny_rule (wpAny_pure h))
    · refine codeAny_builtin F.entry_any_loop ?_
      rw [Around.under_plainId F.plain_any_loop _]
      show wpAny _ X.A.in1 (pyNext (.ref a) >>= _) _ _ s
      refine wpAny_bind (nx _ _ (fun s' h => wpAny_bind (wpAny_rule (wpAny_pure h))) fun s' h => ?_)
      refine wpAny_bind (wpAny_holding (wpAny_truthy_bool (wpAny_bind (wpAny_letGo ?_))))
      rw [if_pos rfl]
      exact wpAny_bind (wpAny_rule (wpAny_pure h))
  | succ n ih =>
    intro s gs pins σ' H I hgs go
    have lt : gi + 1 ≤ s.gens.size := (Array.getElem?_eq_some_iff.mp hgs).1
    have nx : ∀ (Q' : Option Value → Shared → Prop) (E : Value → Shared → Prop), (∀ s', AskEnd (gcx X s0 H0 scope code fp [(a, gobj)]) Q (.ok (.ret (.bool (!stop)))) s' → Q' none s') → (∀ s', AskEnd (gcx X s0 H0 scope code fp [(a, gobj)]) Q (.ok (.ret (.bool stop))) s' → Q' (some (.bool stop)) s') →
        (∀ s', codeAny (model X.prog X.w) X.A (.builtin id ⟨[.ref a], []⟩) (AskEnd (gcx X s0 H0 scope code fp [(a, gobj)]) Q) s' → Q' (some (.bool (!stop))) s') →
        wpAny (model X.prog X.w) X.A.in1 (pyNext (.ref a)) Q' E s := fun Q' E h1 h2 h3 => by
      refine wpAny_gsz lt (wpAny_pyNext_genexpQ (P := GFin (gcx X s0 H0 scope code fp [(a, gobj)]) stop Q) hh I.nolimit hroom (hgo _ (atA I)) hgs go (fun v s₁ gs' hb hy => ?_) (fun s₁ hp h' hk _ => ?_))
      · obtain ⟨b, pins', σ2, H2, ev, I2, q1, q2⟩ := hy
        subst ev
        intro sz
        by_cases z : b = stop
        · subst z
          exact h2 _ ⟨b, pins', σ2, H2, rfl, inv_gen I2 hb (fun _ _ e => e), q1 rfl⟩
        · have eb : b = !stop := by
            cases b <;> cases stop <;> simp_all
          have J : Inv (gcx X s0 H0 scope code fp [(a, gobj)]) pins' σ2 H2 (s₁.setGen gi gs') := inv_gen I2 hb fun _ _ e => e
          rw [eb]
          exact h3 _ (ih (s₁.setGen gi gs') gs' pins' σ2 H2 J (setGen_has sz) (q2 z _ rfl rfl (allBare_setGen J.bare rfl)))
      · obtain ⟨σ2, H2, I2, q⟩ := hp
        exact h1 _ ⟨!stop, _, σ2, H2, rfl, inv_gen I2 rfl hk, q⟩
    rcases hid with ⟨rfl, rfl⟩ | ⟨rfl, rfl⟩
    · refine codeAny_builtin F.entry_all_loop ?_
      rw [Around.under_plainId F.plain_all_loop _]
      show wpAny _ X.A.in1 (pyNext (.ref a) >>= _) _ _ s
      refine wpAny_bind (nx _ _ (fun s' h => wpAny_bind (wpAny_rule (wpAny_pure h))) (fun s' h => ?_) fun s' h => ?_)
      · refine wpAny_bind (wpAny_holding (wpAny_truthy_bool (wpAny_bind (wpAny_letGo ?_))))
        rw [if_neg Bool.false_ne_true]
        exact wpAny_bind (wpAny_rule (wpAny_pure h))
      · refine wpAny_bind (wpAny_holding (wpAny_truthy_bool (wpAny_bind (wpAny_letGo ?_))))
        exact wpAny_pure ⟨plainId_quiet F.plain_all_loop _, h⟩
    · refine codeAny_builtin F.entry_any_loop ?_
      rw [Around.under_plainId F.plain_any_loop _]
      show wpAny _ X.A.in1 (pyNext (.ref a) >>= _) _ _ s
      refine wpAny_bind (nx _ _ (fun s' h => wpAny_bind (wpAny_rule (wpAny_pure h))) (fun s' h => ?_) fun s' h => ?_)
      · refine wpAny_bind (wpAny_holding (wpAny_truthy_bool (wpAny_bind (wpAny_letGo ?_))))
        rw [if_pos rfl]
        exact wpAny_bind (wpAny_rule (wpAny_pure h))
      · refine wpAny_bind (wpAny_holding (wpAny_truthy_bool (wpAny_bind (wpAny_letGo ?_))))
        exact wpAny_pure ⟨plainId_quiet F.plain_any_loop _, h⟩
end
end Dy
end
section
set_option Elab.async false
set_option linter.all false
set_option maxRecDepth 100000
set_option maxHeartbeats 4000000
/-! all(..), any(..): the rule. -/
namespace Dy
open PySem PySem.Spec PyProof.Rows L2 GenW
/-- where the module's built-ins stand -/
def BmOk (base : Heap) (mg : Str → Option Value) : Prop := ∃ bm ob, mg "__builtins__" = some (.ref bm) ∧ bm ≠ builtinsNs ∧ base.get? bm = some ob ∧ ob.cls = .type "module" ∧ ob.dict = some builtinsNs ∧ ob.data = .plain
/-- the code object at c, its table at P: of the base, or known -/
def CodeAt (base : Heap) (H : Hp) (c P : Addr) : Prop := PySem.W.CodeHd base c P ∨ ∃ o, H c = some (CdF o) ∧ CdH c o P
theorem CodeAt.mono {base : Heap} {H H' : Hp} {c P : Addr} {B : Addr} {M : List Addr} (x : CodeAt base H c P) (g : Gw B M H H') (hM : M = []) : CodeAt base H' c P := by
  rcases x with x | ⟨o, e, x⟩
  · exact .inl x
  · exact .inr ⟨o, g.keep c _ (by rw [hM]; simp) e (fun _ z => by cases z), x⟩
/-- the built-in that asks: id, at which truth it stops -/
inductive Asks : String → Bool → Prop
  | all : Asks "all" false
  | any : Asks "any" true
/-- all(elt for tg in iter), any(..): te is told the code object of the generator's frame and its table -/
def tGen (base : Heap) (B c P : Addr) (k : Nat) (stop : Bool) (wi : TI) (g : TG) (te : Addr → Addr → TE) (vs : List Nat) : TE := fun σ H Q => wi σ H fun J H1 =>
  CodeAt base H1 c P ∧ TabK B (k + 1) H1 P ∧ H1 B ≠ none ∧ ∀ (H2 : Hp) (c' P' : Addr), Gw B [] H1 H2 → CodeAt base H2 c' P' → TabK B k H2 P' → ∃ W : Nat → Nat → Hp → Prop, (∃ m, W 0 m H2) ∧ GenW J g (te c' P') σ vs stop Q W
theorem room_gen {k : Nat} {A : Around} {env : Env} (r : Room (k + 3) A) : Room k (A.in1.in1.deeper env) := (Room.in1 (k := k + 1) (Room.in1 (k := k + 2) r)).deeper env
theorem bare_fresh (c : Code) : (GenState.fresh c).bare = true := rfl
section
variable {X : Cx} {nm : Str} {id : String} {p gpos pos : Pos} {elt tg iter : Expr} {scope : Scope} {own : List (Str × Nat)} {wi : TI} {g : TG} {te : Addr → Addr → TE} {stop : Bool} {B c P : Addr} {k j : Nat}
theorem pe_gen (ha : Asks id stop) (hr : Room (j + 3) X.A) (hc : X.calm = true) (hN : X.N.Nodup) (hg : Gl X nm) (hm : X.mg nm = none) (hb : bootBuiltins nm = some (.builtin id)) (hbm : BmOk X.base X.mg) (hcode : X.env.code = .ref c)
    (hi : PI X tg iter wi) (ok : BlkOk X.N X.env.scope scope own) (hco : scope.isCoroutine = false) (hdot : scope.names.lookup (".0" : Str) = some NameKind.local)
    (pg : ∀ (s : Shared) (H : Hp) (fp : List Addr) (pn : List (Addr × Obj)) (c' : Addr), PG (gcx X s H scope (.ref c') fp pn) tg g)
    (pe : ∀ (s : Shared) (H : Hp) (fp : List Addr) (pn : List (Addr × Obj)) (c' P' : Addr), Room j (gcx X s H scope (.ref c') fp pn).A → PE (gcx X s H scope (.ref c') fp pn) elt (te c' P'))
    (hn : nm ≠ "__name__" := by decide) (hdb : (nm == ("__debug__" : Str)) = false := by decide) (hs : ∀ x, genFold iter X.env x = pure x := by intro _; rfl)
    (he : starEach [.GeneratorExp elt [⟨tg, iter, [], 0⟩] scope gpos] X.env = (false, eval (.GeneratorExp elt [⟨tg, iter, [], 0⟩] scope gpos) X.env) :: starEach [] X.env := by rfl) :
    PE X (.Call (.Name nm p) [.GeneratorExp elt [⟨tg, iter, [], 0⟩] scope gpos] [] pos) (tGen X.base B c P k stop wi g te (own.map (·.2))) := by
  refine ⟨fun pins s σ H Q I h => ?_⟩
  have hfree : ∀ y ∈ scope.names, y.2 = .free → ∃ c, X.env.cells.lookup y.1 = some c := fun y hy e => by
    rcases ok.free y hy e with z | z
    · exact I.ok.has _ (.inl z)
    · exact I.ok.has _ (.inr z)
  refine wpAny_Call_Name_kw (ld_blt I hg hm hb ?_ hn hdb)
  refine PyProof.Rows.callWith_builtin1 ?_ he (by rfl)
  rw [he]
  show wpAny _ _ (spliced ((false, eval (.GeneratorExp elt [⟨tg, iter, [], 0⟩] scope gpos) X.env) :: backTo pos (starEach [] X.env))) _ _ s
  refine Calls.spliced_cons ?_
  rw [eval_GeneratorExp1 _ _ _ _ _ _ _ hco]
  refine wpAny_bind (thn (hi.run pins s σ H _ I h) fun xv s1 h1 => ?_)
  refine wpAny_bind (wpAny_standAt (wpAny_bind (wpAny_of_eq (hs xv) ?_)))
  refine wpAny_bind (wpAny_holding (thn h1 fun itv s2 h2 => ?_))
  obtain ⟨it, fp, tn, J, H2, e, I2, T, st2, f2, hCA, hT, hB, q⟩ := h2
  subst e
  refine wpAny_bind (wpAny_enterFrame I2.nolimit hr.depth ?_)
  refine wpAny_bind (wpAny_of_eq (closure_ok hfree) ?_)
  -- behind the code object: the frame, the generator, the asking
  have cont : ∀ (c' P' : Addr) (H3 : Hp) (s3 : Shared), Inv X pins σ H3 s3 → tn 0 s3.heap → (∀ b ∈ fp, FpOk X pins H3 b) → CodeAt X.base H3 c' P' → TabK B k H3 P' → Gw B [] H2 H3 →
      wpAny (model X.prog X.w) X.A (do
        let bi ← builtinsFor X.env.globals X.env.builtins
        let cenv ← newFunctionEnv scope X.env.globals (cloFrom X.env.cells scope.names []) [(".0", .ref it)] (X.env.qual ++ "<genexpr>.") none (.ref c') none bi
        newGenerator (.compStart (.GeneratorExp elt [⟨tg, iter, [], 0⟩] scope gpos) 0 (.ref it) .none cenv) "<genexpr>" (X.env.qual ++ "<genexpr>"))
        (fun v s' => wpAny (model X.prog X.w) X.A (spliced (backTo pos (starEach [] X.env))) (fun vs s'' => wpAny (model X.prog X.w) X.A (call (.builtin id) (v :: vs)) (EP X pins σ Q) X.xe s'') X.xe s') X.xe s3 := by
    intro c' P' H3 s3 I3 st3 f3 hCA3 hT3 g3
    obtain ⟨bm, ob, b1, b2, b3, b4, b5, b6⟩ := hbm
    obtain ⟨W, ⟨m0, w0⟩, hW⟩ := q H3 c' P' g3 hCA3 hT3
    refine wpAny_bind (wpAny_builtinsFor (m := X.mg) (by rw [I3.ok.glob]; exact I3.mod.glob.keeps I3.bk) b1 b2 (I3.bk _ _ b3) b4 b5 b6 ?_)
    have sz : ∀ b ∈ fp, b < s3.heap.objs.size := fun b hb => by
      obtain ⟨o, eo, _⟩ := T.obj _ _ st3 b hb
      exact Heap.lt_size eo
    refine wpAny_bind ?_
    simp only [newFunctionEnv, Option.isSome_none, Bool.false_eq_true, if_false]
    refine wpAny_bind (wpAny_alloc ?_)
    refine wpAny_bind (wpAny_layCells _ (fun n kd cs => by cases hk : kd == NameKind.cell <;> simp [hk]) _ _ _ _ ?_)
    rw [show ({ s3 with heap := s3.heap.push { cls := .type "frame", data := .dict #[] } } : Shared).heap.objs.size = s3.heap.objs.size + 1 from Heap.size_push ..]
    rw [List.forIn_cons]
    have hn0 : (pushCells (s3.heap.push { cls := .type "frame", data := .dict #[] }) scope.names).Ns s3.heap.objs.size fun _ => none := (Heap.Ns.new s3.heap (.type "frame")).keeps (pushCells_keeps _ _)
    refine wpAny_bind (wpAny_bind (wpAny_bind (wpAny_storeName_local (m := fun _ => none) hdot hn0 (fun h2' hm2 sb => ?_) (by show (scope.kind == ScopeKind.class || (scope.kind == ScopeKind.module && _)) = false; rw [ok.kind]; rfl))))
    refine wpAny_pure ?_
    simp only [List.forIn_nil]
    refine wpAny_pure (wpAny_pure ?_)
    simp only [newGenerator, newFields]
    refine wpAny_bind (wpAny_newGen (wpAny_bind (wpAny_mkText (wpAny_bind (wpAny_mkText (wpAny_newObj_type ?_ (by size_fits)))))))
    show wpAny (model X.prog X.w) X.A (spliced (backTo pos (starEach [] X.env))) _ _ ({ s3 with heap := h2'.push (Obj.mk (.type "generator") none (.fields #[.int s3.gens.size 0, .str "<genexpr>" (s3.toks + 1), .str (X.env.qual ++ "<genexpr>") (s3.toks + 1 + 1)]) #[]), gens := s3.gens.push (.fresh (.compStart (.GeneratorExp elt [⟨tg, iter, [], 0⟩] scope gpos) 0 (.ref it) .none (gEnv X scope s3.heap.objs.size (.ref c')))), toks := s3.toks + 1 + 1 + 1 } : Shared)
    refine Calls.spliced_nil ?_
    show wpAny (model X.prog X.w) X.A (call (.builtin id) [.ref h2'.objs.size]) (EP X pins σ Q) X.xe _
    generalize hgo : Obj.mk (.type "generator") none (.fields #[.int s3.gens.size 0, .str "<genexpr>" (s3.toks + 1), .str (X.env.qual ++ "<genexpr>") (s3.toks + 1 + 1)]) #[] = gobj
    generalize hcd : Code.compStart (.GeneratorExp elt [⟨tg, iter, [], 0⟩] scope gpos) 0 (.ref it) .none (gEnv X scope s3.heap.objs.size (.ref c')) = cd
    have gd : ∃ vs : Array Value, gobj.data = .fields vs := ⟨_, by rw [← hgo]⟩
    have I5 : Inv (gcx X s3 H3 scope (.ref c') fp [(h2'.objs.size, gobj)]) [] (wipe σ (own.map (·.2))) H3 { s3 with heap := h2'.push gobj, gens := s3.gens.push (.fresh cd), toks := s3.toks + 1 + 1 + 1 } :=
      gen_start (tk := s3.toks + 1 + 1 + 1) I3 ok hN (fun b hb => ⟨f3 b hb, sz b hb⟩) rfl hm2 sb gd (I3.bare.push (bare_fresh cd))
    have isg : ∀ h : Heap, h.get? h2'.objs.size = some gobj → h.IsGen h2'.objs.size s3.gens.size := fun h e => ⟨gobj, .str "<genexpr>" (s3.toks + 1), .str (X.env.qual ++ "<genexpr>") (s3.toks + 1 + 1), e, by rw [← hgo], by rw [← hgo], by rw [← hgo]⟩
    have szA : s3.heap.objs.size < h2'.objs.size := hm2.lt
    have hfa : ∀ b ∈ fp, b ≠ h2'.objs.size := fun b hb => Nat.ne_of_lt (Nat.lt_trans (sz b hb) szA)
    have kp : ∀ b o, s3.heap.get? b = some o → (h2'.push gobj).get? b = some o := fun b o eo => Heap.get?_push_of_some _ ((sb.2 b (Nat.ne_of_lt (Heap.lt_size eo))).trans (pushCells_keeps _ _ _ _ (Heap.get?_push_of_some _ eo)))
    have st5 : tn 0 (h2'.push gobj) := T.keep _ _ _ st3 fun b _ o eo => kp b o eo
    have hgs : (s3.gens.push (.fresh cd))[s3.gens.size]? = some (.fresh cd) := Array.getElem?_push_size ..
    have I6 := inv_gen (gi := s3.gens.size) (x := .running) I5 rfl fun _ _ eo => eo
    have go : GenState.Goes (model X.prog X.w) X.A.in1.in1 (fun n sA r s' => r = .ok .next ∧ GFin (gcx X s3 H3 scope (.ref c') fp [(h2'.objs.size, gobj)]) stop Q n sA s') (GYld (gcx X s3 H3 scope (.ref c') fp [(h2'.objs.size, gobj)]) stop Q) (m0 + 1) (.fresh cd) (.send .none)
        (Shared.setGen { s3 with heap := h2'.push gobj, gens := s3.gens.push (.fresh cd), toks := s3.toks + 1 + 1 + 1 } s3.gens.size .running) := by
      subst hcd
      exact ⟨rfl, seg_start hc hco hfa T (pg s3 H3 fp _ c') (pe s3 H3 fp _ c' P' (room_gen hr)) hW (Nat.lt_succ_self m0) I6 st5 (fun b hb => (f3 b hb).1) w0⟩
    have fin : ∀ s', AskEnd (gcx X s3 H3 scope (.ref c') fp [(h2'.objs.size, gobj)]) Q (.ok (.ret (.bool true))) s' ∨ AskEnd (gcx X s3 H3 scope (.ref c') fp [(h2'.objs.size, gobj)]) Q (.ok (.ret (.bool false))) s' → True := fun _ _ => trivial
    have back : ∀ (r : Result) (s' : Shared), AskEnd (gcx X s3 H3 scope (.ref c') fp [(h2'.objs.size, gobj)]) Q r s' → (match r with | .ok (.ret v) => EP X pins σ Q v s' | .ok _ => False | .error e => X.xe e s') := fun r s' hq => by
      obtain ⟨b, pins', σ', H', er, I', q'⟩ := hq
      subst er
      exact ⟨.bl b, H', I3.call' (ch := fp) I'.os I'.base I'.hok I'.bare (fun y hy => ⟨(f3 y hy).2.2.2.1, (f3 y hy).2.1, (f3 y hy).2.2.2.2.1, (f3 y hy).2.2.2.2.2⟩), rfl, q'⟩
    have rd : X.A.in1.depth < recursionLimit := hr.depth
    cases ha with
    | all =>
      refine call_function_tree F.kind_all F.plain_all F.entry_all (F.args_all1 _) ?_
      unfold Builtin.«all»
      refine wpAny_bind (m := oneArg "all" _) (wpAny_pure ?_)
      refine wpAny_bind (wpAny_pyIter_gen (isg _ (Heap.get?_push_size _ (Obj.isFreed_of_fields gd.choose_spec))) ?_)
      refine wpAny_pure ⟨plainId_quiet F.plain_all_loop _, ?_⟩
      exact codeAny_mono (ask_loop (id := "all.loop") (f := Builtin.«all») (.inl ⟨rfl, rfl⟩) (I3.ok.hd hc) rd isg (m0 + 1) _ _ _ _ _ I5 hgs go) back
    | any =>
      refine call_function_tree F.kind_any F.plain_any F.entry_any (F.args_any1 _) ?_
      unfold Builtin.«any»
      refine wpAny_bind (m := oneArg "any" _) (wpAny_pure ?_)
      refine wpAny_bind (wpAny_pyIter_gen (isg _ (Heap.get?_push_size _ (Obj.isFreed_of_fields gd.choose_spec))) ?_)
      refine wpAny_pure ⟨plainId_quiet F.plain_any_loop _, ?_⟩
      exact codeAny_mono (ask_loop (id := "any.loop") (f := Builtin.«any») (.inr ⟨rfl, rfl⟩) (I3.ok.hd hc) rd isg (m0 + 1) _ _ _ _ _ I5 hgs go) back
  -- the code object: found, or made
  obtain ⟨nB, ps, eP, tr, tell⟩ := hT
  have hPs : s2.heap.get? P = some { cls := .none, data := .fields ps } := I2.hok P _ eP
  have hd : PySem.W.CodeHd s2.heap c P := by
    rcases hCA with z | ⟨o, eo, z⟩
    · exact z.keeps I2.bk
    · exact z _ (I2.hok c _ eo).1
  cases hf : codeAmong gpos ps.toList with
  | some cv =>
    obtain ⟨c', o, P', ec, e2, e3, e4⟩ := tell _ _ hf
    subst ec
    refine wpAny_bind (wpAny_genexprCode_hit hcode (hd.code hPs tr) hf ?_)
    exact cont c' P' H2 s2 I2 st2 f2 (.inr ⟨o, e2, e3⟩) e4 (.refl _ _ _)
  | none =>
    refine wpAny_bind (wpAny_genexprCodeX hcode (hd.code hPs tr) (hd.tab hPs) hf fun c' h' tk hx hge hlt hco' hrec htab' hnew => ?_)
    obtain ⟨P', hPge, hcP, htP⟩ := hnew
    have hd' := PySem.W.CodeHd.of hcP htP
    have ne : c' ≠ P' := by
      obtain ⟨_, _, _, _, _, _, _, _, _, _, _, _, _, _, _, _, _, _, z⟩ := hd'
      exact z
    obtain ⟨oc, eoc⟩ : ∃ o, h'.get? c' = some o := by
      obtain ⟨o, _, _, _, _, _, _, _, _, z, _⟩ := hd'
      exact ⟨o, z⟩
    have fc : H2 c' = none := I2.hok.fresh hge
    have fP : H2 P' = none := I2.hok.fresh hPge
    have nPB : P' ≠ B := fun z => by
      rw [z] at fP
      exact hB fP
    have cd := CdH.of hd' eoc
    have I3 := inv_grown (t' := tk) I2 eP hx htab'.2 hge hPge ne eoc htP.2
    have g3 : Gw B [] H2 (grown H2 P (ps ++ #[rawInt gpos.line, rawInt gpos.col, .ref c']) c' oc P') := .grown fc fP ne nPB nB eP tr cd hB
    have st3 : tn 0 h' := T.keep _ _ _ st2 fun b hb o eo => hx b o (fun z => by
      have := (f2 b hb).1
      rw [z, eP] at this
      cases this) eo
    refine cont c' P' _ _ I3 st3 (fun b hb => ?_) (.inr ⟨oc, grown_c ne, cd⟩) (TabK.nil nPB grown_t k) g3
    obtain ⟨o, eo, _⟩ := T.obj _ _ st2 b hb
    have lt := Heap.lt_size eo
    refine ⟨?_, (f2 b hb).2⟩
    rw [grown_ne (fun z => ?_) (Nat.ne_of_lt (Nat.lt_of_lt_of_le lt hge)) (Nat.ne_of_lt (Nat.lt_of_lt_of_le lt hPge))]
    · exact (f2 b hb).1
    · have := (f2 b hb).1
      rw [z, eP] at this
      cases this
end
end Dy
end
section
set_option Elab.async false
set_option linter.all false
set_option maxRecDepth 100000
set_option maxHeartbeats 4000000
/-! Dicts whose keys are tuples of ints and of such tuples. -/
namespace Dy
open PySem PySem.Spec PyProof.Rows L2
/-! ### keys in the abstract heap -/
mutual
def NkV (H : Hp) : NestedKey → V → Prop
  | .num i, v => v = .int i
  | .tup ks, v => ∃ a vs, v = .ref a ∧ H a = some (.tup vs) ∧ NkAll H ks vs
  | .none, _ => False
  | .text _, _ => False
def NkAll (H : Hp) : List NestedKey → List V → Prop
  | [], vs => vs = []
  | k :: ks, vs => ∃ v r, vs = v :: r ∧ NkV H k v ∧ NkAll H ks r
end
mutual
theorem NkV.is {P : Program} {w : World} {H : Hp} {h : Heap} (ok : HOk P w H h) : ∀ (k : NestedKey) (v : V) (u : Value), NkV H k v → RelV v u → NestedIs h k u
  | .num i, v, u, x, r => by
    have x : v = .int i := x
    subst x
    obtain ⟨t, rfl⟩ := r
    exact .int i t
  | .tup ks, v, u, x, r => by
    obtain ⟨a, vs, e, ea, all⟩ := x
    subst e
    obtain rfl : u = Value.ref a := r
    obtain ⟨_, its, rs, o, eo, hc, n, hd⟩ := ok a _ ea
    exact .tup eo hc hd (by simpa using NkAll.is ok ks vs its all rs)
  | .none, _, _, x, _ => False.elim x
  | .text _, _, _, x, _ => False.elim x
theorem NkAll.is {P : Program} {w : World} {H : Hp} {h : Heap} (ok : HOk P w H h) : ∀ (ks : List NestedKey) (vs : List V) (us : List Value), NkAll H ks vs → Vals vs us → NestedAll h ks us
  | [], vs, us, x, r => by
    have x : vs = [] := x
    subst x
    cases r
    exact .nil
  | k :: ks, vs, us, x, r => by
    obtain ⟨v, q, e, x1, x2⟩ := x
    subst e
    cases r with
    | cons r1 r2 => exact .cons (NkV.is ok k v _ x1 r1) (NkAll.is ok ks q _ x2 r2)
end
mutual
theorem NkV.mono {H H' : Hp} (ht : ∀ b xs, H b = some (.tup xs) → H' b = some (.tup xs)) : ∀ (k : NestedKey) (v : V), NkV H k v → NkV H' k v
  | .num i, v, x => x
  | .tup ks, v, x => by
    obtain ⟨a, vs, e, ea, all⟩ := x
    exact ⟨a, vs, e, ht _ _ ea, NkAll.mono ht ks vs all⟩
  | .none, _, x => x
  | .text _, _, x => x
theorem NkAll.mono {H H' : Hp} (ht : ∀ b xs, H b = some (.tup xs) → H' b = some (.tup xs)) : ∀ (ks : List NestedKey) (vs : List V), NkAll H ks vs → NkAll H' ks vs
  | [], vs, x => x
  | k :: ks, vs, x => by
    obtain ⟨v, q, e, x1, x2⟩ := x
    exact ⟨v, q, e, NkV.mono ht k v x1, NkAll.mono ht ks q x2⟩
end
/-! ### the entries by key -/
section
variable {K V' : Type} [DecidableEq K]
def aAt (m : List (K × V')) (k : K) : Option V' := (m.find? fun p => decide (p.1 = k)).map (·.2)
def aPut (m : List (K × V')) (k : K) (v : V') : List (K × V') := if (aAt m k).isSome then m.map (fun p => if p.1 = k then (p.1, v) else p) else m ++ [(k, v)]
end
/-- an entry: its key, where its key's tuple stands, its value -/
abbrev Ent := NestedKey × Addr × V
def eAt (xs : List Ent) (k : NestedKey) : Option (Addr × V) := (xs.find? fun x => decide (x.1 = k)).map (·.2)
def ePut (xs : List Ent) (k : NestedKey) (a : Addr) (v : V) : List Ent := if (eAt xs k).isSome then xs.map (fun x => if x.1 = k then (x.1, x.2.1, v) else x) else xs ++ [(k, a, v)]
/-- entries and the model's -/
abbrev EntR : List Ent → List (NestedKey × Addr × Value) → Prop := Paired fun p q => p.1 = q.1 ∧ p.2.1 = q.2.1 ∧ RelV p.2.2 q.2.2
theorem EntR.keys : ∀ {xs : List Ent} {ys : List (NestedKey × Addr × Value)}, EntR xs ys → xs.map (·.1) = ys.map (·.1)
  | _, _, .nil => rfl
  | _, _, .cons r t => by rw [List.map_cons, List.map_cons, r.1, EntR.keys t]
theorem EntR.at : ∀ {xs : List Ent} {ys : List (NestedKey × Addr × Value)} {k : NestedKey}, EntR xs ys → (∀ p, eAt xs k = some p → ∃ q, atKey ys k = some q ∧ p.1 = q.1 ∧ RelV p.2 q.2) ∧ (eAt xs k = none → atKey ys k = none)
  | _, _, k, .nil => ⟨fun p h => (nomatch h), fun _ => rfl⟩
  | (k1, a1, v1) :: xs, (k2, a2, u2) :: ys, k, .cons r t => by
    obtain ⟨e1, e2, r⟩ := r
    have e1 : k1 = k2 := e1
    have e2 : a1 = a2 := e2
    subst e1 e2
    have ih := EntR.at (k := k) t
    unfold eAt atKey at ih ⊢
    rw [List.find?_cons, List.find?_cons]
    by_cases hk : k1 = k
    · simp only [hk, decide_true]
      exact ⟨fun p h => by cases h; exact ⟨_, rfl, rfl, r⟩, fun h => (nomatch h)⟩
    · simp only [decide_eq_false hk]
      exact ih
theorem EntR.snoc : ∀ {xs : List Ent} {ys : List (NestedKey × Addr × Value)} {p : Ent} {q : NestedKey × Addr × Value}, EntR xs ys → (p.1 = q.1 ∧ p.2.1 = q.2.1 ∧ RelV p.2.2 q.2.2) → EntR (xs ++ [p]) (ys ++ [q])
  | _, _, _, _, .nil, r => .cons r .nil
  | _, _, _, _, .cons r1 t, r => .cons r1 (EntR.snoc t r)
theorem EntR.mapPut {k : NestedKey} {v : V} {u : Value} (rv : RelV v u) : ∀ {xs : List Ent} {ys : List (NestedKey × Addr × Value)}, EntR xs ys → EntR (xs.map fun x => if x.1 = k then (x.1, x.2.1, v) else x) (ys.map (putAt k u))
  | _, _, .nil => .nil
  | (k1, a1, v1) :: xs, (k2, a2, u2) :: ys, .cons r t => by
    obtain ⟨e1, e2, r⟩ := r
    have e1 : k1 = k2 := e1
    have e2 : a1 = a2 := e2
    subst e1 e2
    rw [List.map_cons, List.map_cons]
    refine .cons ?_ (EntR.mapPut rv t)
    unfold putAt
    by_cases hk : k1 = k
    · simpa [hk] using rv
    · simpa [hk] using r
theorem EntR.put {xs : List Ent} {ys : List (NestedKey × Addr × Value)} {k : NestedKey} {a : Addr} {v : V} {u : Value} (r : EntR xs ys) (rv : RelV v u) : EntR (ePut xs k a v) (storedH ys k a u) := by
  obtain ⟨h1, h2⟩ := r.at (k := k)
  unfold ePut storedH
  cases e : eAt xs k with
  | none =>
    rw [h2 e]
    exact r.snoc ⟨rfl, rfl, rv⟩
  | some p =>
    obtain ⟨q, eq, _⟩ := h1 p e
    rw [eq]
    exact r.mapPut rv
theorem ePut_keys {xs : List Ent} {k : NestedKey} {a : Addr} {v : V} : ((ePut xs k a v).map fun x => (x.1, x.2.2)) = aPut (xs.map fun x => (x.1, x.2.2)) k v := by
  have e : aAt (xs.map fun x => (x.1, x.2.2)) k = (eAt xs k).map (·.2) := by
    unfold aAt eAt
    rw [List.find?_map, Option.map_map, Option.map_map]
    rfl
  unfold ePut aPut
  rw [e, Option.isSome_map]
  by_cases h : (eAt xs k).isSome = true
  · rw [if_pos h, if_pos h, List.map_map, List.map_map]
    refine List.map_congr_left fun x _ => ?_
    by_cases hk : x.1 = k <;> simp [hk]
  · rw [if_neg h, if_neg h, List.map_append]
    rfl
/-! ### the dict -/
/-- at d stands a dict of these entries -/
def ndPhi (w : World) (d : Addr) (xs : List Ent) (h : Heap) : Prop :=
  (xs.length ≤ sizeLine ∧ (d == sysModules) = false ∧ (xs.map (·.1)).Nodup) ∧ ∃ ys : List (NestedKey × Addr × Value), EntR xs ys ∧
    ∃ o es ep, h.get? d = some o ∧ o.ExactDict ∧ o.data = .dict es ep ∧ es.toList = ys.map fun x => (⟨x.1.hash w, .ref x.2.1, x.2.2⟩ : DictEntry)
def NdO (w : World) (d : Addr) (xs : List Ent) : HO := .ext (ndPhi w d xs)
theorem NdO.loose {w : World} {d : Addr} {xs : List Ent} : Loose (NdO w d xs) := ⟨fun _ z => (nomatch z), fun _ z => (nomatch z), fun _ z => (nomatch z)⟩
theorem NdO.frz_loose {w : World} {d : Addr} {xs : List Ent} {od : Obj} : Loose (.frz od (NdO w d xs)) := ⟨fun _ z => (nomatch z), fun o z => by
  have z1 : NdO w d xs = .ext fun _ => True := by
    injection z
  unfold NdO at z1
  injection z1 with z2
  have z3 := congrFun z2 (⟨#[], default⟩ : Heap)
  have z4 : ndPhi w d xs (⟨#[], default⟩ : Heap) := by
    rw [z3]
    trivial
  obtain ⟨_, _, _, ob, _, _, e, _⟩ := z4
  exact absurd (Heap.lt_size e) (Nat.not_lt_zero _), fun _ z => (nomatch z)⟩
theorem NdO.ok {P : Program} {w : World} {H : Hp} {h : Heap} {d : Addr} {xs : List Ent} (x : ndPhi w d xs h) : ObjOk P w H h d (NdO w d xs) := by
  refine ⟨x, ?_, fun h1 h2 x k => ?_⟩
  · obtain ⟨_, _, _, o, _, _, e, _⟩ := x
    exact ⟨o, e⟩
  · obtain ⟨a, ys, r, o, es, ep, e, q⟩ := x
    exact ⟨a, ys, r, o, es, ep, k o e, q⟩
/-- the dict at d holds these keys and values; the keys' tuples stand -/
def ND (w : World) (H : Hp) (d : Addr) (kvs : List (NestedKey × V)) : Prop :=
  ∃ xs, Rd H d (NdO w d xs) ∧ (xs.map fun x => (x.1, x.2.2)) = kvs ∧ ∀ x ∈ xs, NkV H x.1 (.ref x.2.1) ∧ x.1.depth ≤ 8
/-- .. and may be written -/
def NDw (w : World) (H : Hp) (d : Addr) (kvs : List (NestedKey × V)) : Prop :=
  ∃ xs, H d = some (NdO w d xs) ∧ (xs.map fun x => (x.1, x.2.2)) = kvs ∧ ∀ x ∈ xs, NkV H x.1 (.ref x.2.1) ∧ x.1.depth ≤ 8
theorem NDw.nd {w : World} {H : Hp} {d : Addr} {kvs : List (NestedKey × V)} (x : NDw w H d kvs) : ND w H d kvs := by
  obtain ⟨xs, e, r⟩ := x
  exact ⟨xs, .inl e, r⟩
theorem NDw.mono {w : World} {H H' : Hp} {d : Addr} {kvs : List (NestedKey × V)} (x : NDw w H d kvs) (hd : ∀ o, H d = some o → (∀ ps, o ≠ .tbl ps) → H' d = some o) (ht : ∀ b xs, H b = some (.tup xs) → H' b = some (.tup xs)) : NDw w H' d kvs := by
  obtain ⟨xs, e, r, k⟩ := x
  exact ⟨xs, hd _ e (fun _ z => (nomatch z)), r, fun y hy => ⟨NkV.mono ht _ _ (k y hy).1, (k y hy).2⟩⟩
section
variable {X : Cx} {pins : List (Addr × Obj)} {σ : L2.St} {H : Hp} {s : Shared} {d : Addr} {kvs : List (NestedKey × V)}
theorem entAt_keys (xs : List Ent) (k : NestedKey) : aAt (xs.map fun x => (x.1, x.2.2)) k = (eAt xs k).map (·.2) := by
  unfold aAt eAt
  rw [List.find?_map, Option.map_map, Option.map_map]
  rfl
/-- the model's dict -/
theorem nd_at (I : Inv X pins σ H s) (x : ND X.w H d kvs) : ∃ (xs : List Ent) (ys : List (NestedKey × Addr × Value)), (xs.map fun x => (x.1, x.2.2)) = kvs ∧ EntR xs ys ∧ s.heap.DictOfH (nestedKind X.prog X.w) d ys ∧ xs.length ≤ sizeLine ∧ (d == sysModules) = false ∧
    (∀ x ∈ xs, NkV H x.1 (.ref x.2.1) ∧ x.1.depth ≤ 8) ∧ (xs.map (·.1)).Nodup := by
  obtain ⟨xs, rd, e, ks⟩ := x
  obtain ⟨⟨⟨z, nd, un⟩, ys, r, o, es, ep, eo, hx, hd, he⟩, _, _⟩ := rd.ok I.hok
  refine ⟨xs, ys, e, r, ⟨o, es, ep, eo, hx, hd, he, fun y hy => ?_, by rw [← EntR.keys r]; exact un⟩, z, nd, ks, un⟩
  obtain ⟨i, hi⟩ := List.mem_iff_getElem?.mp hy
  have key : ∀ {xs : List Ent} {ys : List (NestedKey × Addr × Value)} {i : Nat}, EntR xs ys → ys[i]? = some y → ∃ x ∈ xs, x.1 = y.1 ∧ x.2.1 = y.2.1 := by
    intro xs ys i r
    induction r generalizing i with
    | nil => intro h; simp at h
    | cons r t ih =>
      intro h
      cases i with
      | zero =>
        simp at h
        subst h
        exact ⟨_, List.mem_cons_self, r.1, r.2.1⟩
      | succ i =>
        obtain ⟨x, hx, q⟩ := ih (i := i) (by simpa using h)
        exact ⟨x, List.mem_cons_of_mem _ hx, q⟩
  obtain ⟨x, hx, e1, e2⟩ := key r hi
  obtain ⟨k1, k2⟩ := ks x hx
  rw [e1, e2] at k1
  rw [e1] at k2
  exact ⟨NkV.is I.hok _ _ _ k1 rfl, k2⟩
/-- {} -/
def tNdNew (w : World) : TE := fun _ H Q => ∀ d, H d = none → Q (.ref d) (upd H d (NdO w d []))
theorem ne_sys (I : Inv X pins σ H s) {a : Addr} (h : s.heap.objs.size ≤ a) : (a == sysModules) = false := beq_false_of_ne (Nat.ne_of_gt (Nat.lt_of_lt_of_le I.big h))
theorem pe_ndnew {pos : Pos} : PE X (.Dict [] [] pos) (tNdNew X.w) := by
  refine ⟨fun pins s σ H Q I h => ?_⟩
  refine wpAny_Dict_empty ⟨.ref s.heap.objs.size, _, I.laid (a := s.heap.objs.size) (t' := s.toks) (fun _ _ q => Heap.get?_push_of_some _ q) (Nat.le_refl _) (NdO.ok ?_), rfl, h _ (I.hok.fresh (Nat.le_refl _))⟩
  exact ⟨⟨Nat.zero_le _, ne_sys I (Nat.le_refl _), List.nodup_nil⟩, [], .nil, _, #[], 0, Heap.get?_push_size _ rfl, ⟨rfl, rfl, rfl⟩, rfl, rfl⟩
/-- what d[y] holds: y a key -/
structure NkAt (H : Hp) (y : V) (k : NestedKey) : Prop where
  key : NkV H k y
  ref : ∃ a, y = .ref a
  dep : k.depth ≤ 8
theorem kind_is (I : Inv X pins σ H s) {y : V} {u : Value} {k : NestedKey} (x : NkAt H y k) (r : RelV y u) : ∃ a, y = .ref a ∧ u = .ref a ∧ (nestedKind X.prog X.w).is s.heap k a := by
  obtain ⟨a, e⟩ := x.ref
  have xk := x.key
  subst e
  obtain rfl : u = Value.ref a := r
  exact ⟨a, rfl, rfl, NkV.is I.hok k _ _ xk rfl, x.dep⟩
end
end Dy
end
section
set_option Elab.async false
set_option linter.all false
set_option maxRecDepth 100000
set_option maxHeartbeats 4000000
/-! Dicts whose keys are tuples of ints and of such tuples: the rules. -/
namespace Dy
open PySem PySem.Spec PyProof.Rows L2
section
variable {X : Cx} {o i e f value : Expr} {td ti ty tx tv : TE} {pos apos cpos pos' : Pos}
theorem nd_room {A : Around} (hu : A.units + 64 < cLine) {prog : Program} {w : World} : (nestedKind prog w).room A.in1 := by
  show A.units + 1 + 8 < cLine
  omega
/-- d[k], there -/
def tNdGet (w : World) (td ti : TE) : TE := fun σ H Q => td σ H fun x H1 => ti σ H1 fun y H2 => ∃ d kvs k v, x = .ref d ∧ ND w H2 d kvs ∧ NkAt H2 y k ∧ aAt kvs k = some v ∧ Q v H2
theorem pe_ndget (hu : X.A.units + 64 < cLine) (ho : PE X o td) (hi : PE X i ti) (hs : NoSl i) : PE X (.Subscript o i pos) (tNdGet X.w td ti) := by
  refine ⟨fun pins s σ H Q I h => ?_⟩
  refine subD_of PySem.F.slot_dict_getitem.lookup hs (thn (ho.run pins s σ H _ I h) fun u s1 ⟨x, H1, I1, rx, q1⟩ => thn (hi.run pins s1 σ H1 _ I1 q1) fun iv s2 h2 => ?_)
  obtain ⟨y, H2, I2, ry, d, kvs, k, v, ex, nd, ky, ea, q2⟩ := h2
  subst ex
  obtain rfl : u = Value.ref d := rx
  obtain ⟨a, ey, eu, ki⟩ := kind_is I2 ky ry
  subst eu
  obtain ⟨xs, ys, em, r, dd, z, ns, ks, un⟩ := nd_at I2 nd
  refine ⟨dd.typeIs, ?_⟩
  rw [← em, entAt_keys] at ea
  obtain ⟨p, ep, ev⟩ := Option.map_eq_some_iff.mp ea
  obtain ⟨q, eq, _, rv⟩ := r.at.1 p ep
  subst ev
  exact wpAny_getItem_heap (nd_room hu) ki dd eq ⟨p.2, H2, I2.tok _, rv, q2⟩
/-- k not in d -/
def tNdNotIn (w : World) (ti td : TE) : TE := fun σ H Q => ti σ H fun y H1 => td σ H1 fun x H2 => ∃ d kvs k, x = .ref d ∧ ND w H2 d kvs ∧ NkAt H2 y k ∧ Q (.bl (!(aAt kvs k).isSome)) H2
theorem pc_ndnotin (hu : X.A.units + 64 < cLine) (hi : PE X i ti) (ho : PE X o td) : PC X .NotIn i o (tNdNotIn X.w ti td) := by
  refine ⟨fun pins s σ H Q I h => ?_⟩
  refine thn (hi.run pins s σ H _ I h) fun iv s1 ⟨y, H1, I1, ry, q1⟩ => thn (ho.run pins s1 σ H1 _ I1 q1) fun u s2 h2 => ?_
  obtain ⟨x, H2, I2, rx, d, kvs, k, ex, nd, ky, q2⟩ := h2
  subst ex
  obtain rfl : u = Value.ref d := rx
  obtain ⟨xs, ys, em, r, dd, z, ns, ks, un⟩ := nd_at I2 nd
  have ry2 : RelV y iv := ry
  obtain ⟨a, ey, eu, ki⟩ := kind_is I2 ky ry2
  subst eu
  have et : (valueAt (pairsH ys) k).isSome = (aAt kvs k).isSome := by
    rw [valueAt_pairsH, ← em, entAt_keys, Option.isSome_map, Option.isSome_map]
    cases e : eAt xs k with
    | none =>
      rw [r.at.2 e]
      rfl
    | some p =>
      obtain ⟨q, eq, _⟩ := r.at.1 p e
      rw [eq]
      rfl
  refine notIn_keyed (nd_room hu) ki ns ⟨ys, dd, rfl⟩ ?_
  rw [et]
  exact ⟨.bl (!(aAt kvs k).isSome), H2, I2.tok _, rfl, q2⟩
/-- d.get(k, x) -/
def tNdGet2 (w : World) (td ti tx : TE) : TE := fun σ H Q => td σ H fun x H1 => ∃ d kvs, x = .ref d ∧ ND w H1 d kvs ∧ ti σ H1 fun y H2 => tx σ H2 fun z H3 => ∃ kvs k, ND w H3 d kvs ∧ NkAt H3 y k ∧ Q ((aAt kvs k).getD z) H3
theorem pe_ndget2 (hu : X.A.units + 64 < cLine) (ho : PE X o td) (he : PE X e ti) (hf : PE X f tx) (m : M2 X o "get" apos e f cpos) : PE X (.Call (.Attribute o "get" apos) [e, f] [] cpos) (tNdGet2 X.w td ti tx) := by
  refine ⟨fun pins s σ H Q I h => ?_⟩
  refine wpAny_Call_method m.base m.few m.line PySem.F.plainAttrs_dict PySem.F.slot_dict_get PySem.F.type_dict_get (thn (ho.run pins s σ H _ I h) fun u s1 h1 => ?_)
  obtain ⟨x, H1, I1, rx, d, kvs0, ex, nd0, q1⟩ := h1
  subst ex
  obtain rfl : u = Value.ref d := rx
  obtain ⟨_, _, _, _, dd0, _⟩ := nd_at I1 nd0
  refine ⟨dd0.typeIs, fun b q => ?_, ?_⟩
  · cases q
    obtain ⟨ob, _, _, eo, hx, _⟩ := dd0
    exact ⟨ob, eo, hx.2.1⟩
  · rw [m.trees]
    refine Calls.callWith_builtin rfl (Calls.evalArgs_plain (Calls.spliced_cons (thn (he.run pins s1 σ H1 _ I1 q1) fun iv s2 ⟨y, H2, I2, ry, q2⟩ => Calls.spliced_cons (thn (hf.run pins s2 σ H2 _ I2 q2) fun fv s3 h3 => Calls.spliced_nil ?_))))
    obtain ⟨z, H3, I3, rz, kvs, k, nd, ky, q3⟩ := h3
    obtain ⟨a, ey, eu, ki⟩ := kind_is I3 ky ry
    subst eu
    obtain ⟨xs, ys, em, r, dd, zl, ns, ks, un⟩ := nd_at I3 nd
    refine getOr_keyed (nd_room hu) ki ns ⟨ys, dd, rfl⟩ ⟨(aAt kvs k).getD z, H3, I3.tok _, ?_, q3⟩
    rw [valueAt_pairsH, ← em, entAt_keys]
    cases e : eAt xs k with
    | none =>
      rw [r.at.2 e]
      exact rz
    | some p =>
      obtain ⟨q, eq, _, rv⟩ := r.at.1 p e
      rw [eq]
      exact rv
/-- the dict at d becomes one with y's key put -/
def NdPut (w : World) (H : Hp) (d : Addr) (y v : V) (R : Hp → Prop) : Prop :=
  ∃ kvs k, NDw w H d kvs ∧ NkAt H y k ∧ kvs.length < sizeLine ∧ ∀ xs', NDw w (upd H d (NdO w d xs')) d (aPut kvs k v) → R (upd H d (NdO w d xs'))
/-- o[i] = v -/
def rNdSet (w : World) : TSet := fun o i v H Q => ∃ d, o = .ref d ∧ NdPut w H d i v Q
theorem ePut_mem {xs : List Ent} {k : NestedKey} {a : Addr} {v : V} {y : Ent} (h : y ∈ ePut xs k a v) : (y = (k, a, v)) ∨ ∃ x ∈ xs, y.1 = x.1 ∧ y.2.1 = x.2.1 := by
  unfold ePut at h
  split at h
  · obtain ⟨x, hx, e⟩ := List.mem_map.mp h
    refine .inr ⟨x, hx, ?_⟩
    by_cases hk : x.1 = k
    · simp only [hk, if_true] at e
      subst e
      exact ⟨hk.symm, rfl⟩
    · simp only [hk, if_false] at e
      subst e
      exact ⟨rfl, rfl⟩
  · rcases List.mem_append.mp h with h | h
    · exact .inr ⟨y, h, rfl, rfl⟩
    · exact .inl (List.mem_singleton.mp h)
theorem ePut_length {xs : List Ent} {k : NestedKey} {a : Addr} {v : V} : (ePut xs k a v).length ≤ xs.length + 1 := by
  unfold ePut
  split
  · rw [List.length_map]
    omega
  · rw [List.length_append]
    exact Nat.le_refl _
theorem set_nd (hu : X.A.units + 64 < cLine) : PSet X (rNdSet X.w) := by
  intro pins s σ H o i v ov iv u Q I ro ri rv h
  obtain ⟨d, eo, kvs, k, nw, ky, lt, q⟩ := h
  subst eo
  cases (show ov = Value.ref d from ro)
  obtain ⟨a, ey, eu, ki⟩ := kind_is I ky ri
  subst eu
  have nw2 := nw
  obtain ⟨xs, eH, em, ks⟩ := nw2
  obtain ⟨⟨⟨z, nd, un⟩, ys, r, ob, es, ep, eo, hx, hd, he⟩, _, _⟩ := I.hok d _ eH
  obtain ⟨xs2, ys2, em2, r2, dd, z2, ns, ks2, un2⟩ := nd_at I nw.nd
  have key : ∀ x ∈ ys, (nestedKind X.prog X.w).is s.heap x.1 x.2.1 := fun y hy => by
    obtain ⟨j, hj⟩ := List.mem_iff_getElem?.mp hy
    have aux : ∀ {xs : List Ent} {ys : List (NestedKey × Addr × Value)} {j : Nat}, EntR xs ys → ys[j]? = some y → ∃ x ∈ xs, x.1 = y.1 ∧ x.2.1 = y.2.1 := by
      intro xs ys j r
      induction r generalizing j with
      | nil => intro h; simp at h
      | cons r t ih =>
        intro h
        cases j with
        | zero =>
          simp at h
          subst h
          exact ⟨_, List.mem_cons_self, r.1, r.2.1⟩
        | succ j =>
          obtain ⟨x, hx, q⟩ := ih (j := j) (by simpa using h)
          exact ⟨x, List.mem_cons_of_mem _ hx, q⟩
    obtain ⟨x, hx, e1, e2⟩ := aux r hj
    obtain ⟨k1, k2⟩ := ks x hx
    rw [e1, e2] at k1
    rw [e1] at k2
    exact ⟨NkV.is I.hok _ _ _ k1 rfl, k2⟩
  have dd : s.heap.DictOfH (nestedKind X.prog X.w) d ys := ⟨ob, es, ep, eo, hx, hd, he, key, by rw [← EntR.keys r]; exact un⟩
  have ll : xs.length = kvs.length := by rw [← em, List.length_map]
  have ly : ys.length = xs.length := (Paired.length r).symm
  refine wpAny_setItem_heap (nd_room hu) ki dd (fun h' hm hs => ?_) (by omega)
  obtain ⟨o', es', ep', eo', hx', hd', he', _, un'⟩ := hm
  have rp : EntR (ePut xs k a v) (storedH ys k a u) := r.put rv
  have ph : ndPhi X.w d (ePut xs k a v) h' := ⟨⟨by have := ePut_length (xs := xs) (k := k) (a := a) (v := v); omega, nd, by rw [EntR.keys rp]; exact un'⟩, _, rp, o', es', ep', eo', hx', hd', he'⟩
  refine ⟨upd H d (NdO X.w d (ePut xs k a v)), I.write (t' := _) (x := d) (e := d) (by rw [eH]; trivial) (.inl rfl) (fun b q hb y => (hs.2 b hb).trans y) ⟨_, eo'⟩ (NdO.ok ph), q _ ⟨_, upd_same, ?_, fun y hy => ?_⟩⟩
  · rw [ePut_keys, em]
  · have ht : ∀ b xs0, H b = some (.tup xs0) → upd H d (NdO X.w d (ePut xs k a v)) b = some (.tup xs0) := fun b xs0 eb => by
      rw [upd_ne (ne_of eb eH fun z => nomatch z)]
      exact eb
    rcases ePut_mem hy with e | ⟨x, hxm, e1, e2⟩
    · subst e
      refine ⟨NkV.mono ht _ _ ?_, ky.dep⟩
      have := ky.key
      rw [ey] at this
      exact this
    · rw [e1, e2]
      exact ⟨NkV.mono ht _ _ (ks x hxm).1, (ks x hxm).2⟩
/-- {k: v} -/
def tNd1 (w : World) (tk tv : TE) : TE := fun σ H Q => ∀ d, H d = none → tk σ (upd H d (NdO w d [])) fun x H1 => tv σ H1 fun y H2 => H2 d = some (NdO w d []) ∧ ∃ a k, x = .ref a ∧ NkAt H2 x k ∧ Q (.ref d) (upd H2 d (NdO w d [(k, a, y)]))
theorem pe_nd1 (hu : X.A.units + 64 < cLine) (hk : PE X e ti) (hv : PE X f tv) : PE X (.Dict [some e] [f] pos) (tNd1 X.w ti tv) := by
  refine ⟨fun pins s σ H Q I q => ?_⟩
  have hn := I.hok.fresh (Nat.le_refl s.heap.objs.size)
  have ph : ndPhi X.w s.heap.objs.size [] (s.heap.push { cls := .type "dict", data := .dict #[] }) := ⟨⟨Nat.zero_le _, ne_sys I (Nat.le_refl _), List.nodup_nil⟩, [], .nil, _, #[], 0, Heap.get?_push_size _ rfl, ⟨rfl, rfl, rfl⟩, rfl, rfl⟩
  have I1 : Inv X pins σ (upd H s.heap.objs.size (NdO X.w s.heap.objs.size [])) { s with heap := s.heap.push { cls := .type "dict", data := .dict #[] }, toks := s.toks } := I.laid (fun _ _ q => Heap.get?_push_of_some _ q) (Nat.le_refl _) (NdO.ok ph)
  rw [arm_eval_Dict, zip_pairTrees [some e] [f] X.env pos rfl rfl, dictDisplay_pairs _ (by simp [pairTrees]) (by simp [pairTrees])]
  refine wpAny_bind (wpAny_standAt (wpAny_bind (wpAny_subDictH (knd := nestedKind X.prog X.w) (by show X.A.units + 8 < cLine; omega) (by simp [pairTrees]) ?_)))
  refine pairTrees_cons_walk (thn (hk.run pins _ σ _ _ I1 (q _ hn)) fun u s1 ⟨x, H1, I2, rx, q1⟩ => thn (hv.run pins s1 σ H1 _ I2 q1) fun w2 s2 h2 => pairTrees_nil_walk ?_)
  obtain ⟨y, H2, I3, ry, eD, a, k, ex, ky, q2⟩ := h2
  obtain ⟨a', ea', eu, ki⟩ := kind_is I3 ky rx
  have eaa : a' = a := by
    rw [ex] at ea'
    injection ea' with e1
    exact e1.symm
  subst eaa
  subst eu
  obtain ⟨⟨⟨z, nd, un⟩, ys, r, ob, es, ep, eo, hx, hd, he⟩, _, _⟩ := I3.hok _ _ eD
  cases r
  refine ⟨[(k, a', w2)], ⟨rfl, rfl, ki, trivial⟩, ⟨ob, es, ep, eo, hx, hd, he, fun y hy => (by simp at hy), List.nodup_nil⟩, fun h' tk dd hs => ?_⟩
  obtain ⟨o', es', ep', eo', hx', hd', he', _, _⟩ := dd
  have ph2 : ndPhi X.w s.heap.objs.size [(k, a', y)] h' := ⟨⟨by show 1 ≤ sizeLine; decide, nd, by simp⟩, [(k, a', w2)], .cons ⟨rfl, rfl, ry⟩ .nil, o', es', ep', eo', hx', hd', he'⟩
  exact wpAny_pure ⟨.ref s.heap.objs.size, upd H2 s.heap.objs.size (NdO X.w s.heap.objs.size [(k, a', y)]), I3.write (t' := tk) (x := s.heap.objs.size) (e := s.heap.objs.size) (by rw [eD]; trivial) (.inl rfl) (fun b q hb y => (hs.2 b hb).trans y) ⟨_, eo'⟩ (NdO.ok ph2), rfl, q2⟩
end
end Dy
end
section
set_option Elab.async false
set_option linter.all false
set_option maxRecDepth 100000
set_option maxHeartbeats 4000000
/-! Dicts whose keys are tuples of ints and of such tuples: for k, v in d.items(), sum(d.values()). -/
namespace Dy
open PySem PySem.Spec PyProof.Rows L2
theorem EntR.get : ∀ {xs : List Ent} {ys : List (NestedKey × Addr × Value)}, EntR xs ys → ∀ {i : Nat} {x : Ent}, xs[i]? = some x → ∃ y, ys[i]? = some y ∧ x.1 = y.1 ∧ x.2.1 = y.2.1 ∧ RelV x.2.2 y.2.2
  | _, _, .nil, i, x, h => by simp at h
  | _, _, .cons r t, 0, x, h => by
    simp at h
    subst h
    exact ⟨_, rfl, r⟩
  | _, _, .cons r t, i + 1, x, h => by
    obtain ⟨y, e, q⟩ := EntR.get t (i := i) (by simpa using h)
    exact ⟨y, by simpa using e, q⟩
/-- what is known of the entries -/
structure NdAt (w : World) (h : Heap) (d : Addr) (xs : List Ent) (es : Array DictEntry) (ep : Nat) : Prop where
  sys : (d == sysModules) = false
  raw : h.DictRaw d es ep
  size : es.size = xs.length
  ent : ∀ {i : Nat} {x : Ent}, xs[i]? = some x → ∃ hi : i < es.size, es[i].key = .ref x.2.1 ∧ RelV x.2.2 es[i].val
theorem ndPhi_at {w : World} {h : Heap} {d : Addr} {xs : List Ent} (x : ndPhi w d xs h) : ∃ es ep, NdAt w h d xs es ep := by
  obtain ⟨⟨z, nd, un⟩, ys, r, o, es, ep, eo, hx, hd, he⟩ := x
  have hs : es.size = ys.length := by
    have q := congrArg List.length he
    rw [List.length_map, Array.length_toList] at q
    exact q
  have hl : xs.length = ys.length := Paired.length r
  refine ⟨es, ep, nd, ⟨o, eo, hx, hd⟩, by omega, fun {i x} hx => ?_⟩
  obtain ⟨y, ey, e1, e2, rv⟩ := r.get hx
  have hi : i < ys.length := by
    rcases Nat.lt_or_ge i ys.length with z | z
    · exact z
    · rw [List.getElem?_eq_none z] at ey
      cases ey
  have hi2 : i < es.size := by omega
  have q : es[i]? = some (⟨y.1.hash w, .ref y.2.1, y.2.2⟩ : DictEntry) := by
    rw [← Array.getElem?_toList, he, List.getElem?_map, ey] <;> rfl
  rw [Array.getElem?_eq_getElem hi2] at q
  have q2 := Option.some.inj q
  refine ⟨hi2, ?_, ?_⟩
  · rw [q2, e2]
  · rw [q2]
    exact rv
/-- the items of the locked dict at d, each a new pair -/
def NdIt (w : World) (d : Addr) (o : Obj) (xs : List Ent) : It :=
  ⟨fun i H => H d = some (.frz o (NdO w d xs)) ∧ i < xs.length, fun i H x H' => ∃ T k a v, xs[i]? = some (k, a, v) ∧ x = .ref T ∧ H T = none ∧ H' = upd H T (.tup [.ref a, v]), fun i H => H d = some (.frz o (NdO w d xs)) ∧ xs.length ≤ i⟩
section
variable {P : Program} {w : World} {K : PySem.W.Frag} {d : Addr} {o : Obj} {es : Array DictEntry} {ep : Nat}
theorem frz_nd {X : Cx} {pins : List (Addr × Obj)} {σ : L2.St} {H : Hp} {s : Shared} {xs : List Ent} (I : Inv X pins σ H s) (h : H d = some (.frz o (NdO X.w d xs))) : s.heap.get? d = some o ∧ ∃ es ep, o.data = .dict es ep ∧ NdAt X.w s.heap d xs es ep := by
  obtain ⟨hd, x, _, _⟩ := I.hok d _ h
  obtain ⟨es, ep, q⟩ := ndPhi_at x
  obtain ⟨o', eo, _, hdd⟩ := q.raw
  rw [hd] at eo
  cases eo
  exact ⟨hd, es, ep, hdd, q⟩
theorem turn_nditems {xs : List Ent} {elts : List Expr} {kk : Nat} {tpos : Pos} (it : Addr) (hod : o.data = .dict es ep) :
    Turn P w K (.Tuple elts kk tpos) (NdIt w d o xs) [it] it (fun i h => ∃ ok ov, IsItemIter h it d i xs.length ep ok ov) where
  mem := by simp
  obj := fun i h st b hb => by
    have e : b = it := by simpa using hb
    subst e
    obtain ⟨ok, ov, e⟩ := st
    exact ⟨_, e, fun v z => (nomatch z)⟩
  keep := fun i h h' st k => let ⟨ok, ov, e⟩ := st; ⟨ok, ov, k it (by simp) _ e⟩
  item := by
    intro X hP hw hK hc i pins s σ H E I hf st hg
    subst hP hw hK
    obtain ⟨hd, hi⟩ := hg
    obtain ⟨hgd, es', ep', hdt, N⟩ := frz_nd I hd
    obtain ⟨rfl, rfl⟩ := dict_ep hod hdt
    obtain ⟨⟨k, a, v⟩, hkv⟩ : ∃ p, xs[i]? = some p := ⟨xs[i], List.getElem?_eq_getElem hi⟩
    obtain ⟨hi2, ekey, rv⟩ := N.ent hkv
    obtain ⟨ok, ov, he⟩ := st
    rw [← N.size] at he
    have hlt : it < s.heap.objs.size := Heap.lt_size he
    refine wpAny_pyNext_items_item_raw he N.raw hi2 fun h' ho hT hz hk => ?_
    rw [ekey] at ho hT
    refine ⟨_, rfl, wpAny_letOwnedTupleGo_items (s := { s with heap := h' }) ho fun h'' he' sb => ?_⟩
    have hT2 : h''.get? s.heap.objs.size = some { cls := .type "tuple", data := .seq #[.ref a, es'[i].val] } := (sb.2 _ (Nat.ne_of_gt hlt)).trans hT
    have new : ObjOk X.prog X.w (upd H s.heap.objs.size (.tup [.ref a, v])) h'' s.heap.objs.size (.tup [.ref a, v]) :=
      ⟨by show 2 ≤ sizeLine; decide, [.ref a, es'[i].val], .cons rfl (.cons rv .nil), ⟨_, hT2, rfl, _, rfl⟩⟩
    have I1 : Inv X pins σ (upd H s.heap.objs.size (.tup [.ref a, v])) { s with heap := h'' } :=
      I.turnedNew (t' := s.toks) (ch := [it]) (fun b ob hb e => (sb.2 b (by simpa using hb)).trans (hk b ob (by simpa using hb) e)) hf (Nat.le_refl _) new
    refine ⟨.ref s.heap.objs.size, _, I1, rfl, ⟨_, k, a, v, hkv, rfl, I.hok.fresh (Nat.le_refl _), rfl⟩, ⟨.ref a, es'[i].val, ?_⟩, fun b hb => ?_⟩
    · rw [← N.size]
      exact he'
    · have e : b = it := by simpa using hb
      rw [e, upd_ne (Nat.ne_of_lt hlt)]
      exact (hf it (by simp)).1
  done := by
    intro X hP hw hK hc i pins s σ H E I hf st hg
    subst hP hw hK
    obtain ⟨hd, hi⟩ := hg
    obtain ⟨f0, f1, f2, f3, f4, f5⟩ := hf it (by simp)
    obtain ⟨hgd, es', ep', hdt, N⟩ := frz_nd I hd
    obtain ⟨rfl, rfl⟩ := dict_ep hod hdt
    obtain ⟨ok, ov, he⟩ := st
    rw [← N.size] at he
    exact wpAny_pyNext_items_end_raw (I.ok.hd hc) he N.raw (by rw [N.size]; exact hi) fun h' eb => ⟨rfl, I.turned (t' := s.toks) (fun b ob hb e => eb b ob hb e) f0 f1 f3 f4 f5⟩
  self := fun A i s Q E st h => let ⟨_, _, e⟩ := st; PySem.W.kcp_self e h
end
section
variable {X : Cx} {e : Expr} {td : TE} {apos cpos tpos : Pos} {elts : List Expr} {kk : Nat}
/-- for k, v in d.items(): d locked -/
def iNdItems (w : World) (td : TE) : TI := fun σ H R => td σ H fun x H1 => ∃ d o xs, x = .ref d ∧ H1 d = some (.frz o (NdO w d xs)) ∧ R (NdIt w d o xs) H1
theorem pi_nditems (he : PE X e td) (hbase : attributeBase e "items" X.env (eval e X.env) = eval e X.env := by rfl) (hline : (apos.endLine == cpos.line) = true := by rfl) :
    PI X (.Tuple elts kk tpos) (.Call (.Attribute e "items" apos) [] [] cpos) (iNdItems X.w td) := by
  refine ⟨fun pins s σ H R I h => ?_⟩
  refine wpAny_Call_method (T := "dict") (id := "dict.items") hbase rfl hline F.plainAttrs_dict F.slot_dict_items F.type_dict_items (thn (he.run pins s σ H _ I h) fun u s1 ⟨x, H1, I1, rx, d, o, xs, ex, hd, q⟩ => ?_)
  subst ex
  obtain rfl : u = Value.ref d := rx
  obtain ⟨hgd, es, ep, hdt, N⟩ := frz_nd I1 hd
  obtain ⟨o', eo, hx, hdd⟩ := id N.raw
  refine ⟨N.raw.typeIs, fun b q => ?_, ?_⟩
  · cases q
    exact ⟨o', eo, hx.2.1⟩
  have I2 : Inv X pins σ H1 { s1 with heap := s1.heap.push { cls := .type "dict_items", data := .fields #[.ref d] } } := I1.kept (t' := s1.toks) fun b ob q => Heap.get?_push_of_some _ q
  have fin : wpAny (model X.prog X.w) X.A (pyIter (.ref s1.heap.objs.size)) (PIE X pins σ (.Tuple elts kk tpos) R) X.xe { s1 with heap := s1.heap.push { cls := .type "dict_items", data := .fields #[.ref d] } } := by
    refine wpAny_pyIter_items_raw (d := d) ⟨_, Heap.get?_push_size _ rfl, rfl, rfl⟩ (N.raw.at fun _ z => Heap.get?_push_of_some _ z) (pi_one (tk := s1.toks) I2 _ (turn_nditems _ hdt) ⟨.none, .none, ?_⟩ q)
    rw [← N.size]
    exact Heap.get?_push_size _ rfl
  show wpAny _ _ (callWith cpos (.builtin "dict.items") [.ref d] [] []) _ X.xe s1
  exact method_meetsIn F.slot_dict_items F.entry_dict_items rfl (PySem.evalArgs_none ⟨rfl, N.raw.typeIs, F.args_dict_items_1 _, _, meets_dict_items_raw d N.sys, ⟨es, ep, N.raw⟩, fin⟩)
/-- d.values() -/
def tNdVals (w : World) (td : TE) : TE := fun σ H Q => td σ H fun x H1 => ∃ d kvs, x = .ref d ∧ ND w H1 d kvs ∧ ∀ p, H1 p = none → Q (.ref p) (upd H1 p (viewO "dict_values" p d))
theorem nd_raw {pins : List (Addr × Obj)} {σ : L2.St} {H : Hp} {s : Shared} {d : Addr} {kvs : List (NestedKey × V)} (I : Inv X pins σ H s) (x : ND X.w H d kvs) : ∃ xs es ep, (xs.map fun x => (x.1, x.2.2)) = kvs ∧ NdAt X.w s.heap d xs es ep := by
  obtain ⟨xs, rd, e, ks⟩ := x
  obtain ⟨x, _, _⟩ := rd.ok I.hok
  obtain ⟨es, ep, q⟩ := ndPhi_at x
  exact ⟨xs, es, ep, e, q⟩
theorem pe_ndvals (he : PE X e td) (hbase : attributeBase e "values" X.env (eval e X.env) = eval e X.env := by rfl) (hline : (apos.endLine == cpos.line) = true := by rfl) :
    PE X (.Call (.Attribute e "values" apos) [] [] cpos) (tNdVals X.w td) := by
  refine ⟨fun pins s σ H Q I h => ?_⟩
  refine wpAny_Call_method (T := "dict") (id := "dict.values") hbase rfl hline F.plainAttrs_dict F.slot_dict_values F.type_dict_values (thn (he.run pins s σ H _ I h) fun u s1 ⟨x, H1, I1, rx, d, kvs, ex, hd, q⟩ => ?_)
  subst ex
  obtain rfl : u = Value.ref d := rx
  obtain ⟨xs, es, ep, em, N⟩ := nd_raw I1 hd
  obtain ⟨o', eo, hx, hdd⟩ := id N.raw
  refine ⟨N.raw.typeIs, fun b q => ?_, ?_⟩
  · cases q
    exact ⟨o', eo, hx.2.1⟩
  show wpAny _ _ (callWith cpos (.builtin "dict.values") [.ref d] [] []) _ X.xe s1
  refine method_meetsIn F.slot_dict_values F.entry_dict_values rfl (PySem.evalArgs_none ⟨rfl, N.raw.typeIs, F.args_dict_values_1 _, _, meets_dict_values_raw d N.sys, ⟨es, ep, N.raw⟩, ?_⟩)
  exact ⟨.ref s1.heap.objs.size, _, I1.laid (t' := s1.toks) (fun b o q => Heap.get?_push_of_some _ q) (Nat.le_refl _) (viewO_ok (Heap.get?_push_size _ rfl)), rfl, q _ (I1.hok.fresh (Nat.le_refl _))⟩
/-- the sum of the values -/
def rNdSum (w : World) : List V → Hp → VK → Prop := fun vs H Q => ∃ (p d : Addr) (kvs : List (NestedKey × V)) (ns : List Int), vs = [.ref p] ∧ H p = some (viewO "dict_values" p d) ∧ ND w H d kvs ∧ kvs.map (·.2) = ns.map V.int ∧ Q (.int ns.sum) H
theorem preSum_list (ns : List Int) : preSum (fun i => ns.getD i 0) ns.length = ns.sum := by
  have aux : ∀ (k : Nat), k ≤ ns.length → preSum (fun i => ns.getD i 0) k = (ns.take k).sum := by
    intro k
    induction k with
    | zero => intro _; rfl
    | succ k ih =>
      intro hk
      rw [List.take_succ, List.sum_append, ← ih (by omega), List.getElem?_eq_getElem (by omega : k < ns.length)]
      show preSum _ k + ns.getD k 0 = _
      rw [List.getD_eq_getElem?_getD, List.getElem?_eq_getElem (by omega : k < ns.length)]
      simp
  rw [aux _ (Nat.le_refl _), List.take_length]
theorem cr_ndsum (hc : X.calm = true) : CallR X (.builtin "sum") (rNdSum X.w) := by
  intro pins s σ H vs us Q I rx h
  obtain ⟨p, d, kvs, ns, rfl, hp, hd, hns, q⟩ := h
  rw [Vals.ref1 rx]
  obtain ⟨xs, es, ep, em, N⟩ := nd_raw I hd
  have hv : s.heap.get? p = some (DSub.viewOb "dict_values" d) := (show ObjOk X.prog X.w H s.heap p (viewO "dict_values" p d) from I.hok p _ hp).1
  have hx : xs.map (fun x => x.2.2) = ns.map V.int := by
    rw [← hns, ← em, List.map_map]
    rfl
  have hl : xs.length = ns.length := by simpa using congrArg List.length hx
  have hdl : d < s.heap.objs.size := by
    obtain ⟨_, e, _⟩ := N.raw
    exact Heap.lt_size e
  refine call_sum_walkG ?_
  refine wpAny_pyIter_values_raw (d := d) (es := es) (ep := ep) ⟨_, hv, rfl, rfl⟩ N.raw ?_
  refine ⟨s.heap.objs.size, [s.heap.objs.size, d], [s.heap.objs.size], es.size, _, _, fun i => ns.getD i 0, rfl, (Walks.rawValues (prog := X.prog) (w := X.w) (A := X.A.in1) (I.ok.hd hc) s.heap.objs.size d (Nat.ne_of_lt hdl) es ep).mono_item (P' := fun i v => ∃ t, v = .int (ns.getD i 0) t) fun i v _ ⟨hi, e⟩ => ?_, ⟨⟨_, Heap.get?_push_size _ rfl, rfl, rfl⟩, N.raw.at fun _ z => Heap.get?_push_of_some _ z⟩, fun b hb => ?_, fun i v z => z, fun h' tk t' hk => ?_⟩
  · subst e
    have hi2 : i < xs.length := by
      rw [← N.size]
      exact hi
    have hi3 : i < ns.length := by omega
    obtain ⟨_, _, rv⟩ := N.ent (List.getElem?_eq_getElem hi2)
    have z : (xs.map (fun x => x.2.2))[i]? = (ns.map V.int)[i]? := by rw [hx]
    rw [List.getElem?_map, List.getElem?_map, List.getElem?_eq_getElem hi2, List.getElem?_eq_getElem hi3] at z
    have z2 : xs[i].2.2 = V.int ns[i] := Option.some.inj z
    rw [z2] at rv
    rw [List.getD_eq_getElem?_getD, List.getElem?_eq_getElem hi3]
    exact rv
  · show b < (s.heap.push _).objs.size
    rw [Heap.size_push]
    rcases List.mem_cons.mp hb with z | z
    · rw [z]
      exact Nat.lt_succ_self _
    · rw [List.mem_singleton.mp z]
      exact Nat.lt_succ_of_lt hdl
  · have e : preSum (fun i => ns.getD i 0) es.size = ns.sum := by
      rw [N.size, hl]
      exact preSum_list ns
    rw [e]
    have hk2 : ∀ b o, s.heap.get? b = some o → h'.get? b = some o := fun b o e => hk b o (fun z => by rw [List.mem_singleton.mp z] at e; exact absurd (Heap.lt_size e) (Nat.lt_irrefl _)) (Heap.get?_push_of_some _ e)
    exact ⟨.int _, H, I.kept (t' := tk) hk2, ⟨t', rfl⟩, q⟩
end
end Dy
end
section
set_option Elab.async false
set_option linter.all false
set_option maxRecDepth 100000
set_option maxHeartbeats 4000000
/-! Small rules that the layer lacks. -/
namespace Dy
open PySem PySem.Spec PyProof.Rows L2
/-! ### sum of a tuple -/
theorem preSumL (ns : List Int) : preSum (fun i => ns.getD i 0) ns.length = ns.sum := by
  have aux : ∀ (k : Nat), k ≤ ns.length → preSum (fun i => ns.getD i 0) k = (ns.take k).sum := by
    intro k
    induction k with
    | zero => intro _; rfl
    | succ k ih =>
      intro hk
      have hk2 : k < ns.length := by omega
      rw [List.take_add_one, List.sum_append, ← ih (by omega), List.getElem?_eq_getElem hk2]
      show preSum _ k + ns.getD k 0 = _
      rw [List.getD_eq_getElem?_getD, List.getElem?_eq_getElem hk2]
      simp
  rw [aux _ (Nat.le_refl _), List.take_length]
section
variable {X : Cx}
def rSumT (K : PySem.W.Frag) : List V → Hp → VK → Prop := fun vs H Q => ∃ (a : Addr) (ns : List Int), vs = [V.ref a] ∧ SqT K H a (ns.map V.int) ∧ Q (.int ns.sum) H
theorem cr_sumT (hc : X.calm = true) : CallR X (.builtin "sum") (rSumT X.K) := by
  intro pins s σ H vs us Q I r h
  obtain ⟨a, ns, rfl, hs, q⟩ := h
  obtain ⟨its, rv, hl, _⟩ := I.tuple hs
  have hi : IntsAre its ns := ints_of_vals rv
  have hlen : its.length = ns.length := IntsAre.length hi
  rw [Vals.ref1 r]
  have hlt : a < s.heap.objs.size := by
    obtain ⟨_, e, _⟩ := hl
    exact Heap.lt_size e
  refine call_sum_walkG (wpAny_pyIter_tuple hl ?_)
  refine ⟨s.heap.objs.size, [s.heap.objs.size, a], [s.heap.objs.size], its.toArray.size, _, _, fun i => ns.getD i 0, rfl, Walks.tuple (A := X.A.in1) (I.ok.hd hc) s.heap.objs.size a (Nat.ne_of_lt hlt) its.toArray, ⟨⟨_, Heap.get?_push_size _ rfl, rfl, rfl⟩, hl.push _⟩, fun b hb => ?_, fun i v hv => ?_, fun h' tk t' hk => ?_⟩
  · show b < (s.heap.push _).objs.size
    rw [Heap.size_push]
    rcases List.mem_cons.mp hb with z | z
    · rw [z]
      exact Nat.lt_succ_self _
    · rw [List.mem_singleton.mp z]
      exact Nat.lt_succ_of_lt hlt
  · exact PyProof.Rows.IntsAre.int_at hi i v (by simpa using hv)
  · have e : preSum (fun i => ns.getD i 0) its.toArray.size = ns.sum := by
      rw [List.size_toArray, hlen]
      exact preSumL ns
    rw [e]
    have hk2 : ∀ b o, s.heap.get? b = some o → h'.get? b = some o := fun b o e => hk b o (fun z => by rw [List.mem_singleton.mp z] at e; exact absurd (Heap.lt_size e) (Nat.lt_irrefl _)) (Heap.get?_push_of_some _ e)
    exact ⟨.int _, H, I.kept (t' := tk) hk2, ⟨t', rfl⟩, q⟩
end
/-! ### enumerate of a tuple -/
theorem enum_newT (l : Addr) (items : Array Value) (n : Nat) (dct : Option Addr) (sl : Array (Option Value)) :
    Meets (Builtin.«enumerate.__new__» ⟨[.type "enumerate", .ref l], []⟩) (fun _ R s => s.heap.get? l = some { cls := .type "tuple", dict := dct, data := .seq items n, slots := sl } ∧
      R (.ok (.ret (.ref (s.heap.push { cls := .type "tuple_iterator", data := .fields #[.ref l, .int 0 0] }).objs.size)))
        { s with heap := (s.heap.push { cls := .type "tuple_iterator", data := .fields #[.ref l, .int 0 0] }).push { cls := .type "enumerate", data := .fields #[.none, .bool false, .ref s.heap.objs.size, rawInt 0, .none, .none] } }) :=
  .of_wp fun prog w A R s hyp => by
    obtain ⟨hp, g, d, tk, os⟩ := s
    obtain ⟨hl, hyp⟩ := hyp
    have subE := sub_enumerate
    have tupL : Heap.IsTuple (Shared.heap ⟨hp, g, d, tk, os⟩) l items := ⟨_, hl, rfl, n, rfl⟩
    wp_walk using AutoSeq1.wpAny_loadPart' hl
    refine wpAny_stack_any fun st => wpAny_pure ?_
    split
    · rename_i c _ _ _ _ _
      cases (c == Value.type "enumerate") <;> (wp_walk using AutoSeq1.wpAny_loadPart' hl, wpAny_pyIter_tuple tupL; exact ⟨_, rfl, hyp⟩)
    · wp_walk using AutoSeq1.wpAny_loadPart' hl, wpAny_pyIter_tuple tupL
      exact ⟨_, rfl, hyp⟩
section
variable {prog : Program} {w : World} {A : Around} {E : Value → Shared → Prop} {s : Shared}
theorem call_enumT {l : Addr} {items : Array Value} {Q : Value → Shared → Prop} (hT : s.heap.IsTuple l items)
    (h : ∀ h', IsEnum h' (s.heap.objs.size + 1) s.heap.objs.size 0 .none → h'.IsTupleIter s.heap.objs.size l 0 → h'.IsTuple l items → h'.objs.size = s.heap.objs.size + 2 →
      (∀ b o, s.heap.get? b = some o → h'.get? b = some o) → Q (.ref (s.heap.objs.size + 1)) { s with heap := h' }) :
    wpAny (model prog w) A (call (.type "enumerate") [.ref l]) Q E s := by
  have hT0 := hT
  obtain ⟨⟨c, dct, dt, sl⟩, hl, hc, n, hd⟩ := hT
  simp only at hc hd
  subst hc hd
  refine callType_new F.called_enumerate (by decide) (F.typeCall_enumerate_1 _) (F.newCall_enumerate_1 _) (fun obj => F.args_object_init_2 obj _) F.entry_enumerate_new (enum_newT l items n dct sl) ⟨hl, ?_⟩
  have hz : (s.heap.push { cls := .type "tuple_iterator", data := .fields #[.ref l, .int 0 0] }).objs.size = s.heap.objs.size + 1 := Heap.size_push ..
  have he : IsEnum ((s.heap.push { cls := .type "tuple_iterator", data := .fields #[.ref l, .int 0 0] }).push { cls := .type "enumerate", data := .fields #[.none, .bool false, .ref s.heap.objs.size, rawInt 0, .none, .none] }) (s.heap.objs.size + 1) s.heap.objs.size 0 .none := by
    have q := Heap.get?_push_size (s.heap.push { cls := .type "tuple_iterator", data := .fields #[.ref l, .int 0 0] }) (o := { cls := .type "enumerate", data := .fields #[.none, .bool false, .ref s.heap.objs.size, rawInt 0, .none, .none] }) rfl
    rw [hz] at q
    exact q
  show _ ∧ _
  rw [hz]
  have kp : ∀ b o, s.heap.get? b = some o → ((s.heap.push { cls := .type "tuple_iterator", data := .fields #[.ref l, .int 0 0] }).push { cls := .type "enumerate", data := .fields #[.none, .bool false, .ref s.heap.objs.size, rawInt 0, .none, .none] }).get? b = some o := fun b o x => Heap.get?_push_of_some _ (Heap.get?_push_of_some _ x)
  exact ⟨⟨_, he, rfl⟩, h _ he ⟨_, Heap.get?_push_of_some _ (Heap.get?_push_size _ rfl), rfl, rfl⟩ ⟨_, kp _ _ hl, rfl, n, rfl⟩ (by rw [Heap.size_push, hz]) kp⟩
end
/-- the pairs of enumerate of the tuple at a -/
def EnIt (K : PySem.W.Frag) (a : Addr) (xs : List V) : It := ⟨fun i H => SqT K H a xs ∧ i < xs.length, fun i H v H' => ∃ T x, v = .ref T ∧ H T = none ∧ H' = upd H T (.tup [.int (i : Nat), x]) ∧ xs[i]? = some x, fun i H => SqT K H a xs ∧ xs.length ≤ i⟩
theorem turn_enT {P : Program} {w : World} {K : PySem.W.Frag} {elts : List Expr} {kk : Nat} {tpos : Pos} {xs : List V} (a e it : Addr) (hne : e ≠ it) (hea : e ≠ a) (hai : a ≠ it) :
    Turn P w K (.Tuple elts kk tpos) (EnIt K a xs) [e, it] e (fun i h => (∃ old, IsEnum h e it ((i : Nat) : Int) old) ∧ h.IsTupleIter it a i) where
  mem := by simp
  obj := fun i h st b hb => by
    obtain ⟨⟨old, he⟩, ⟨o, ho, hc, hd⟩⟩ := st
    rcases (show b = e ∨ b = it by simpa using hb) with z | z
    · rw [z]
      exact ⟨_, he, fun v q => (nomatch q)⟩
    · rw [z]
      exact ⟨o, ho, fun v q => by rw [hd] at q; cases q⟩
  keep := fun i h h' st k => let ⟨⟨old, he⟩, hi⟩ := st; ⟨⟨old, k e (by simp) _ he⟩, hi.at fun o q => k it (by simp) o q⟩
  item := by
    intro X hP hw hK hcm i pins s σ H E I hf st hg
    subst hP hw hK
    obtain ⟨⟨old, he⟩, hit⟩ := st
    obtain ⟨hq, hlt⟩ := hg
    obtain ⟨its, rv, pt, hz⟩ := I.tuple hq
    have hll : its.length = xs.length := rv.length.symm
    have hel : e < s.heap.objs.size := Heap.lt_size he
    have hil : it < s.heap.objs.size := by obtain ⟨_, q, _⟩ := hit; exact Heap.lt_size q
    refine wpAny_pyNext_enum_itemD (Draws.tuple (A := X.A.in1) (I.ok.hd hcm) it a hai its.toArray) he ⟨hit, pt⟩ (by simp; omega) hne (by simp; exact ⟨hne, hea⟩) fun u h' tk hu ho hst' hT hsz hk => ?_
    obtain ⟨hit', pt'⟩ := hst'
    refine ⟨_, rfl, wpAny_letOwnedTupleGo_enum (s := { s with heap := h', toks := tk + 1 }) ho fun h'' he' sb => ?_⟩
    have hu2 : its[i]? = some u := by simpa using hu
    obtain ⟨x, hx⟩ : ∃ x, xs[i]? = some x := ⟨xs[i], List.getElem?_eq_getElem hlt⟩
    have ru : RelV x u := by
      obtain ⟨u', e', r⟩ := rv.get hx
      rw [hu2] at e'
      cases e'
      exact r
    have hT2 : h''.get? s.heap.objs.size = some { cls := .type "tuple", data := .seq #[.int i tk, u] } := (sb.2 _ (Nat.ne_of_gt hel)).trans hT
    have new : ObjOk X.prog X.w (upd H s.heap.objs.size (.tup [.int (i : Nat), x])) h'' s.heap.objs.size (.tup [.int (i : Nat), x]) :=
      ⟨by show 2 ≤ sizeLine; decide, [.int i tk, u], .cons ⟨_, rfl⟩ (.cons ru .nil), ⟨_, hT2, rfl, _, rfl⟩⟩
    have I1 : Inv X pins σ (upd H s.heap.objs.size (.tup [.int (i : Nat), x])) { s with heap := h'', toks := tk + 1 } :=
      I.turnedNew (ch := [e, it]) (fun b ob hb q => (sb.2 b (fun z => hb (by simp [z]))).trans (hk b ob (fun z => hb (by simp [z])) (fun z => hb (by simp [z])) q)) hf (Nat.le_refl _) new
    refine ⟨.ref s.heap.objs.size, _, I1, rfl, ⟨_, x, rfl, I.hok.fresh (Nat.le_refl _), rfl, hx⟩, ⟨⟨u, ?_⟩, hit'.at fun o q => (sb.2 it (Ne.symm hne)).trans q⟩, fun b hb => ?_⟩
    · rw [show ((i + 1 : Nat) : Int) = (i : Int) + 1 by omega]
      exact he'
    · have hb' : b < s.heap.objs.size := by
        rcases (show b = e ∨ b = it by simpa using hb) with z | z
        · rw [z]
          exact hel
        · rw [z]
          exact hil
      rw [upd_ne (Nat.ne_of_lt hb')]
      exact (hf b hb).1
  done := by
    intro X hP hw hK hcm i pins s σ H E I hf st hg
    subst hP hw hK
    obtain ⟨⟨old, he⟩, hit⟩ := st
    obtain ⟨hq, hge⟩ := hg
    obtain ⟨its, rv, pt, hz⟩ := I.tuple hq
    have hll : its.length = xs.length := rv.length.symm
    obtain ⟨f0, f1, f2, f3, f4, f5⟩ := hf it (by simp)
    have hT : s.TypeIs (.ref e) "enumerate" := ⟨_, he, rfl⟩
    unfold pyNext
    refine wpAny_bind (wpAny_attempt (wpAny_callSpecial?_slot (name := Str.ofString "__next__") hT F.slot_enumerate_next (wpAny_call_entry F.slot_enumerate_next hT F.entry_enumerate_next ?_ (F.args_enumerate_next_1 _))))
    show wpAny _ _ (field (.ref e) 2 >>= _) _ _ _
    refine wpAny_bind (wpAny_field he rfl (x := .ref it) rfl ?_)
    refine wpAny_bind (wpAny_nextOf_tuple_end (A := X.A.in1) (I.ok.hd hcm) hit pt (by simp; omega) fun h' x he2 hx => ?_)
    obtain ⟨o, ho, hcl⟩ := hx
    refine wpAny_bind (wpAny_isInstance (T := "StopIteration") (b := true) ⟨o, ho, hcl⟩ isSubtype_stop ?_)
    exact wpAny_pure ⟨rfl, I.turned (t' := s.toks) (fun b ob hb q => he2 b ob hb q) f0 f1 f3 f4 f5⟩
  self := fun A i s Q E st h => let ⟨⟨_, he⟩, _⟩ := st; wpAny_pyIter_enum he h
/-- for i, x in enumerate(t) -/
def iEnT (K : PySem.W.Frag) (ta : TA) : TI := fun σ H R => ta σ H fun vs H1 => ∃ a xs, vs = [.ref a] ∧ SqT K H1 a xs ∧ R (EnIt K a xs) H1
theorem pi_enT {X : Cx} {e : Expr} {ta : TA} {p pos tpos : Pos} {elts : List Expr} {kk : Nat} (hg : Gl X "enumerate") (hm : X.mg "enumerate" = none) (ha : PA X [e] ta) (hs : starEach [e] X.env = [(false, eval e X.env)] := by rfl) :
    PI X (.Tuple elts kk tpos) (.Call (.Name "enumerate" p) [e] [] pos) (iEnT X.K ta) := by
  refine ⟨fun pins s σ H R I h => ?_⟩
  refine Call_ (ld_blt I hg hm boot_enumerate (PyProof.Rows.callWith_type1 (thn (ha.run pos pins s σ H _ I h) fun us s1 ⟨vs, H1, I1, r1, q1⟩ => ?_) hs rfl))
  obtain ⟨a, xs, ex, hq, q⟩ := q1
  subst ex
  rw [Vals.ref1 r1]
  obtain ⟨its, rv, p', hz⟩ := I1.tuple hq
  have hal : a < s1.heap.objs.size := by
    obtain ⟨_, z, _⟩ := p'
    exact Heap.lt_size z
  refine call_enumT p' fun h' he hit ht' hsz hk => wpAny_pyIter_enum he ?_
  have I2 : Inv X pins σ H1 { s1 with heap := h' } := I1.kept (t' := s1.toks) hk
  refine ⟨s1.heap.objs.size + 1, [s1.heap.objs.size + 1, s1.heap.objs.size], _, _, H1, rfl, I2, turn_enT a (s1.heap.objs.size + 1) s1.heap.objs.size (Nat.succ_ne_self _) (Nat.ne_of_gt (Nat.lt_succ_of_lt hal)) (Nat.ne_of_lt hal), ⟨⟨.none, he⟩, hit⟩, fun b hb => ?_, q⟩
  have hle : s1.heap.objs.size ≤ b := by
    rcases (show b = s1.heap.objs.size + 1 ∨ b = s1.heap.objs.size by simpa using hb) with z | z
    · rw [z]
      exact Nat.le_add_right _ _
    · rw [z]
      exact Nat.le_refl _
  exact I1.fpOk hle (I1.hok.fresh hle)
/-! ### tuple * k, k = 1 too -/
theorem tuple_mul1 (l : Addr) (items : Array Value) (n : Nat) (dd : Option Addr) (sl : Array (Option Value)) (u : Tok) :
    Meets (Builtin.«tuple.__mul__» ⟨[.ref l, .int 1 u], []⟩) (fun _ R s => s.heap.get? l = some { cls := .type "tuple", dict := dd, data := .seq items n, slots := sl } ∧ R (.ok (.ret (Value.ref l))) s) :=
  .of_wp fun prog w A R s h => by
    obtain ⟨hp, g, d, tk, os⟩ := s
    obtain ⟨hl, h⟩ := h
    have f1 := AutoSeq1.idx_int
    wp_walk using AutoSeq1.wpAny_loadPart' hl
    repeat (first
      | (refine wpAny_ite_false (by decide) ?_; wp_walk using AutoSeq1.wpAny_loadPart' hl)
      | (refine wpAny_ite_true (by simp) ?_; wp_walk using AutoSeq1.wpAny_loadPart' hl))
    exact ⟨_, rfl, h⟩
/-- tuple * k, of a tuple that holds something -/
def rRepA (K : PySem.W.Frag) : R2 := fun x y H Q => ∃ l k xs, x = .ref l ∧ y = .int k ∧ SqT K H l xs ∧ xs ≠ [] ∧ 1 ≤ k ∧ k ≤ 1000 ∧ xs.length ≤ 1000 ∧ (k = 1 → Q (.ref l) H) ∧ (k ≠ 1 → ∀ p, H p = none → Q (.ref p) (upd H p (.tup (List.replicate k.toNat xs).flatten)))
theorem op_repA {X : Cx} : OpR X (binaryOp .Mult) (rRepA X.K) := by
  intro pins s σ H x y v u Q I rx ry h
  obtain ⟨l, k, xs, rfl, rfl, hT, hne, h1, h2, hz, q1, q2⟩ := h
  by_cases hk : k = 1
  · subst hk
    cases rx
    obtain ⟨t, rfl⟩ := ry
    obtain ⟨its, r, ⟨⟨cls, dd, data, sl⟩, ho, hc, n, hd⟩, hs⟩ := I.tuple hT
    simp only at hc hd
    subst hc hd
    refine wpAny_binaryOp_repeat_ref (T := "tuple") (U := "int") (by decide) ⟨_, ho, rfl⟩ (fun s' => typeIs_int s' 1 t) noFill_tuple_mul F.fills_int_mul F.slot_int_rmul repeat_tuple F.slot_int_index.lookup
      (call_meets F.slot_int_rmul (typeIs_int s 1 t) F.entry_int_rmul (F.args_int_rmul_2 _ _) (int_rmul_tuple 1 t l its.toArray n dd sl)
        ⟨ho, rfl, ⟨_, ho, rfl⟩, call_meets F.slot_tuple_mul ⟨_, ho, rfl⟩ F.entry_tuple_mul (F.args_tuple_mul_2 _ _) (tuple_mul1 l its.toArray n dd sl t) ⟨ho, .ref l, H, I, rfl, q1 rfl⟩⟩)
  · exact op_repT pins s σ H _ _ v u Q I rx ry ⟨l, k, xs, rfl, rfl, hT, hne, by omega, h2, hz, q2 hk⟩
/-! ### an own exception without arguments -/
theorem pmk_own0 {X : Cx} {C : Addr} {bmB : List Value} {B newId initId : String} {x : Str} {p pos : Pos} (F : ExcBaseFacts B newId initId bmB) (q : PySem.W.excIn X.K C bmB newId = true) (gC : X.mg x = some (.ref C)) (kC : PySem.W.keepIn X.K (.ref C) = true) (r : Raises X (.ref C)) (hg : Gl X x)
    (hdb : (x == ("__debug__" : Str)) = false := by decide) : PMk X (.Call (.Name x p) [] [] pos) (fun _ H Q => Q (.ref C) none H) := by
  intro pins s σ H Q I h
  refine wpAny_Call_Name_kw (ld_glob I hg gC ?_ hdb)
  refine PySem.W.callWith_K0 (first := []) I.kIn kC ?_
  show wpAny _ _ (call (.ref C) []) _ _ _
  obtain ⟨bm, N, nm, qn, bs, hdct, sn, sub, ab, col, dd, k0, k1, k2, k3, k5, mN, hC, hN, hni, T⟩ := exc_obj I.kIn q
  refine wpAny_call_exc_subT F T hC hN hni (fun h' e hm => ?_) (Nat.zero_le _)
  exact mk_of I hm r h (I.hok.gone hm.new)
end Dy
end
section
set_option Elab.async false
set_option linter.all false
set_option maxRecDepth 100000
set_option maxHeartbeats 4000000
/-! set(xs), xs a tuple or a list of ints. -/
namespace Dy
open PySem PySem.Spec PyProof.Rows L2
abbrev setNew (w : World) : Obj := { cls := .type "set", dict := none, data := .set #[] 0 (.fresh 0 0 (!w.params.followText "set-order")) }
theorem sub_list_setD : isSubtype (.type "list") (.type "set") = pure false := by
  rw [isSubtype_type]
  kernel_rfl
theorem sub_list_frozensetD : isSubtype (.type "list") (.type "frozenset") = pure false := by
  rw [isSubtype_type]
  kernel_rfl
section
variable {P : Program} {w : World} {A : Around} {E : Value → Shared → Prop} {s : Shared}
theorem set_ofL {l : Addr} {xs : Array Value} (ns : List Int) {Q : Value → Shared → Prop} (calm : A.handled = none) (isL : s.heap.IsList l xs) (hit : IntsAre xs.toList ns) (few : ns.length + 1 < scanBound)
    (hQ : ∀ (h' : Heap) (tk c : Nat), SetR w h' s.heap.objs.size (fun j => decide (j ∈ ns)) c → c ≤ ns.length → (∀ b o, s.heap.get? b = some o → h'.get? b = some o) → Q (.ref s.heap.objs.size) { s with heap := h', toks := tk }) :
    wpAny (model P w) A (call (.type "set") [.ref l]) Q E s := by
  have size : xs.size = ns.length := by simpa using IntsAre.length hit
  have hQ2 := hQ
  clear hQ
  obtain ⟨c, tl, hmro⟩ := F.called_set.mro
  have f1 := F.called_set.made; have f2 := F.called_set.sub
  refine wpAny_call (codeAny_of_tree ?_)
  show wpAny _ _ (callAny (.type "set") _) _ _ _
  refine wpAny_pure ⟨Code.quiet_builtin _ (by decide +kernel), codeAny_builtin F.entry_type_call ?_⟩
  rw [Around.under_plain (weight_type_call_type "set" [.ref l] []) rfl]
  have f3 := F.called_set.notType; have f4 := F.called_set.canCreate; have f5 := F.typeCall_set_1 (.ref l)
  repeat (any_goals (first | assumption | wp_step))
  refine codeAny_mono (code_set_led1 (.ref l) (E := E) (Q₁ := fun ob s1 => ob = .ref s.heap.objs.size ∧ s1 = { s with heap := s.heap.push (setNew w) }) ⟨rfl, rfl⟩) fun r s1 hr => ?_
  cases r with
  | error e => exact hr
  | ok fl =>
    cases fl with
    | ret ob =>
      obtain ⟨rfl, rfl⟩ := hr
      have at0 : (s.heap.push (setNew w)).get? s.heap.objs.size = some (setNew w) := Heap.get?_push_size _ rfl
      have ty0 : Shared.TypeIs { s with heap := s.heap.push (setNew w) } (.ref s.heap.objs.size) "set" := ⟨_, at0, rfl⟩
      have f6 := F.called_set.init.lookup; have f7 := F.called_set.init.bind (.ref s.heap.objs.size)
      repeat (any_goals (first | assumption | wp_step))
      refine codeAny_mono (codeAny_call_builtin (R := wants (fun r s₂ => r = .none ∧ ∃ h' tk c, s₂ = { s with heap := h', toks := tk } ∧ SetR w h' s.heap.objs.size (fun j => decide (j ∈ ns)) c ∧ c ≤ ns.length ∧ (∀ b o, s.heap.get? b = some o → h'.get? b = some o)) E) F.called_set.init.plain F.entry_set_init (check_set_init_1 ty0 ?_)) fun r2 s2 hr2 => ?_
      · obtain ⟨⟨ocls, odict, odata, oslots⟩, eo, ec, nl, ed⟩ := isL
        simp only at ec ed
        subst ec; subst ed
        have at1 : (s.heap.push (setNew w)).get? l = some { cls := .type "list", dict := odict, data := .seq xs nl, slots := oslots } := Heap.get?_push_of_some _ eo
        have f8 := sub_list_setD; have f9 := sub_list_frozensetD
        have f10 : (Value.type "list" == Value.type "dict") = false := by decide
        have isL1 : (s.heap.push (setNew w)).IsList l xs := ⟨_, at1, rfl, nl, rfl⟩
        unfold Builtin.«set.__init__» noKeywords Builtin.Frozenset.updateFrom
        generalize hPI : pyIter = PI
        wp_walk
        subst hPI
        refine wpAny_pyIter_list isL1 (wpAny_bind (wpAny_runValue ?_))
        have ltL : l < s.heap.objs.size := Heap.lt_size eo
        have calm3 : A.in1.in1.in1.handled = none := by simp [calm]
        have sz1 : (s.heap.push (setNew w)).objs.size = s.heap.objs.size + 1 := Heap.size_push ..
        have neI : l ≠ (s.heap.push (setNew w)).objs.size := by
          rw [sz1]
          exact Nat.ne_of_lt (Nat.lt_succ_of_lt ltL)
        have out : s.heap.objs.size ∉ [(s.heap.push (setNew w)).objs.size, l] := by
          rw [sz1]
          simp only [List.mem_cons, List.not_mem_nil, or_false, not_or]
          exact ⟨Nat.ne_of_lt (Nat.lt_succ_self _), Nat.ne_of_gt ltL⟩
        have whole : ∀ (i : Nat) (v : Value), xs[i]? = some v → ∃ k t, ns[i]? = some k ∧ v = .int k t := fun i v hv => by
          have hi : i < ns.length := size ▸ (Array.getElem?_eq_some_iff.mp hv).1
          obtain ⟨t, e⟩ := PyProof.Rows.IntsAre.int_at hit i v (by rw [Array.getElem?_toList]; exact hv)
          exact ⟨ns[i], t, List.getElem?_eq_getElem hi, by rw [e, List.getD_eq_getElem?_getD, List.getElem?_eq_getElem hi]; rfl⟩
        refine set_update_ints ((Walks.list calm3 _ l neI xs).toS) s.heap.objs.size out ns size few whole (xs.size - 0) 0 _ (by omega) (Nat.zero_le _) ⟨⟨_, Heap.get?_push_size _ rfl, rfl, rfl⟩, (isL1.push _)⟩ ⟨0, Nat.le_refl 0, ?_⟩ ?_
        · exact setR_new_at (Heap.get?_push_of_some _ at0)
        · intro s' c' hm hc' hS'
          obtain ⟨h', g2, d', tk', os'⟩ := s'
          obtain rfl : g2 = s.gens := hm.gens
          obtain rfl : d' = s.drawn := hm.drawn
          obtain rfl : os' = s.os := hm.os
          show wpAny _ _ _ _ _ _
          refine wpAny_pure ?_
          show wpAny _ _ (ret Value.none) _ _ _
          rw [size] at hc'
          refine wpAny_pure ⟨rfl, h', tk', c', rfl, hS', hc', fun b o e => ?_⟩
          have lt0 : b < s.heap.objs.size := Heap.lt_size e
          exact hm.heap b o (by rw [sz1]; simp only [List.mem_cons, List.not_mem_nil, or_false, not_or]; exact ⟨Nat.ne_of_lt lt0, Nat.ne_of_lt (Nat.lt_succ_of_lt lt0)⟩) (Heap.get?_push_of_some _ (Heap.get?_push_of_some _ e))
      · cases r2 with
        | error e => exact hr2
        | ok fl2 =>
          cases fl2 with
          | ret r =>
            obtain ⟨rfl, h', tk, c', rfl, hS', hc', hk'⟩ := hr2
            repeat (any_goals (first | assumption | wp_step))
            exact hQ2 _ _ _ hS' hc' hk'
          | _ => exact hr2.elim
    | _ => exact hr.elim
end
section
variable {X : Cx}
/-- set(xs) -/
def rSetI (K : PySem.W.Frag) (w : World) : List V → Hp → VK → Prop := fun vs H Q => ∃ (p : Addr) (ns : List Int), vs = [.ref p] ∧ (SqT K H p (ns.map V.int) ∨ SqL K H p (ns.map V.int)) ∧ ns.length ≤ 1000 ∧
  ∀ (a : Addr) (c : Nat), H a = none → c ≤ ns.length → Q (.ref a) (upd H a (SetO w a (fun j => decide (j ∈ ns)) c))
theorem cr_setI (hc : X.calm = true) : CallR X (.type "set") (rSetI X.K X.w) := by
  intro pins s σ H vs us Q I r h
  obtain ⟨p, ns, rfl, hs, hl, q⟩ := h
  rw [Vals.ref1 r]
  have few : ns.length + 1 < scanBound := by unfold scanBound; omega
  have fin : ∀ (h' : Heap) (tk c : Nat), SetR X.w h' s.heap.objs.size (fun j => decide (j ∈ ns)) c → c ≤ ns.length → (∀ b o, s.heap.get? b = some o → h'.get? b = some o) → EP X pins σ Q (.ref s.heap.objs.size) { s with heap := h', toks := tk } := fun h' tk c R hcn k =>
    ⟨.ref s.heap.objs.size, _, I.laid (t' := tk) (fun b o e => k b o e) (Nat.le_refl _) (setO_new R), rfl, q _ c (I.hok.fresh (Nat.le_refl _)) hcn⟩
  rcases hs with hs | hs
  · obtain ⟨its, rv, pt, _⟩ := I.tuple hs
    exact call_set_tupI ns (I.ok.hd hc) (show s.heap.IsTuple p its.toArray from pt) (ints_of_vals rv) few fin
  · obtain ⟨its, rv, pt, _⟩ := I.list hs
    exact set_ofL ns (I.ok.hd hc) pt.isList rv.ints few fin
end
end Dy
end
section
set_option Elab.async false
set_option linter.all false
set_option maxRecDepth 100000
set_option maxHeartbeats 4000000
/-! A lambda handed to a def that calls it in a try with three clauses. -/
namespace Dy
open PySem PySem.Spec PyProof.Rows L2 LamX
/-- H' behind H, the table at B may have grown -/
structure Gq (B : Addr) (M : List Addr) (H H' : Hp) : Prop where
  keep : ∀ b o, b ∉ M → H b = some o → (∀ ps, o ≠ .tbl ps) → H' b = some o
  tups : ∀ b xs, H b = some (.tup xs) → H' b = some (.tup xs)
  tabs : ∀ k Q, TabK B k H Q → TabK B k H' Q
  dom : ∀ b, H' b = none → H b = none
section
variable {B : Addr} {M : List Addr} {H H1 H2 : Hp} {q : Str}
theorem Gw.gq (g : Gw B M H H1) : Gq B M H H1 := ⟨g.keep, g.tups, g.tabs, g.dom⟩
theorem Gq.refl (B : Addr) (M : List Addr) (H : Hp) : Gq B M H H := (Gw.refl B M H).gq
theorem Gq.trans (a : Gq B M H H1) (b : Gq B M H1 H2) : Gq B M H H2 :=
  ⟨fun c o n e t => b.keep c o n (a.keep c o n e t) t, fun c xs e => b.tups c xs (a.tups c xs e), fun k Q e => b.tabs k Q (a.tabs k Q e), fun c e => a.dom c (b.dom c e)⟩
theorem Gq.weak {M' : List Addr} (g : Gq B M H H1) (h : ∀ b ∈ M, b ∈ M' ∨ H b = none) : Gq B M' H H1 :=
  ⟨fun b o n e t => g.keep b o (fun z => (h b z).elim n fun q => by rw [q] at e; cases e) e t, g.tups, g.tabs, g.dom⟩
theorem LamT.mono (t : LamT B q H) (g : Gw B M H H1) (hM : ∀ b ∈ M, ∀ o, H b ≠ some (CdF o)) : LamT B q H1 := by
  obtain ⟨ps, h1, h2, h3⟩ := t
  refine ⟨ps, g.lam _ h1, h2, fun pos cv hc => ?_⟩
  obtain ⟨c, o, e1, e2, e3⟩ := h3 pos cv hc
  exact ⟨c, o, e1, g.keep c _ (fun z => hM c z o e2) e2 (fun _ z => by cases z), e3⟩
theorem LamT.nil (h : H B = some (.tbl #[])) : LamT B q H := ⟨#[], h, True.intro, fun pos cv hc => by
  have z : codeAmong pos [] = some cv := hc
  simp [codeAmong] at z⟩
end
section
variable {X : Cx} {pins : List (Addr × Obj)} {σ : L2.St} {H HZ : Hp} {s s1 : Shared}
/-- the table at P is written, the code object at c is new and known whole from now on -/
theorem inv_lam {P c : Addr} {ps more : Array Value} {oc : Obj} {h' : Heap} {t' : Nat} (I : Inv X pins σ H s) (hP : H P = some (.tbl ps)) (k : ∀ b o, b ≠ P → s.heap.get? b = some o → h'.get? b = some o)
    (hm : h'.get? P = some { cls := .none, data := .fields (ps ++ more) }) (hc : s.heap.objs.size ≤ c) (ho : h'.get? c = some oc) :
    Inv X pins σ (upd (upd H P (.tbl (ps ++ more))) c (CdF oc)) { s with heap := h', toks := t' } := by
  have nC : H c = none := I.hok.fresh hc
  have nPc : P ≠ c := ne_of_none hP nC
  have other : ∀ b, b ≠ P → b ≠ c → upd (upd H P (.tbl (ps ++ more))) c (CdF oc) b = H b := fun b h1 h2 => by rw [upd_ne h2, upd_ne h1]
  have atP : upd (upd H P (.tbl (ps ++ more))) c (CdF oc) P = some (.tbl (ps ++ more)) := by rw [upd_ne nPc, upd_same]
  have nP : ∀ b u, H b = some u → (∀ q, u ≠ .tbl q) → b ≠ P := fun b u e q z => by
    subst z
    rw [hP] at e
    exact q ps (Option.some.inj e).symm
  have nN : ∀ b, H b = none → b ≠ P := fun b e z => by
    subst z
    rw [hP] at e
    cases e
  have nS : ∀ b o, s.heap.get? b = some o → b ≠ c := fun b o e => Nat.ne_of_lt (Nat.lt_of_lt_of_le (Heap.lt_size e) hc)
  have sm : ∀ b u, H b = some u → b ≠ c := fun b u e => ne_of_none e nC
  refine I.step (g' := s.gens) (d' := s.drawn) (ch := []) (fun b hb => (nomatch hb)) (fun b o _ _ _ e n => k b o (nN b n) e) (fun b o _ _ _ e n => ⟨o.slots, k b o (nN b n) e⟩)
    (fun b o _ e n => ?_) (fun b o _ e => ?_) (fun b xs e => ?_) (fun b o u e => ?_) (fun b qs e => ?_) (fun m hn => ?_) (fun b u e => ?_) I.bare
  · rw [other b (nN b n) (nS b o e)]
    exact n
  · by_cases hb : b = P
    · subst hb
      exact ⟨_, hm⟩
    · exact ⟨o, k b o hb e⟩
  · rw [other b (nP b _ e (fun q z => by cases z)) (sm b _ e)]
    exact e
  · rw [other b (nP b _ e (fun q z => by cases z)) (sm b _ e)]
    exact e
  · by_cases hb : b = P
    · subst hb
      rw [hP] at e
      cases e
      exact ⟨more, atP⟩
    · exact ⟨#[], by rw [other b hb (sm b _ e), e]; simp⟩
  · obtain ⟨ob, es, ep, eo, r⟩ := hn
    exact ⟨ob, es, ep, k _ ob (nN _ I.free) eo, r⟩
  · by_cases hb : b = c
    · subst hb
      rw [upd_same] at e
      cases e
      exact ⟨ho, trivial, ⟨oc, ho⟩, fun _ _ _ _ => trivial⟩
    · by_cases hb2 : b = P
      · subst hb2
        rw [atP] at e
        cases e
        exact hm
      · rw [other b hb2 hb] at e
        refine (I.hok b u e).stay (fun d v hd q => k d v ?_ q) (fun d q => by rw [other d (nP d _ q (fun q z => by cases z)) (sm d _ q)]; exact q) fun d xs q => by rw [other d (nP d _ q (fun q z => by cases z)) (sm d _ q)]; exact q
        rcases hd with z | z
        · subst z
          exact hb2
        · exact nP d _ z (fun q z => by cases z)
/-- the lambda is made: its code object is new, or found in the table at B -/
theorem lam_made {c B : Addr} {params : Arguments} {body : Expr} {scope : Scope} {pos : Pos} {E : Value → Shared → Prop} {Q : Value → Shared → Prop} (I : Inv X pins σ H s) (TB : TabB X.base X.mg c B) (hcode : X.env.code = .ref c)
    (hT : LamT B (X.env.qual ++ "<lambda>") H) (hdef : defaultsOf params X.env = ([], [])) (hfree : ∀ y ∈ scope.names, y.2 = .free → ∃ c, X.env.cells.lookup y.1 = some c)
    (h : ∀ (f c' : Addr) (o : Obj) (pm ctv : Value) (H1 : Hp) (s' : Shared), Inv X pins σ H1 s' → Gq B [] H H1 → LamT B (X.env.qual ++ "<lambda>") H1 →
      s'.heap.get? f = some (PySem.W.kla_obj "<lambda>" (X.env.qual ++ "<lambda>") params body scope (cloFrom X.env.cells scope.names []) pm c' ctv) → H1 f = none → f ∉ frs X.stack → H1 c' = some (CdF o) → CdN c' o (X.env.qual ++ "<lambda>") → Q (.ref f) s') :
    wpAny (model X.prog X.w) X.A (eval (.Lambda params body scope pos) X.env) Q E s := by
  obtain ⟨ps, hP, ht, ha⟩ := hT
  refine PySem.W.kla_eval hdef ?_
  have bP : s.heap.BuiltinsAt X.mg B := TB.bm.keeps I.bk
  have hP' : s.heap.get? B = some { cls := .none, data := .fields ps } := I.hok B _ hP
  have nofr : ∀ f, s.heap.objs.size ≤ f → f ∉ frs X.stack := fun f hf z => by
    rcases List.mem_cons.mp (I.stkSub _ z) with e | e
    · have h1 := I.lt
      rw [← e] at h1
      exact Nat.lt_irrefl _ (Nat.lt_of_lt_of_le h1 hf)
    · exact I.nofs hf e
  cases hc : codeAmong pos ps.toList with
  | none =>
    refine PySem.W.kla_makeFunction (mg := X.mg) (c := c) (P := B) (ps := ps) (closure_ok hfree) I.ok.glob (I.mod.glob.keeps I.bk) hcode (TB.code.keeps I.bk) hP' ht hc TB.gP bP fun c' ctv h' tk hx hge hlt hrec htb => ?_
    obtain ⟨oc, hoc⟩ : ∃ oc, h'.get? c' = some oc := by
      obtain ⟨c2, oc, vs, t, e2, hoc, _⟩ := hrec
      cases e2
      exact ⟨oc, hoc⟩
    have cn := CdN.of hrec hoc
    have hsz : s.heap.objs.size ≤ h'.objs.size := Nat.le_trans hge (Nat.le_of_lt hlt)
    have nC : H c' = none := I.hok.fresh hge
    have I1 := inv_lam (t' := tk) (more := #[rawInt pos.line, rawInt pos.col, .ref c']) (h' := h'.push (PySem.W.kla_obj "<lambda>" (X.env.qual ++ "<lambda>") params body scope (cloFrom X.env.cells scope.names []) ((X.mg "__name__").getD .none) c' ctv)) I hP
      (fun b o hb e => Heap.get?_push_of_some _ (hx b o hb e)) (Heap.get?_push_of_some _ htb) hge (Heap.get?_push_of_some _ hoc)
    have keep : ∀ b o, H b = some o → (∀ ps, o ≠ .tbl ps) → upd (upd H B (.tbl (ps ++ #[rawInt pos.line, rawInt pos.col, .ref c']))) c' (CdF oc) b = some o := fun b o e n => by
      rw [upd_ne (ne_of_none e nC), upd_ne (fun z => n ps (Option.some.inj (e.symm.trans (by rw [z]; exact hP))))]
      exact e
    have eL : (ps ++ #[rawInt pos.line, rawInt pos.col, .ref c']).toList = ps.toList ++ [rawInt pos.line, rawInt pos.col, .ref c'] := by simp
    refine h h'.objs.size c' oc ((X.mg "__name__").getD .none) ctv _ _ I1 ⟨fun b o _ e n => keep b o e n, fun b xs e => keep b _ e (fun _ z => by cases z), fun k Q x => TabK.mono (fun b qs nb e => ?_) (fun b o e => keep b _ e (fun _ z => by cases z)) k Q x, fun b e => ?_⟩ ⟨_, by rw [upd_ne (ne_of_none hP nC), upd_same], by rw [eL]; exact PySem.TriplesOk_snoc _ _ _ _ ht, fun p' cv hcv => ?_⟩ (Heap.get?_push_size _ rfl) ?_ (nofr _ hsz) upd_same cn
    · rw [upd_ne (ne_of_none e nC), upd_ne nb]
      exact e
    · by_cases hb : b = c'
      · subst hb
        rw [upd_same] at e
        cases e
      · rw [upd_ne hb] at e
        by_cases hb2 : b = B
        · subst hb2
          rw [upd_same] at e
          cases e
        · rw [upd_ne hb2] at e
          exact e
    · rw [eL] at hcv
      rcases LamX.among_app _ ht hcv with z | z
      · obtain ⟨c0, o0, e1, e2, e3⟩ := ha p' cv z
        exact ⟨c0, o0, e1, keep _ _ e2 (fun _ z => by cases z), e3⟩
      · exact ⟨c', oc, z, upd_same, cn⟩
    · rw [upd_ne (Nat.ne_of_gt hlt), upd_ne (Nat.ne_of_gt (Nat.lt_of_lt_of_le (Heap.lt_size hP') hsz))]
      exact I.hok.fresh hsz
  | some cv =>
    obtain ⟨c', o, e, hco, cn⟩ := ha pos cv hc
    subst e
    refine PySem.W.kla_makeFunctionHit (mg := X.mg) (c := c) (P := B) (ps := ps) (closure_ok hfree) I.ok.glob (I.mod.glob.keeps I.bk) hcode (TB.code.keeps I.bk) hP' ht hc bP fun ctv h' tk hx hsz => ?_
    have I1 : Inv X pins σ H { s with heap := h'.push (PySem.W.kla_obj "<lambda>" (X.env.qual ++ "<lambda>") params body scope (cloFrom X.env.cells scope.names []) ((X.mg "__name__").getD .none) c' ctv), toks := tk } := I.kept fun b o e => Heap.get?_push_of_some _ (hx b o e)
    exact h h'.objs.size c' o ((X.mg "__name__").getD .none) ctv H _ I1 (.refl _ _ _) ⟨ps, hP, ht, ha⟩ (Heap.get?_push_size _ rfl) (I.hok.fresh hsz) (nofr _ hsz) hco cn
/-- x(), in the def that got the lambda -/
theorem pe_acts {CXg : CXT} {Eg : XK} {Ng : List Str} {qg : Str} {sg : Scope} {g f c' : Addr} {oc : Obj} {cdg pm ctv : Value} {params : Arguments} {body : Expr} {scope : Scope} {k i : Nat} {a : Str} {pn : List (Addr × Obj)} {xe : Value → Shared → Prop} {W : WX} {E : XK} {tb : TE} {p1 p2 : Pos}
    (I : Inv X pins σ H s) (L : LamS X.env.scope scope) (hf : s.heap.get? f = some (PySem.W.kla_obj "<lambda>" (X.env.qual ++ "<lambda>") params body scope (cloFrom X.env.cells scope.names []) pm c' ctv)) (hfn : H f = none) (hfr : f ∉ frs X.stack)
    (cn : CdN c' oc (X.env.qual ++ "<lambda>"))
    (hbind : bindArgs (PySem.W.kla_fn "<lambda>" (X.env.qual ++ "<lambda>") params body scope (cloFrom X.env.cells scope.names []) pm (.ref c') ctv) ⟨[], []⟩ = pure [])
    (tk : Takes ((cxOf CXg X.prog X.w X.K X.mg X.base Ng qg sg g cdg X.A X.stack s H Eg).tr pn xe) W) (hW : ∀ cls d σ' H', E cls d H' → W cls d σ' H') (hr : Room (k + 1) (X.A.deeper (envOfC qg sg s.heap.objs.size g cdg)))
    (hbody : ∀ (A : Around) (outer : List Env) (s : Shared) (H : Hp), Room k (A.deeper (lamEnv X scope s.heap.objs.size f c')) → PE (lamCx X A outer s H E scope f c') body tb)
    (hN : Ng[i]? = some a) (hv : Vis sg a) (hd : (a == ("__debug__" : Str)) = false := by decide) (hcd : (a == ("__classdict__" : Str)) = false := by decide) :
    PE ((cxOf CXg X.prog X.w X.K X.mg X.base Ng qg sg g cdg X.A X.stack s H Eg).tr pn xe) (.Call (.Name a p1) [] [] p2)
      (fun σZ HZ Q => σZ[i]? = some (some (.ref f)) ∧ HZ c' = some (CdF oc) ∧ tb σ HZ Q) := by
  refine ⟨fun pinsZ sZ σZ HZ Q IZ h => ?_⟩
  obtain ⟨hs, hc, ht⟩ := h
  refine wpAny_Call_Name_kw (thn ((pe_var (pos := p1) (i := i) hN hv hd hcd).run pinsZ sZ σZ HZ (fun v H1 => v = .ref f ∧ H1 = HZ) IZ ⟨.ref f, hs, rfl, rfl⟩) fun u s1 ⟨v, H1, I1, r1, ev, eH⟩ => ?_)
  subst ev
  subst eH
  obtain rfl : u = Value.ref f := r1
  have of1 : s1.heap.get? f = some (PySem.W.kla_obj "<lambda>" (X.env.qual ++ "<lambda>") params body scope (cloFrom X.env.cells scope.names []) pm c' ctv) := I1.base.keep f _ hf hfn hfr (fun z => nomatch (show f ∈ ([] : List Addr) from z))
  refine PySem.W.callWith_F0 ⟨_, _, _, _, of1⟩ ?_
  have un : Un (frs X.stack) [] H H1 s.heap s1.heap := I1.base
  have crec : s1.heap.CodeRec (.ref c') (X.env.qual ++ "<lambda>") := cn _ (I1.hok c' _ hc).1
  have rc : codeAny (model X.prog X.w) (X.A.deeper (envOfC qg sg s.heap.objs.size g cdg)) (.call (.ref f) ⟨[], []⟩) (CR (L2.CX X.prog X.w) (envOfC qg sg s.heap.objs.size g cdg :: X.stack) X.prog X.w H1 s1 Q E) s1 := by
    refine PySem.W.kla_callFunE hr.depth of1 rfl L.co L.gen rfl crec ?_
    rw [hbind]
    refine wpAny_pure (wpAny_newFunctionEnv (fun y hy => (L.own y hy).2) (fun y hy => (nomatch hy)) (fun h₁ hns hsb => ⟨I1.nolimit.fresh _ hsb, ?_⟩) L.kind)
    show codeAny _ _ (.expr body (lamEnv X scope s1.heap.objs.size f c')) _ _
    have kp : ∀ b o, s1.heap.get? b = some o → h₁.get? b = some o := fun b o e => hsb.extBut b o (Nat.ne_of_lt (Heap.lt_size e)) (Heap.get?_push_of_some _ e)
    have J : Inv (lamCx X (X.A.deeper (envOfC qg sg s.heap.objs.size g cdg)) (envOfC qg sg s.heap.objs.size g cdg :: X.stack) s1 H1 E scope f c') [] σ H1 { s1 with heap := h₁, toks := s1.toks + ([] : List (Str × Value)).length } :=
      lam_start2 I L I1.env0 hr.hd un hns kp
    refine PySem.W.kla_codeExpr (wpAny_mono ((hbody _ _ s1 H1 (hr.deeper _)).run [] _ _ H1 Q J ht) (fun v s' hq => ?_) fun e s' hq => hq)
    obtain ⟨w', H', J', rv, q⟩ := hq
    exact ⟨w', H', J'.os, J'.bare, J'.base, J'.hok, rv, q⟩
  have hx : Passes (L2.CX X.prog X.w) ((cxOf CXg X.prog X.w X.K X.mg X.base Ng qg sg g cdg X.A X.stack s H Eg).tr pn xe) E := passes_call tk hW
  refine wpAny_call (codeAny_mono rc fun r s' hq => ?_)
  cases r with
  | error e => exact hx pinsZ σZ H1 s1 e s' I1 hq
  | ok fl =>
    cases fl with
    | ret u => exact I1.after hq
    | next => exact False.elim hq
    | brk => exact False.elim hq
    | cont => exact False.elim hq
end
/-- the word of a raised class -/
def sayW (K : PySem.W.Frag) (Q : VK) : List (Value × Str) → Value → Hp → Prop
  | [], _, _ => False
  | (c, x) :: r, cls, H => ∃ b, PySem.W.exmOne K cls c = some b ∧ (b = true → Q (.str x) H) ∧ (b = false → sayW K Q r cls H)
/-- x(lambda: body), x a def that tells by a word what its argument raises -/
def tWord (K : PySem.W.Frag) (B : Addr) (q none : Str) (l : List (Value × Str)) (t : XK → TE) : TE := fun σ H Q => LamT B q H ∧ ∀ H1, Gq B [] H H1 → LamT B q H1 → t (fun cls _ H' => sayW K Q l cls H') σ H1 fun _ H' => Q (.str none) H'
section
variable {X : Cx}
theorem pe_word {x a e1 e2 e3 r1 r2 r3 r4 : Str} {C1 C2 C3 : Addr} {g c B : Addr} {k j1 j2 j3 j4 : Nat} {pg : Arguments} {sg : Scope} {dV kV doc pm cdv ct oc : Value} {an od : Option Addr} {osl : Array (Option Value)} {Ng : List Str}
    {params : Arguments} {body : Expr} {scope : Scope} {t : XK → TE} {p lpos pos p1 p2 p3 q1 q2 q3 q4 s1 s2 s3 s4 t1 t2 t3 t4 u1 u2 u3 : Pos} (hg : Gl X x) (hm : X.mg x = some (.ref g)) (hk : PySem.W.keepIn X.K (.ref g) = true)
    (lk : X.K.lookup g = some ⟨oc, od, .func (PySem.W.fnOf x x pg [.Try [.Expr (.Call (.Name a p1) [] [] p2) p3]
        [.ExceptHandler (some (.Name e1 q1)) none [.Return (some (.Constant (.str r1) j1 s1)) t1] u1, .ExceptHandler (some (.Name e2 q2)) none [.Return (some (.Constant (.str r2) j2 s2)) t2] u2, .ExceptHandler (some (.Name e3 q3)) none [.Return (some (.Constant (.str r3) j3 s3)) t3] u3] [] [] q4,
        .Return (some (.Constant (.str r4) j4 s4)) t4] sg dV kV doc pm an cdv ct), osl⟩) (hcg : PySem.W.codeIn X.K cdv x = true) (hb : L2.Binds X.K (PySem.W.fnOf x x pg [.Try [.Expr (.Call (.Name a p1) [] [] p2) p3]
        [.ExceptHandler (some (.Name e1 q1)) none [.Return (some (.Constant (.str r1) j1 s1)) t1] u1, .ExceptHandler (some (.Name e2 q2)) none [.Return (some (.Constant (.str r2) j2 s2)) t2] u2, .ExceptHandler (some (.Name e3 q3)) none [.Return (some (.Constant (.str r3) j3 s3)) t3] u3] [] [] q4,
        .Return (some (.Constant (.str r4) j4 s4)) t4] sg dV kV doc pm an cdv ct) [a] []) (Sg : FnScope Ng [a] sg) (hNg : Ng[0]? = some a) (hva : Vis sg a) (h0 : ∀ f : Addr, (L2.start Ng [V.ref f])[0]? = some (some (V.ref f)))
    (n1 : sg.names.lookup e1 = some .globalImplicit) (m1 : X.mg e1 = some (.ref C1)) (d1 : (e1 == ("__debug__" : Str)) = false) (n2 : sg.names.lookup e2 = some .globalImplicit) (m2 : X.mg e2 = some (.ref C2)) (d2 : (e2 == ("__debug__" : Str)) = false)
    (n3 : sg.names.lookup e3 = some .globalImplicit) (m3 : X.mg e3 = some (.ref C3)) (d3 : (e3 == ("__debug__" : Str)) = false)
    (TB : TabB X.base X.mg c B) (hcode : X.env.code = .ref c) (hr : Room (k + 2) X.A) (L : LamS X.env.scope scope) (hdef : defaultsOf params X.env = ([], []))
    (hbind : ∀ (q : Str) (cl : List (Str × Addr)) (pm cv ctv : Value), bindArgs (PySem.W.kla_fn "<lambda>" q params body scope cl pm cv ctv) ⟨[], []⟩ = pure [])
    (hbody : ∀ (A : Around) (outer : List Env) (s : Shared) (H : Hp) (E : XK) (f c' : Addr), Room k (A.deeper (lamEnv X scope s.heap.objs.size f c')) → PE (lamCx X A outer s H E scope f c') body (t E))
    (hdb : (x == ("__debug__" : Str)) = false := by decide) (hd : (a == ("__debug__" : Str)) = false := by decide) (hcd : (a == ("__classdict__" : Str)) = false := by decide) :
    PE X (.Call (.Name x p) [.Lambda params body scope lpos] [] pos) (tWord X.K B (X.env.qual ++ "<lambda>") r4 [(.ref C1, r1), (.ref C2, r2), (.ref C3, r3)] t) := by
  refine ⟨fun pins s σ H Q I h => ?_⟩
  obtain ⟨hT, h⟩ := h
  refine wpAny_Call_Name_kw (ld_glob I hg hm ?_ hdb)
  refine PySem.W.callWith_K (h₀ := X.base) I.ok.mod.kin hk ?_ (by rfl) (by rfl)
  show wpAny _ _ (spliced ((false, eval (.Lambda params body scope lpos) X.env) :: backTo pos (starEach [] X.env))) _ _ s
  refine Calls.spliced_cons (lam_made I TB hcode hT hdef (L.has I.ok) fun f c' o pm' ctv H1 s' I1 gq T1 hf hfn hfr hco cn => ?_)
  refine Calls.spliced_nil ⟨I1.kIn, ?_⟩
  have hW := h H1 gq T1
  have rc : codeAny (model X.prog X.w) X.A (.call (.ref g) ⟨[.ref f], []⟩) (CR C8.CX0 X.stack X.prog X.w H1 s' Q C8.E0) s' := by
    refine run_ofS (N := Ng) (ps := [a]) (us := [.ref f]) (vs := [.ref f]) lk hcg Sg hr I1.env0 (hb s' [.ref f] I1.kIn rfl) (.cons rfl .nil) rfl fun hr' => ?_
    let Z : Cx := cxOf C8.CX0 X.prog X.w X.K X.mg X.base Ng x sg g cdv X.A X.stack s' H1 C8.E0
    refine ⟨_, (pss_cons (X := Z) (ps_try_many (X := Z) (l := [(.ref C1, fun _ _ _ => tRet (tC (.str r1))), (.ref C2, fun _ _ _ => tRet (tC (.str r2))), (.ref C3, fun _ _ _ => tRet (tC (.str r3)))])
        (tb := fun W D σZ HZ => ∃ Ech : XK, (∀ cls d σ' H', Ech cls d H' → W cls d σ' H') ∧ σZ[0]? = some (some (.ref f)) ∧ HZ c' = some (CdF o) ∧ t Ech σ HZ fun _ H' => D.nx σZ H')
        rfl rfl takes0 (fun W pn xe tk _ => ?_) (.cons ⟨n1, d1, .inl m1⟩ (fun a oe cls d pn _ _ => pss_one (ps_ret pe_str)) (.cons ⟨n2, d2, .inl m2⟩ (fun a oe cls d pn _ _ => pss_one (ps_ret pe_str)) (.cons ⟨n3, d3, .inl m3⟩ (fun a oe cls d pn _ _ => pss_one (ps_ret pe_str)) .nil)))) (pss_one (ps_ret pe_str))), ?_⟩
    · refine pss_one ⟨fun pinsZ sZ σZ HZ D IZ hZ => ?_⟩
      obtain ⟨Ech, hWc, z1, z2, z3⟩ := hZ
      have hp := pe_acts (p1 := p1) (p2 := p2) (i := 0) (pn := pn) (xe := xe) (W := W) (E := Ech) (tb := t Ech) I1 L hf hfn hfr cn (hbind _ _ _ _ _) tk hWc hr' (fun A outer s H hr2 => hbody A outer s H Ech f c' hr2) hNg hva hd hcd
      exact (ps_expr (pos := p3) hp).run pinsZ sZ σZ HZ D IZ ⟨z1, z2, z3⟩
    · refine ⟨fun cls _ H' => sayW X.K Q [(.ref C1, r1), (.ref C2, r2), (.ref C3, r3)] cls H', fun cls d σ' H' z => ?_, h0 f, hco, hW⟩
      obtain ⟨b1, y1, y2, y3⟩ := z
      refine ⟨b1, y1, fun hb a _ => y2 hb, fun hb => ?_⟩
      obtain ⟨b2, w1, w2, w3⟩ := y3 hb
      refine ⟨b2, w1, fun hb a _ => w2 hb, fun hb => ?_⟩
      obtain ⟨b3, v1, v2, v3⟩ := w3 hb
      exact ⟨b3, v1, fun hb a _ => v2 hb, fun hb => (v3 hb).elim⟩
  refine wpAny_call (codeAny_mono rc fun r s2 hq => ?_)
  cases r with
  | error e => exact (show False from hq).elim
  | ok fl =>
    cases fl with
    | ret u => exact I1.after hq
    | next => exact False.elim hq
    | brk => exact False.elim hq
    | cont => exact False.elim hq
end
end Dy
end
section
set_option Elab.async false
set_option linter.all false
set_option maxRecDepth 100000
set_option maxHeartbeats 4000000
/-! What is known of the program behind its top; defs by their promises. -/
namespace Dy
open PySem PySem.Spec PyProof.Rows L2
/-- the table of the law's code object -/
def lawB (K : PySem.W.Frag) : Addr := (He.cT K ("law", none)).2
/-- the defs whose bodies hold generator expressions -/
def tfG : List He.Defn := [("is_lot", none), ("is_route", none), ("is_kind", none), ("need_works", none), ("has_wants", none), ("is_clean", none), ("is_plan", none), ("need_weights", none)]
/-- the facts, of the module behind its top -/
structure Tx (K : PySem.W.Frag) (mg : Str → Option Value) (base : Heap) : Prop where
  sd : He.SaysD fa fn K
  kin : K.In base
  ns : base.Ns mainGlobals mg
  bm : BmOk base mg
  hd : ∀ p ∈ tf, PySem.W.CodeHd base (He.cT K p).1 (He.cT K p).2
  ne : ∀ p ∈ tfG, (He.cT K p).2 ≠ lawB K
section
variable {P : Program} {w : World} {K : PySem.W.Frag} {mg : Str → Option Value} {base : Heap}
theorem Tx.glis_number (T : Tx K mg base) : mg "is_number" = some (.ref (He.ga K "is_number")) := He.glo_ok T.kin T.ns (T.sd.fact 0 (f := .glo "is_number") rfl)
theorem Tx.glis_lot (T : Tx K mg base) : mg "is_lot" = some (.ref (He.ga K "is_lot")) := He.glo_ok T.kin T.ns (T.sd.fact 1 (f := .glo "is_lot") rfl)
theorem Tx.glis_route (T : Tx K mg base) : mg "is_route" = some (.ref (He.ga K "is_route")) := He.glo_ok T.kin T.ns (T.sd.fact 2 (f := .glo "is_route") rfl)
theorem Tx.glis_kind (T : Tx K mg base) : mg "is_kind" = some (.ref (He.ga K "is_kind")) := He.glo_ok T.kin T.ns (T.sd.fact 3 (f := .glo "is_kind") rfl)
theorem Tx.glneed_works (T : Tx K mg base) : mg "need_works" = some (.ref (He.ga K "need_works")) := He.glo_ok T.kin T.ns (T.sd.fact 4 (f := .glo "need_works") rfl)
theorem Tx.gljoined (T : Tx K mg base) : mg "joined" = some (.ref (He.ga K "joined")) := He.glo_ok T.kin T.ns (T.sd.fact 5 (f := .glo "joined") rfl)
theorem Tx.glbehind (T : Tx K mg base) : mg "behind" = some (.ref (He.ga K "behind")) := He.glo_ok T.kin T.ns (T.sd.fact 6 (f := .glo "behind") rfl)
theorem Tx.glhas_wants (T : Tx K mg base) : mg "has_wants" = some (.ref (He.ga K "has_wants")) := He.glo_ok T.kin T.ns (T.sd.fact 7 (f := .glo "has_wants") rfl)
theorem Tx.glis_clean (T : Tx K mg base) : mg "is_clean" = some (.ref (He.ga K "is_clean")) := He.glo_ok T.kin T.ns (T.sd.fact 8 (f := .glo "is_clean") rfl)
theorem Tx.gldyed (T : Tx K mg base) : mg "dyed" = some (.ref (He.ga K "dyed")) := He.glo_ok T.kin T.ns (T.sd.fact 9 (f := .glo "dyed") rfl)
theorem Tx.glis_plan (T : Tx K mg base) : mg "is_plan" = some (.ref (He.ga K "is_plan")) := He.glo_ok T.kin T.ns (T.sd.fact 10 (f := .glo "is_plan") rfl)
theorem Tx.glneed_plan (T : Tx K mg base) : mg "need_plan" = some (.ref (He.ga K "need_plan")) := He.glo_ok T.kin T.ns (T.sd.fact 11 (f := .glo "need_plan") rfl)
theorem Tx.glroutes_of (T : Tx K mg base) : mg "routes_of" = some (.ref (He.ga K "routes_of")) := He.glo_ok T.kin T.ns (T.sd.fact 12 (f := .glo "routes_of") rfl)
theorem Tx.glclosed (T : Tx K mg base) : mg "closed" = some (.ref (He.ga K "closed")) := He.glo_ok T.kin T.ns (T.sd.fact 13 (f := .glo "closed") rfl)
theorem Tx.glis_fine (T : Tx K mg base) : mg "is_fine" = some (.ref (He.ga K "is_fine")) := He.glo_ok T.kin T.ns (T.sd.fact 14 (f := .glo "is_fine") rfl)
theorem Tx.glis_good (T : Tx K mg base) : mg "is_good" = some (.ref (He.ga K "is_good")) := He.glo_ok T.kin T.ns (T.sd.fact 15 (f := .glo "is_good") rfl)
theorem Tx.glneed_many (T : Tx K mg base) : mg "need_many" = some (.ref (He.ga K "need_many")) := He.glo_ok T.kin T.ns (T.sd.fact 16 (f := .glo "need_many") rfl)
theorem Tx.glneed_weights (T : Tx K mg base) : mg "need_weights" = some (.ref (He.ga K "need_weights")) := He.glo_ok T.kin T.ns (T.sd.fact 17 (f := .glo "need_weights") rfl)
theorem Tx.glcommon (T : Tx K mg base) : mg "common" = some (.ref (He.ga K "common")) := He.glo_ok T.kin T.ns (T.sd.fact 18 (f := .glo "common") rfl)
theorem Tx.gllowest (T : Tx K mg base) : mg "lowest" = some (.ref (He.ga K "lowest")) := He.glo_ok T.kin T.ns (T.sd.fact 19 (f := .glo "lowest") rfl)
theorem Tx.glpower (T : Tx K mg base) : mg "power" = some (.ref (He.ga K "power")) := He.glo_ok T.kin T.ns (T.sd.fact 20 (f := .glo "power") rfl)
theorem Tx.glplan_rows (T : Tx K mg base) : mg "plan_rows" = some (.ref (He.ga K "plan_rows")) := He.glo_ok T.kin T.ns (T.sd.fact 21 (f := .glo "plan_rows") rfl)
theorem Tx.glcount_rows (T : Tx K mg base) : mg "count_rows" = some (.ref (He.ga K "count_rows")) := He.glo_ok T.kin T.ns (T.sd.fact 22 (f := .glo "count_rows") rfl)
theorem Tx.glplan_chance (T : Tx K mg base) : mg "plan_chance" = some (.ref (He.ga K "plan_chance")) := He.glo_ok T.kin T.ns (T.sd.fact 23 (f := .glo "plan_chance") rfl)
theorem Tx.glbest_chance (T : Tx K mg base) : mg "best_chance" = some (.ref (He.ga K "best_chance")) := He.glo_ok T.kin T.ns (T.sd.fact 24 (f := .glo "best_chance") rfl)
theorem Tx.glrandom_chance (T : Tx K mg base) : mg "random_chance" = some (.ref (He.ga K "random_chance")) := He.glo_ok T.kin T.ns (T.sd.fact 25 (f := .glo "random_chance") rfl)
theorem Tx.gllaw_taken (T : Tx K mg base) : mg "_law_taken" = some (.ref (He.ga K "_law_taken")) := He.glo_ok T.kin T.ns (T.sd.fact 26 (f := .glo "_law_taken") rfl)
theorem Tx.gllaw_alike (T : Tx K mg base) : mg "_law_alike" = some (.ref (He.ga K "_law_alike")) := He.glo_ok T.kin T.ns (T.sd.fact 27 (f := .glo "_law_alike") rfl)
theorem Tx.gllaw_lot (T : Tx K mg base) : mg "_law_lot" = some (.ref (He.ga K "_law_lot")) := He.glo_ok T.kin T.ns (T.sd.fact 28 (f := .glo "_law_lot") rfl)
theorem Tx.gllaw_works (T : Tx K mg base) : mg "_law_works" = some (.ref (He.ga K "_law_works")) := He.glo_ok T.kin T.ns (T.sd.fact 29 (f := .glo "_law_works") rfl)
theorem Tx.gllaw_dyed (T : Tx K mg base) : mg "_law_dyed" = some (.ref (He.ga K "_law_dyed")) := He.glo_ok T.kin T.ns (T.sd.fact 30 (f := .glo "_law_dyed") rfl)
theorem Tx.gllaw_lowest (T : Tx K mg base) : mg "_law_lowest" = some (.ref (He.ga K "_law_lowest")) := He.glo_ok T.kin T.ns (T.sd.fact 31 (f := .glo "_law_lowest") rfl)
theorem Tx.gllaw_rows (T : Tx K mg base) : mg "_law_rows" = some (.ref (He.ga K "_law_rows")) := He.glo_ok T.kin T.ns (T.sd.fact 32 (f := .glo "_law_rows") rfl)
theorem Tx.gllaw_add (T : Tx K mg base) : mg "_law_add" = some (.ref (He.ga K "_law_add")) := He.glo_ok T.kin T.ns (T.sd.fact 33 (f := .glo "_law_add") rfl)
theorem Tx.gllaw_best (T : Tx K mg base) : mg "_law_best" = some (.ref (He.ga K "_law_best")) := He.glo_ok T.kin T.ns (T.sd.fact 34 (f := .glo "_law_best") rfl)
theorem Tx.gllaw_word (T : Tx K mg base) : mg "_law_word" = some (.ref (He.ga K "_law_word")) := He.glo_ok T.kin T.ns (T.sd.fact 35 (f := .glo "_law_word") rfl)
theorem Tx.gllaw (T : Tx K mg base) : mg "law" = some (.ref (He.ga K "law")) := He.glo_ok T.kin T.ns (T.sd.fact 36 (f := .glo "law") rfl)
theorem Tx.frisinstance (T : Tx K mg base) : mg "isinstance" = none := He.free_ok T.kin T.ns (T.sd.fact 37 (f := .free "isinstance") rfl)
theorem Tx.frint (T : Tx K mg base) : mg "int" = none := He.free_ok T.kin T.ns (T.sd.fact 38 (f := .free "int") rfl)
theorem Tx.frbool (T : Tx K mg base) : mg "bool" = none := He.free_ok T.kin T.ns (T.sd.fact 39 (f := .free "bool") rfl)
theorem Tx.frtuple (T : Tx K mg base) : mg "tuple" = none := He.free_ok T.kin T.ns (T.sd.fact 40 (f := .free "tuple") rfl)
theorem Tx.frlist (T : Tx K mg base) : mg "list" = none := He.free_ok T.kin T.ns (T.sd.fact 41 (f := .free "list") rfl)
theorem Tx.frstr (T : Tx K mg base) : mg "str" = none := He.free_ok T.kin T.ns (T.sd.fact 42 (f := .free "str") rfl)
theorem Tx.frlen (T : Tx K mg base) : mg "len" = none := He.free_ok T.kin T.ns (T.sd.fact 43 (f := .free "len") rfl)
theorem Tx.frall (T : Tx K mg base) : mg "all" = none := He.free_ok T.kin T.ns (T.sd.fact 44 (f := .free "all") rfl)
theorem Tx.frany (T : Tx K mg base) : mg "any" = none := He.free_ok T.kin T.ns (T.sd.fact 45 (f := .free "any") rfl)
theorem Tx.frzip (T : Tx K mg base) : mg "zip" = none := He.free_ok T.kin T.ns (T.sd.fact 46 (f := .free "zip") rfl)
theorem Tx.frset (T : Tx K mg base) : mg "set" = none := He.free_ok T.kin T.ns (T.sd.fact 47 (f := .free "set") rfl)
theorem Tx.frsorted (T : Tx K mg base) : mg "sorted" = none := He.free_ok T.kin T.ns (T.sd.fact 48 (f := .free "sorted") rfl)
theorem Tx.frenumerate (T : Tx K mg base) : mg "enumerate" = none := He.free_ok T.kin T.ns (T.sd.fact 49 (f := .free "enumerate") rfl)
theorem Tx.frrange (T : Tx K mg base) : mg "range" = none := He.free_ok T.kin T.ns (T.sd.fact 50 (f := .free "range") rfl)
theorem Tx.frsum (T : Tx K mg base) : mg "sum" = none := He.free_ok T.kin T.ns (T.sd.fact 51 (f := .free "sum") rfl)
theorem Tx.frmax (T : Tx K mg base) : mg "max" = none := He.free_ok T.kin T.ns (T.sd.fact 52 (f := .free "max") rfl)
theorem Tx.frmin (T : Tx K mg base) : mg "min" = none := He.free_ok T.kin T.ns (T.sd.fact 53 (f := .free "min") rfl)
theorem Tx.glBadNumber (T : Tx K mg base) : mg "BadNumber" = some (.ref (He.ga K "BadNumber")) := He.glo_ok T.kin T.ns (T.sd.fact 54 (f := .glo "BadNumber") rfl)
theorem Tx.glBadPlan (T : Tx K mg base) : mg "BadPlan" = some (.ref (He.ga K "BadPlan")) := He.glo_ok T.kin T.ns (T.sd.fact 55 (f := .glo "BadPlan") rfl)
theorem Tx.glBadWeights (T : Tx K mg base) : mg "BadWeights" = some (.ref (He.ga K "BadWeights")) := He.glo_ok T.kin T.ns (T.sd.fact 56 (f := .glo "BadWeights") rfl)
theorem Tx.glChances (T : Tx K mg base) : mg "Chances" = some (.ref (He.ga K "Chances")) := He.glo_ok T.kin T.ns (T.sd.fact 57 (f := .glo "Chances") rfl)
theorem Tx.exBadNumber (T : Tx K mg base) : PySem.W.excIn K (He.ga K "BadNumber") He.veBase "ValueError.__new__" = true ∧ PySem.W.keepIn K (.ref (He.ga K "BadNumber")) = true ∧ PySem.W.subIn K (.ref (He.ga K "BadNumber")) (.type "BaseException") = some true ∧ PySem.W.typeIn K (.ref (He.ga K "BadNumber")) = some (.type "type") := He.exc_ok (T.sd.fact 58 (f := .exc "BadNumber") rfl)
theorem Tx.exBadPlan (T : Tx K mg base) : PySem.W.excIn K (He.ga K "BadPlan") He.veBase "ValueError.__new__" = true ∧ PySem.W.keepIn K (.ref (He.ga K "BadPlan")) = true ∧ PySem.W.subIn K (.ref (He.ga K "BadPlan")) (.type "BaseException") = some true ∧ PySem.W.typeIn K (.ref (He.ga K "BadPlan")) = some (.type "type") := He.exc_ok (T.sd.fact 59 (f := .exc "BadPlan") rfl)
theorem Tx.exBadWeights (T : Tx K mg base) : PySem.W.excIn K (He.ga K "BadWeights") He.veBase "ValueError.__new__" = true ∧ PySem.W.keepIn K (.ref (He.ga K "BadWeights")) = true ∧ PySem.W.subIn K (.ref (He.ga K "BadWeights")) (.type "BaseException") = some true ∧ PySem.W.typeIn K (.ref (He.ga K "BadWeights")) = some (.type "type") := He.exc_ok (T.sd.fact 60 (f := .exc "BadWeights") rfl)
theorem Tx.emBadNumberBadNumber (T : Tx K mg base) : PySem.W.exmOne K (.ref (He.ga K "BadNumber")) (.ref (He.ga K "BadNumber")) = some true := He.exm_ok (T.sd.fact 61 (f := .exm "BadNumber" "BadNumber" true) rfl)
theorem Tx.emBadPlanBadNumber (T : Tx K mg base) : PySem.W.exmOne K (.ref (He.ga K "BadPlan")) (.ref (He.ga K "BadNumber")) = some false := He.exm_ok (T.sd.fact 62 (f := .exm "BadPlan" "BadNumber" false) rfl)
theorem Tx.emBadPlanBadPlan (T : Tx K mg base) : PySem.W.exmOne K (.ref (He.ga K "BadPlan")) (.ref (He.ga K "BadPlan")) = some true := He.exm_ok (T.sd.fact 63 (f := .exm "BadPlan" "BadPlan" true) rfl)
theorem Tx.emBadWeightsBadNumber (T : Tx K mg base) : PySem.W.exmOne K (.ref (He.ga K "BadWeights")) (.ref (He.ga K "BadNumber")) = some false := He.exm_ok (T.sd.fact 64 (f := .exm "BadWeights" "BadNumber" false) rfl)
theorem Tx.emBadWeightsBadPlan (T : Tx K mg base) : PySem.W.exmOne K (.ref (He.ga K "BadWeights")) (.ref (He.ga K "BadPlan")) = some false := He.exm_ok (T.sd.fact 65 (f := .exm "BadWeights" "BadPlan" false) rfl)
theorem Tx.emBadWeightsBadWeights (T : Tx K mg base) : PySem.W.exmOne K (.ref (He.ga K "BadWeights")) (.ref (He.ga K "BadWeights")) = some true := He.exm_ok (T.sd.fact 66 (f := .exm "BadWeights" "BadWeights" true) rfl)
theorem Tx.inMOST_DYES (T : Tx K mg base) : ∃ t, mg "MOST_DYES" = some (.int 5 t) := He.int_ok T.kin T.ns (T.sd.fact 67 (f := .int "MOST_DYES" 5) rfl)
theorem Tx.inMOST_VATS (T : Tx K mg base) : ∃ t, mg "MOST_VATS" = some (.int 5 t) := He.int_ok T.kin T.ns (T.sd.fact 68 (f := .int "MOST_VATS" 5) rfl)
theorem Tx.inMOST_KINDS (T : Tx K mg base) : ∃ t, mg "MOST_KINDS" = some (.int 4 t) := He.int_ok T.kin T.ns (T.sd.fact 69 (f := .int "MOST_KINDS" 4) rfl)
theorem Tx.inMOST_ROUTES (T : Tx K mg base) : ∃ t, mg "MOST_ROUTES" = some (.int 8 t) := He.int_ok T.kin T.ns (T.sd.fact 70 (f := .int "MOST_ROUTES" 8) rfl)
theorem Tx.inMOST_LONG (T : Tx K mg base) : ∃ t, mg "MOST_LONG" = some (.int 6 t) := He.int_ok T.kin T.ns (T.sd.fact 71 (f := .int "MOST_LONG" 6) rfl)
theorem Tx.inMOST_MANY (T : Tx K mg base) : ∃ t, mg "MOST_MANY" = some (.int 40 t) := He.int_ok T.kin T.ns (T.sd.fact 72 (f := .int "MOST_MANY" 40) rfl)
theorem Tx.inMOST_WEIGHT (T : Tx K mg base) : ∃ t, mg "MOST_WEIGHT" = some (.int 9 t) := He.int_ok T.kin T.ns (T.sd.fact 73 (f := .int "MOST_WEIGHT" 9) rfl)
theorem Tx.clChances (T : Tx K mg base) : Cls K (He.ga K "Chances") := He.cls_ok (T.sd.fact 74 (f := .cls "Chances") rfl)
theorem Tx.naworks (T : Tx K mg base) : NoAttr K (He.ga K "Chances") "works" := He.noat_ok (T.sd.fact 75 (f := .noat "Chances" "works") rfl)
theorem Tx.naweights (T : Tx K mg base) : NoAttr K (He.ga K "Chances") "weights" := He.noat_ok (T.sd.fact 76 (f := .noat "Chances" "weights") rfl)
theorem Tx.naknown (T : Tx K mg base) : NoAttr K (He.ga K "Chances") "known" := He.noat_ok (T.sd.fact 77 (f := .noat "Chances" "known") rfl)
theorem Tx.mebest (T : Tx K mg base) : Meth K (He.ga K "Chances") "best" (He.ma K (He.ga K "Chances") "best") := He.meth_ok (T.sd.fact 78 (f := .meth "Chances" "best") rfl)
theorem Tx.mekind_best (T : Tx K mg base) : Meth K (He.ga K "Chances") "kind_best" (He.ma K (He.ga K "Chances") "kind_best") := He.meth_ok (T.sd.fact 79 (f := .meth "Chances" "kind_best") rfl)
theorem Tx.mkChances (T : Tx K mg base) : Mk K (He.ga K "Chances") (He.ma K (He.ga K "Chances") "__init__") := He.mkr_ok (T.sd.fact 80 (f := .mkr "Chances") rfl)
/-- the tables that the defs' generator expressions use -/
def Tbs (K : PySem.W.Frag) (H : Hp) : Prop := (∀ p ∈ tfG, TabK (lawB K) 2 H (He.cT K p).2) ∧ H (lawB K) ≠ none
theorem Tbs.gw {M : List Addr} {H H' : Hp} (t : Tbs K H) (g : Gw (lawB K) M H H') : Tbs K H' := ⟨fun p hp => g.tabs _ _ (t.1 p hp), fun z => t.2 (g.dom _ z)⟩
theorem Tbs.gq {M : List Addr} {H H' : Hp} (t : Tbs K H) (g : Gq (lawB K) M H H') : Tbs K H' := ⟨fun p hp => g.tabs _ _ (t.1 p hp), fun z => t.2 (g.dom _ z)⟩
/-- a def of the module, called by its name, keeps the promise sp -/
structure Cal (P : Program) (w : World) (K : PySem.W.Frag) (mg : Str → Option Value) (base : Heap) (CX : CXT) (x : Str) (k : Nat) (ps : List Str) (sp : Sp) : Prop where
  ex : ∃ fd, FnOk P w K mg base CX k (He.ga K x) fd ps sp ∧ Binds K fd ps []
  gl : mg x = some (.ref (He.ga K x))
  kp : PySem.W.keepIn K (.ref (He.ga K x)) = true
theorem codeOf_fn {p : Str × Option Str} {x qual : Str} {params : Arguments} {body : List Stmt} {scope : Scope} {fd : FuncData} (F : FunD K x qual params body scope [] [] (He.fAd K p) fd) : fd.code = .ref (He.codeOf K p) := by
  obtain ⟨oc, od, dV, kV, doc, pm, an, cdv, ct, osl, rfl, lk, hcd, _, _⟩ := F.ex
  obtain ⟨c, rfl⟩ := He.codeIn_ref hcd
  have e : (PySem.W.fnOf x qual params body scope dV kV doc pm an (.ref c) ct).code = .ref c := rfl
  rw [He.codeOf_eq lk e]
/-- F.ok, the code object named -/
theorem okT {CX : CXT} {p : Str × Option Str} {x qual : Str} {params : Arguments} {body : List Stmt} {scope : Scope} {fd : FuncData} {N ps : List Str} {k : Nat} {sp : Sp} (F : FunD K x qual params body scope [] [] (He.fAd K p) fd) (S : FnScope N ps scope) (len : ∀ vs H Q E, sp vs H Q E → vs.length = ps.length)
    (hbody : ∀ (A : Around) (outer : List Env) (s : Shared) (H : Hp) (vs : List V) (Q : VK) (E : XK), Room k (A.deeper (envOfC qual scope s.heap.objs.size (He.fAd K p) (.ref (He.codeOf K p)))) → sp vs H Q E →
      ∃ t, PSs (cxOf CX P w K mg base N qual scope (He.fAd K p) (.ref (He.codeOf K p)) A outer s H E) body t ∧ t { nx := fun _ H' => Q .non H', rt := Q } (start N vs) H) : FnOk P w K mg base CX (k + 1) (He.fAd K p) fd ps sp := by
  have hc := codeOf_fn F
  obtain ⟨oc, od, dV, kV, doc, pm, an, cdv, ct, osl, rfl, lk, hcd, _, _⟩ := F.ex
  have e : cdv = .ref (He.codeOf K p) := hc
  subst e
  exact fn_of lk hcd S len fun A outer s H vs Q E hr hsp => hbody A outer s H vs Q E hr hsp
/-- THE RULE for a def of the module -/
theorem Tx.cal (T : Tx K mg base) {CX : CXT} {x : Str} {st : Stmt} {N ps : List Str} {k : Nat} {sp : Sp} (i : Nat) (hd : fn[i]? = some (dd x st)) (hg : mg x = some (.ref (He.ga K x))) (S : FnScope N ps (defScope st))
    (hb : ∀ (kV doc pm : Value) (an : Option Addr) (cdv ct : Value) (us : List Value), us.length = ps.length → bindArgs (PySem.W.fnOf x x (defArgs st) (defBody st) (defScope st) .none kV doc pm an cdv ct) ⟨us, []⟩ = pure (ps.zip us))
    (len : ∀ vs H Q E, sp vs H Q E → vs.length = ps.length)
    (hbody : ∀ (A : Around) (outer : List Env) (s : Shared) (H : Hp) (vs : List V) (Q : VK) (E : XK), Room k (A.deeper (envOfC x (defScope st) s.heap.objs.size (He.ga K x) (.ref (He.codeOf K (x, none))))) → sp vs H Q E →
      ∃ t, PSs (cxOf CX P w K mg base N x (defScope st) (He.ga K x) (.ref (He.codeOf K (x, none))) A outer s H E) (defBody st) t ∧ t { nx := fun _ H' => Q .non H', rt := Q } (start N vs) H) :
    Cal P w K mg base CX x (k + 1) ps sp := by
  obtain ⟨fd, F⟩ := T.sd.def_ i hd
  exact ⟨⟨fd, okT (p := (x, none)) F S len hbody, FunD.bindsN F hb⟩, hg, F.kp⟩
theorem Cal.mono {CX : CXT} {x : Str} {j k : Nat} {ps : List Str} {sp : Sp} (C : Cal P w K mg base CX x j ps sp) (h : j ≤ k) : Cal P w K mg base CX x k ps sp := by
  obtain ⟨fd, F, b⟩ := C.ex
  exact ⟨⟨fd, F.mono h, b⟩, C.gl, C.kp⟩
end
section
variable {X : Cx} {CX : CXT} {x : Str} {j k : Nat} {ps : List Str} {sp : Sp} {e : Expr} {es : List Expr} {t : TA} {p pos : Pos} {E : XK} {E' : L2.St → XK}
/-- f(e, ..), nothing is let out -/
theorem pe_cal (C : Cal X.prog X.w X.K X.mg X.base CX0 x j ps sp) (hr : Room k X.A) (hg : Gl X x) (ha : PA X (e :: es) t) (hjk : j ≤ k := by decide) (hdb : (x == ("__debug__" : Str)) = false := by decide)
    (he : starEach (e :: es) X.env = (false, eval e X.env) :: starEach es X.env := by rfl) (hpl : (backTo pos (starEach es X.env)).any (·.1) = false := by rfl) : PE X (.Call (.Name x p) (e :: es) [] pos) (tCall sp [] E0 t) := by
  obtain ⟨fd, F, b⟩ := C.ex
  exact pe_call F (hr.mono hjk) hg C.gl C.kp b .nil pass0 ha hdb he hpl
/-- f(e, ..), what it lets out is told at the slots -/
theorem pe_calS (C : Cal X.prog X.w X.K X.mg X.base CX x j ps sp) (hr : Room k X.A) (hg : Gl X x) (hx : ∀ σ, PassesAt CX X σ (E' σ)) (ha : PA X (e :: es) t) (hjk : j ≤ k := by decide) (hdb : (x == ("__debug__" : Str)) = false := by decide)
    (he : starEach (e :: es) X.env = (false, eval e X.env) :: starEach es X.env := by rfl) (hpl : (backTo pos (starEach es X.env)).any (·.1) = false := by rfl) : PE X (.Call (.Name x p) (e :: es) [] pos) (tCallS sp E' t) := by
  obtain ⟨fd, F, b⟩ := C.ex
  exact pe_callS F (hr.mono hjk) hg C.gl C.kp b hx ha hdb he hpl
end
/-- a built-in type as a value -/
theorem pe_ty {X : Cx} {x : Str} {T : String} {pos : Pos} (hg : Gl X x) (hm : X.mg x = none) (hv : bootBuiltins x = some (.type T)) (hn : x ≠ "__name__" := by decide) (hd : (x == ("__debug__" : Str)) = false := by decide) : PE X (.Name x pos) (tC (.ty T)) := pe_bltn hg hm hv rfl hn hd
/-- a number of the module -/
theorem pe_num {X : Cx} {x : Str} {i : Int} {pos : Pos} (hg : Gl X x) (hm : ∃ t, X.mg x = some (.int i t)) (hd : (x == ("__debug__" : Str)) = false := by decide) : PE X (.Name x pos) (tC (.int i)) := by
  obtain ⟨t, e⟩ := hm
  exact pe_glob hg e ⟨t, rfl⟩ hd
/-! ### values by keys -/
theorem NkV.tup {H : Hp} {ks : List NestedKey} {v : V} : NkV H (.tup ks) v ↔ ∃ a vs, v = .ref a ∧ H a = some (.tup vs) ∧ NkAll H ks vs := Iff.rfl
theorem NkAll.length {H : Hp} : ∀ {ks : List NestedKey} {vs : List V}, NkAll H ks vs → ks.length = vs.length
  | [], vs, h => by
    have h : vs = [] := h
    rw [h] <;> rfl
  | k :: ks, vs, h => by
    obtain ⟨v, r, e, _, t⟩ := h
    rw [e, List.length_cons, List.length_cons, NkAll.length t]
theorem NkAll.get {H : Hp} : ∀ {ks : List NestedKey} {vs : List V}, NkAll H ks vs → ∀ {i : Nat} {k : NestedKey}, ks[i]? = some k → ∃ v, vs[i]? = some v ∧ NkV H k v
  | [], vs, h, i, k, e => by simp at e
  | k0 :: ks, vs, h, 0, k, e => by
    obtain ⟨v, r, e1, h1, _⟩ := h
    simp at e
    subst e
    exact ⟨v, by rw [e1]; rfl, h1⟩
  | k0 :: ks, vs, h, i + 1, k, e => by
    obtain ⟨v, r, e1, _, t⟩ := h
    obtain ⟨u, e2, h2⟩ := NkAll.get t (i := i) (by simpa using e)
    exact ⟨u, by rw [e1]; simpa using e2, h2⟩
theorem NkAll.nat {H : Hp} : ∀ {ks : List NestedKey} {vs : List V}, NkAll H ks vs → ∀ {i : Nat} {v : V}, vs[i]? = some v → ∃ k, ks[i]? = some k ∧ NkV H k v
  | [], vs, h, i, v, e => by
    have h : vs = [] := h
    rw [h] at e
    simp at e
  | k0 :: ks, vs, h, 0, v, e => by
    obtain ⟨v0, r, e1, h1, _⟩ := h
    rw [e1] at e
    simp at e
    subst e
    exact ⟨k0, rfl, h1⟩
  | k0 :: ks, vs, h, i + 1, v, e => by
    obtain ⟨v0, r, e1, _, t⟩ := h
    rw [e1] at e
    obtain ⟨k, e2, h2⟩ := NkAll.nat t (i := i) (v := v) (by simpa using e)
    exact ⟨k, by simpa using e2, h2⟩
theorem NkAll.nums {H : Hp} : ∀ {ns : List Int} {vs : List V}, NkAll H (ns.map NestedKey.num) vs ↔ vs = ns.map V.int
  | [], vs => Iff.rfl
  | n :: ns, vs => by
    constructor
    · rintro ⟨v, r, e, h1, t⟩
      have h1 : v = .int n := h1
      rw [e, h1, NkAll.nums.mp t]
      rfl
    · intro e
      exact ⟨.int n, ns.map V.int, e, rfl, NkAll.nums.mpr rfl⟩
theorem NkV.gw {B : Addr} {M : List Addr} {H H' : Hp} {k : NestedKey} {v : V} (x : NkV H k v) (g : Gw B M H H') : NkV H' k v := NkV.mono g.tups k v x
theorem NkV.gq {B : Addr} {M : List Addr} {H H' : Hp} {k : NestedKey} {v : V} (x : NkV H k v) (g : Gq B M H H') : NkV H' k v := NkV.mono g.tups k v x
theorem NkAll.gw {B : Addr} {M : List Addr} {H H' : Hp} {ks : List NestedKey} {vs : List V} (x : NkAll H ks vs) (g : Gw B M H H') : NkAll H' ks vs := NkAll.mono g.tups ks vs x
end Dy
end
section
set_option Elab.async false
set_option linter.all false
set_option maxRecDepth 100000
set_option maxHeartbeats 4000000
/-! all(..), any(..) over a tuple, over zip of two tuples: what is to be shown of one turn. -/
namespace Dy
open PySem PySem.Spec PyProof.Rows L2
/-- the answer: the asker stops at the first item of the truth stop -/
def answer (stop : Bool) (n : Nat) (f : Nat → Bool) : Bool := if stop then (List.range n).any f else (List.range n).all f
theorem answer_stop {stop : Bool} {n : Nat} {f : Nat → Bool} {i : Nat} (hi : i < n) (h : f i = stop) : answer stop n f = stop := by
  cases stop with
  | true => exact List.any_eq_true.mpr ⟨i, List.mem_range.mpr hi, h⟩
  | false =>
    refine Bool.eq_false_iff.mpr fun z => ?_
    have q := List.all_eq_true.mp (show (List.range n).all f = true from z) i (List.mem_range.mpr hi)
    rw [h] at q
    cases q
theorem answer_go {stop : Bool} {n : Nat} {f : Nat → Bool} (h : ∀ i, i < n → f i ≠ stop) : answer stop n f = !stop := by
  cases stop with
  | true =>
    refine Bool.eq_false_iff.mpr fun z => ?_
    obtain ⟨i, hi, e⟩ := List.any_eq_true.mp (show (List.range n).any f = true from z)
    exact h i (List.mem_range.mp hi) e
  | false =>
    refine List.all_eq_true.mpr fun i hi => ?_
    have q := h i (List.mem_range.mp hi)
    cases e : f i with
    | true => rfl
    | false => exact absurd e q
section
variable {base : Heap} {KF : PySem.W.Frag} {B c P a : Addr} {k : Nat} {stop : Bool} {te : Addr → Addr → TE} {slot : Nat} {σ : L2.St} {H1 : Hp} {Q : VK} {xs : List V}
/-- over a tuple -/
theorem gen_tup (f : Nat → Bool) (hq : H1 a = some (.tup xs)) (cd : CodeAt base H1 c P) (tb : TabK B (k + 1) H1 P) (nB : H1 B ≠ none)
    (turn : ∀ (c' P' : Addr) (i : Nat) (x : V) (H2 : Hp) (R : VK), xs[i]? = some x → Gw B [] H1 H2 → CodeAt base H2 c' P' → TabK B k H2 P' → (∀ H3, Gw B [] H2 H3 → R (.bl (f i)) H3) → te c' P' ((σ.set slot none).set slot (some x)) H2 R)
    (hQ : ∀ H3, Gw B [] H1 H3 → Q (.bl (answer stop xs.length f)) H3) :
    CodeAt base H1 c P ∧ TabK B (k + 1) H1 P ∧ H1 B ≠ none ∧ ∀ (H2 : Hp) (c' P' : Addr), Gw B [] H1 H2 → CodeAt base H2 c' P' → TabK B k H2 P' → ∃ W : Nat → Nat → Hp → Prop, (∃ m, W 0 m H2) ∧ GenW (Itt KF a) (gName slot) (te c' P') σ [slot] stop Q W := by
  refine ⟨cd, tb, nB, fun H2 c' P' g cd2 tb2 => ⟨fun i m H => m = xs.length - i ∧ i ≤ xs.length ∧ Gw B [] H2 H ∧ ∀ j, j < i → f j ≠ stop, ⟨xs.length, rfl, Nat.zero_le _, .refl _ _ _, fun j hj => absurd hj (Nat.not_lt_zero _)⟩, ?_⟩⟩
  rintro i m H ⟨rfl, hi, gH, ne⟩
  have gg := g.trans gH
  have qT : SqT KF H a xs := .of (gg.tups _ _ hq)
  by_cases hlt : i < xs.length
  · refine .inr ⟨⟨xs, xs[i], qT, List.getElem?_eq_getElem hlt⟩, fun H' => i < xs.length ∧ Gw B [] H2 H' ∧ ∀ j, j < i + 1 → f j ≠ stop, fun H' ⟨_, g', n'⟩ => ⟨xs.length - (i + 1), by omega, rfl, hlt, g', n'⟩, fun x H' y => ?_⟩
    obtain ⟨eH, y⟩ := y
    subst eH
    have hx := y xs qT
    show wipe _ [slot] = wipe σ [slot] ∧ te c' P' _ _ _
    refine ⟨?_, turn c' P' i x _ _ hx gg (cd2.mono gH rfl) (gH.tabs _ _ tb2) fun H3 g3 => ⟨f i, rfl, fun e => ?_, fun e => ⟨hlt, gH.trans g3, fun j hj => ?_⟩⟩⟩
    · show ((σ.set slot none).set slot (some x)).set slot none = σ.set slot none
      rw [List.set_set, List.set_set]
    · have z := hQ H3 (gg.trans g3)
      rw [answer_stop hlt e] at z
      exact z
    · rcases Nat.lt_succ_iff_lt_or_eq.mp hj with z | z
      · exact ne j z
      · rw [z]
        exact e
  · have e : i = xs.length := by omega
    refine .inl ⟨⟨xs, qT, by omega⟩, ?_⟩
    have z := hQ H gg
    rw [answer_go fun j hj => ne j (by omega)] at z
    exact z
/-- over zip of two tuples: the turn's pair in two slots -/
theorem gen_zip {b : Addr} {ys : List V} {s1 s2 : Nat} (f : Nat → Bool) (hs : s1 ≠ s2) (ha : SqT KF H1 a xs) (hb : SqT KF H1 b ys) (hta : H1 a = some (.tup xs)) (htb : H1 b = some (.tup ys)) (cd : CodeAt base H1 c P) (tb : TabK B (k + 1) H1 P) (nB : H1 B ≠ none)
    (turn : ∀ (c' P' : Addr) (i : Nat) (x y : V) (H2 : Hp) (R : VK), xs[i]? = some x → ys[i]? = some y → Gw B [] H1 H2 → CodeAt base H2 c' P' → TabK B k H2 P' → (∀ H3, Gw B [] H2 H3 → R (.bl (f i)) H3) → te c' P' ((((σ.set s2 none).set s1 none).set s1 (some x)).set s2 (some y)) H2 R)
    (hQ : ∀ H3, Gw B [] H1 H3 → Q (.bl (answer stop (min xs.length ys.length) f)) H3) :
    CodeAt base H1 c P ∧ TabK B (k + 1) H1 P ∧ H1 B ≠ none ∧ ∀ (H2 : Hp) (c' P' : Addr), Gw B [] H1 H2 → CodeAt base H2 c' P' → TabK B k H2 P' → ∃ W : Nat → Nat → Hp → Prop, (∃ m, W 0 m H2) ∧ GenW (RZ.ItzT KF a b) (gTup KF 2 (gCons (gName s1) (gCons (gName s2) gNil))) (te c' P') σ [s1, s2] stop Q W := by
  refine ⟨cd, tb, nB, fun H2 c' P' g cd2 tb2 => ⟨fun i m H => m = min xs.length ys.length - i ∧ i ≤ min xs.length ys.length ∧ Gw B [] H2 H ∧ ∀ j, j < i → f j ≠ stop, ⟨_, rfl, Nat.zero_le _, .refl _ _ _, fun j hj => absurd hj (Nat.not_lt_zero _)⟩, ?_⟩⟩
  rintro i m H ⟨rfl, hi, gH, ne⟩
  have gg := g.trans gH
  have qa : SqT KF H a xs := .of (gg.tups _ _ hta)
  have qb : SqT KF H b ys := .of (gg.tups _ _ htb)
  by_cases hlt : i < min xs.length ys.length
  · have h1 : i < xs.length := by omega
    have h2 : i < ys.length := by omega
    refine .inr ⟨⟨xs, ys, xs[i], ys[i], qa, qb, List.getElem?_eq_getElem h1, List.getElem?_eq_getElem h2⟩, fun H' => i < min xs.length ys.length ∧ Gw B [] H2 H' ∧ ∀ j, j < i + 1 → f j ≠ stop, fun H' ⟨_, g', n'⟩ => ⟨min xs.length ys.length - (i + 1), by omega, rfl, hlt, g', n'⟩, fun v H' z => ?_⟩
    obtain ⟨T, x, y, ev, eT, eH, hx, hy⟩ := z
    subst ev
    subst eH
    have hx := hx xs qa
    have hy := hy ys qb
    have g0 : Gw B [] H2 (upd H T (.tup [x, y])) := gH.trans (.new eT)
    refine ⟨T, [x, y], rfl, .of upd_same, rfl, x, [y], rfl, ?_⟩
    refine ⟨y, [], rfl, ?_⟩
    refine ⟨rfl, ?_, turn c' P' i x y _ _ hx hy (g.trans g0) (cd2.mono g0 rfl) (g0.tabs _ _ tb2) fun H3 g3 => ⟨f i, rfl, fun e => ?_, fun e => ⟨hlt, g0.trans g3, fun j hj => ?_⟩⟩⟩
    · show (((((σ.set s2 none).set s1 none).set s1 (some x)).set s2 (some y)).set s2 none).set s1 none = (σ.set s2 none).set s1 none
      rw [List.set_set, List.set_set, List.set_comm _ _ hs.symm, List.set_set]
      exact (List.set_comm _ _ hs).trans (by rw [List.set_set])
    · have z := hQ H3 (g.trans (g0.trans g3))
      rw [answer_stop hlt e] at z
      exact z
    · rcases Nat.lt_succ_iff_lt_or_eq.mp hj with z | z
      · exact ne j z
      · rw [z]
        exact e
  · refine .inl ⟨⟨xs, ys, qa, qb, by omega⟩, ?_⟩
    have z := hQ H gg
    rw [answer_go fun j hj => ne j (by omega)] at z
    exact z
end
end Dy
end
section
set_option Elab.async false
set_option linter.all false
set_option maxRecDepth 100000
/-! The works in plain Lean, and as keys. -/
namespace Dy
open PySem PySem.Spec PyProof.Rows L2
structure Knd where
  wants : List Int
  bars : List Int
  routes : List (List Nat)
structure Wks where
  dyes : Nat
  vats : List (List Int)
  kinds : List Knd
abbrev kI (xs : List Int) : NestedKey := .tup (xs.map NestedKey.num)
abbrev natI (xs : List Nat) : List Int := xs.map Int.ofNat
abbrev kS (s : List (List Int)) : NestedKey := .tup (s.map kI)
def Knd.key (k : Knd) : NestedKey := .tup [kI k.wants, kI k.bars, .tup (k.routes.map fun r => kI (natI r))]
def Wks.key (w : Wks) : NestedKey := .tup [.num w.dyes, kS w.vats, .tup (w.kinds.map Knd.key)]
/-- strictly rising, within 0 .. d - 1 -/
structure LotOk (d : Nat) (xs : List Int) : Prop where
  up : xs.Pairwise (· < ·)
  lo : ∀ x ∈ xs, 0 ≤ x
  hi : ∀ x ∈ xs, x < d
structure KndOk (d v : Nat) (k : Knd) : Prop where
  wants : LotOk d k.wants
  bars : LotOk d k.bars
  r1 : 1 ≤ k.routes.length
  r2 : k.routes.length ≤ 2
  rl : ∀ r ∈ k.routes, 1 ≤ r.length ∧ r.length ≤ 3 ∧ ∀ x ∈ r, x < v
structure WksOk (w : Wks) : Prop where
  d1 : 1 ≤ w.dyes
  d2 : w.dyes ≤ 3
  v1 : 1 ≤ w.vats.length
  v2 : w.vats.length ≤ 3
  vat : ∀ x ∈ w.vats, LotOk w.dyes x
  k1 : 1 ≤ w.kinds.length
  k2 : w.kinds.length ≤ 3
  knd : ∀ k ∈ w.kinds, KndOk w.dyes w.vats.length k
theorem LotOk.len {d : Nat} {xs : List Int} (h : LotOk d xs) : xs.length ≤ d := by
  have key : ∀ (xs : List Int) (lo : Int), xs.Pairwise (· < ·) → (∀ x ∈ xs, lo ≤ x) → (∀ x ∈ xs, x < d) → (xs.length : Int) ≤ max 0 (d - lo) := by
    intro xs
    induction xs with
    | nil => intro lo _ _ _; simp; omega
    | cons x xs ih =>
      intro lo p h1 h2
      obtain ⟨p1, p2⟩ := List.pairwise_cons.mp p
      have q := ih (x + 1) p2 (fun y hy => by have := p1 y hy; omega) fun y hy => h2 y (List.mem_cons_of_mem _ hy)
      have q1 := h1 x List.mem_cons_self
      have q2 := h2 x List.mem_cons_self
      rw [List.length_cons]
      push_cast
      omega
  have q := key xs 0 h.up h.lo h.hi
  omega
end Dy
end
section
set_option Elab.async false
set_option linter.all false
set_option maxRecDepth 100000
set_option maxHeartbeats 4000000
/-! Answers to the rules' questions, by what the walks need. -/
namespace Dy
open PySem PySem.Spec PyProof.Rows L2
section
variable {K : PySem.W.Frag} {B a b : Addr} {H : Hp} {xs ys : List V} {Q : VK} {lo hi : Option Int}
theorem cutV_whole (h : HT.sIx xs.length 0 lo = 0 ∧ HT.sIx xs.length xs.length hi = xs.length) : cutV xs lo hi = xs := by
  unfold cutV
  rw [h.1, h.2]
  simp
theorem cutV_1 : cutV xs (some 1) none = xs.drop 1 := by
  unfold cutV
  have e : HT.sIx xs.length 0 (some 1) = min 1 xs.length := HT.sIx_nat xs.length 0 1
  rw [e, HT.sIx_none]
  rcases xs with _ | ⟨x, xs⟩
  · rfl
  · rw [List.length_cons, show min 1 (xs.length + 1) = 1 by omega]
    exact List.take_of_length_le (by simp)
/-- t[lo:hi] -/
theorem a_sl (h : H a = some (.tup xs)) (q : ∀ b H', Gw B [] H H' → H' b = some (.tup (cutV xs lo hi)) → Q (.ref b) H') : rSlA K (.ref a) lo hi H Q :=
  ⟨a, xs, rfl, .of h, fun hw => q a H (.refl _ _ _) (by rw [cutV_whole hw]; exact h), fun _ p np => q p _ (.new np) upd_same⟩
/-- t + u -/
theorem a_cat (ha : H a = some (.tup xs)) (hb : H b = some (.tup ys)) (hz : xs.length + ys.length ≤ 1000) (q : ∀ p H', Gw B [] H H' → H' p = some (.tup (xs ++ ys)) → Q (.ref p) H') : rCatA K (.ref a) (.ref b) H Q :=
  ⟨a, b, xs, ys, rfl, rfl, .of ha, .of hb, by rw [sizeLine_eq]; omega, fun e => q b H (.refl _ _ _) (by rw [e]; exact hb), fun _ e => q a H (.refl _ _ _) (by rw [e, List.append_nil]; exact ha), fun _ _ p np => q p _ (.new np) upd_same⟩
/-- t * k -/
theorem a_rep {k : Nat} (ha : H a = some (.tup xs)) (h0 : xs ≠ []) (h1 : 1 ≤ k) (h2 : k ≤ 1000) (h3 : xs.length ≤ 1000) (q : ∀ p H', Gw B [] H H' → H' p = some (.tup (List.replicate k xs).flatten) → Q (.ref p) H') : rRepA K (.ref a) (.int k) H Q :=
  ⟨a, k, xs, rfl, rfl, .of ha, h0, by omega, by omega, h3, fun e => q a H (.refl _ _ _) (by
    have e : k = 1 := by omega
    rw [e]
    simpa using ha), fun _ p np => q p _ (.new np) (by rw [Int.toNat_natCast]; exact upd_same)⟩
end
theorem wipe1 {σ : L2.St} {i : Nat} {x : Option V} : wipe ((wipe σ [i]).set i x) [i] = wipe σ [i] := by
  show ((σ.set i none).set i x).set i none = σ.set i none
  rw [List.set_set, List.set_set]
theorem answer_all {n : Nat} : answer false n (fun _ => true) = true := answer_go fun _ _ z => nomatch z
theorem vk {R : VK} {H : Hp} {u v : V} (h : R u H) (e : u = v) : R v H := e ▸ h
theorem bLen : bootBuiltins "len" = some (.builtin "len") := by decide +kernel
theorem bIsi : bootBuiltins "isinstance" = some (.builtin "isinstance") := by decide +kernel
theorem bInt : bootBuiltins "int" = some (.type "int") := by decide +kernel
theorem bBool : bootBuiltins "bool" = some (.type "bool") := by decide +kernel
theorem bTuple : bootBuiltins "tuple" = some (.type "tuple") := by decide +kernel
theorem bList : bootBuiltins "list" = some (.type "list") := by decide +kernel
theorem bStr : bootBuiltins "str" = some (.type "str") := by decide +kernel
theorem bAll : bootBuiltins "all" = some (.builtin "all") := by decide +kernel
theorem bAny : bootBuiltins "any" = some (.builtin "any") := by decide +kernel
theorem bSet : bootBuiltins "set" = some (.type "set") := by decide +kernel
theorem bSorted : bootBuiltins "sorted" = some (.builtin "sorted") := by decide +kernel
theorem bSum : bootBuiltins "sum" = some (.builtin "sum") := by decide +kernel
theorem bMax : bootBuiltins "max" = some (.builtin "max") := by decide +kernel
theorem bMin : bootBuiltins "min" = some (.builtin "min") := by decide +kernel
theorem bEnumerate : bootBuiltins "enumerate" = some (.type "enumerate") := by decide +kernel
section
variable {X : Cx} {e : Expr} {te : TE} {p p2 pos : Pos}
/-- isinstance(e, tuple), .. -/
theorem w_isTuple (T : Tx X.K X.mg X.base) (he : PE X e te) (hg : Gl X "isinstance" := by rfl) (hg2 : Gl X "tuple" := by rfl) (h1 : starEach [e, .Name "tuple" p2] X.env = (false, eval e X.env) :: starEach [.Name "tuple" p2] X.env := by rfl) :
    PE X (.Call (.Name "isinstance" p) [e, .Name "tuple" p2] [] pos) (tCB (rIsi X.K) (tCons te (tCons (tC (.ty "tuple")) tNil))) := pe_callB call_isi hg T.frisinstance bIsi (pa_cons he (pa_cons (pe_ty hg2 T.frtuple bTuple) pa_nil) h1) (he := h1)
theorem w_len (T : Tx X.K X.mg X.base) (he : PE X e te) (hg : Gl X "len" := by rfl) (h1 : starEach [e] X.env = (false, eval e X.env) :: starEach [] X.env := by rfl) :
    PE X (.Call (.Name "len" p) [e] [] pos) (tCB (fun xs H Q => ∃ p ys, xs = [.ref p] ∧ (SqL X.K H p ys ∨ SqT X.K H p ys) ∧ Q (.int ys.length) H) (tCons te tNil)) := pe_callB call_len_seq hg T.frlen bLen (pa_cons he pa_nil h1) (he := h1)
theorem w_tuple (T : Tx X.K X.mg X.base) (he : PE X e te) (hg : Gl X "tuple" := by rfl) (h1 : starEach [e] X.env = (false, eval e X.env) :: starEach [] X.env := by rfl) :
    PE X (.Call (.Name "tuple" p) [e] [] pos) (tCB (fun xs H Q => ∃ p ys, xs = [.ref p] ∧ ((SqL X.K H p ys ∧ ∀ l, H l = none → Q (.ref l) (upd H l (.tup ys))) ∨ (SqT X.K H p ys ∧ Q (.ref p) H))) (tCons te tNil)) := pe_callTy call_tuple_of hg T.frtuple bTuple (pa_cons he pa_nil h1) (he := h1)
theorem w_list (T : Tx X.K X.mg X.base) (he : PE X e te) (hg : Gl X "list" := by rfl) (h1 : starEach [e] X.env = (false, eval e X.env) :: starEach [] X.env := by rfl) :
    PE X (.Call (.Name "list" p) [e] [] pos) (tCB (fun xs H Q => ∃ p ys, xs = [.ref p] ∧ (SqL X.K H p ys ∨ SqT X.K H p ys) ∧ ∀ l, H l = none → Q (.ref l) (upd H l (.lst ys))) (tCons te tNil)) := pe_callTy call_list_of hg T.frlist bList (pa_cons he pa_nil h1) (he := h1)
end
/-! ### rules whose readings name K, base, w alone -/
section
variable {X : Cx} {K : PySem.W.Frag} {base : Heap}
def rLenS (K : PySem.W.Frag) : List V → Hp → VK → Prop := fun xs H Q => ∃ p ys, xs = [.ref p] ∧ (SqL K H p ys ∨ SqT K H p ys) ∧ Q (.int ys.length) H
theorem cr_lenK (h : X.K = K := by rfl) : CallR X (.builtin "len") (rLenS K) := h ▸ call_len_seq
theorem ix_tupK (h : X.K = K := by rfl) : IxR X (rIxT K) := h ▸ ix_tup
theorem ix_listK (h : X.K = K := by rfl) : IxR X (rIxL K) := h ▸ ix_list
theorem op_inK (h : X.K = K := by rfl) : OpR X (compareOp .In) (rIn K false) := h ▸ op_in_seq
theorem op_notInK (h : X.K = K := by rfl) : OpR X (compareOp .NotIn) (rIn K true) := h ▸ op_notIn_seq
theorem cr_isiK (h : X.K = K := by rfl) : CallR X (.builtin "isinstance") (rIsi K) := h ▸ call_isi
theorem cr_isiTK (h : X.K = K := by rfl) : CallR X (.builtin "isinstance") (rIsiT K) := h ▸ call_isiT
theorem op_eqK (hu : X.A.units + 64 < cLine) (h : X.K = K := by rfl) : OpR X (compareOp .Eq) (rEqD K) := h ▸ op_eqD hu
theorem op_neK (hu : X.A.units + 64 < cLine) (h : X.K = K := by rfl) : OpR X (compareOp .NotEq) (rNeD K) := h ▸ op_neD hu
theorem pi_tupK {tg l : Expr} {tl : TE} (hl : PE X l tl) (h : X.K = K := by rfl) : PI X tg l (iTup K tl) := h ▸ pi_tup hl
theorem pi_listK {tg l : Expr} {tl : TE} (hl : PE X l tl) (h : X.K = K := by rfl) : PI X tg l (iList K tl) := h ▸ pi_list hl
def rTupOf (K : PySem.W.Frag) : List V → Hp → VK → Prop := fun xs H Q => ∃ p ys, xs = [.ref p] ∧ ((SqL K H p ys ∧ ∀ l, H l = none → Q (.ref l) (upd H l (.tup ys))) ∨ (SqT K H p ys ∧ Q (.ref p) H))
theorem cr_tupleK (h : X.K = K := by rfl) : CallR X (.type "tuple") (rTupOf K) := h ▸ call_tuple_of
def rListOf (K : PySem.W.Frag) : List V → Hp → VK → Prop := fun xs H Q => ∃ p ys, xs = [.ref p] ∧ (SqL K H p ys ∨ SqT K H p ys) ∧ ∀ l, H l = none → Q (.ref l) (upd H l (.lst ys))
theorem cr_listK (h : X.K = K := by rfl) : CallR X (.type "list") (rListOf K) := h ▸ call_list_of
theorem sl_tupK (h : X.K = K := by rfl) : SlR X (rSlA K) := h ▸ sl_tupA
theorem op_catK (h : X.K = K := by rfl) : OpR X (binaryOp .Add) (rCatA K) := h ▸ op_catA
theorem op_repK (h : X.K = K := by rfl) : OpR X (binaryOp .Mult) (rRepA K) := h ▸ op_repA
theorem cr_sumTK (hc : X.calm = true) (h : X.K = K := by rfl) : CallR X (.builtin "sum") (rSumT K) := h ▸ cr_sumT hc
theorem cr_sumK (hc : X.calm = true) (h : X.K = K := by rfl) : CallR X (.builtin "sum") (rSum K) := h ▸ cr_sum hc
theorem pi_enTK {e : Expr} {ta : TA} {p pos tpos : Pos} {elts : List Expr} {kk : Nat} (hg : Gl X "enumerate") (hm : X.mg "enumerate" = none) (ha : PA X [e] ta) (hs : starEach [e] X.env = [(false, eval e X.env)] := by rfl) (h : X.K = K := by rfl) :
    PI X (.Tuple elts kk tpos) (.Call (.Name "enumerate" p) [e] [] pos) (iEnT K ta) := h ▸ pi_enT hg hm ha hs
theorem pi_zipK {e e2 : Expr} {ta : TA} {p pos tpos : Pos} {elts : List Expr} {kk : Nat} (hg : Gl X "zip") (hm : X.mg "zip" = none) (ha : PA X [e, e2] ta) (hs : starEach [e, e2] X.env = (false, eval e X.env) :: starEach [e2] X.env := by rfl)
    (hpl : (backTo pos (starEach [e2] X.env)).any (·.1) = false := by rfl) (h : X.K = K := by rfl) : PI X (.Tuple elts kk tpos) (.Call (.Name "zip" p) [e, e2] [] pos) (RZ.iZipA K ta) := h ▸ RZ.pi_zipA hg hm ha hs hpl
theorem pg_tupK {es : List Expr} {k : Nat} {t : TGs} {n : Nat} {pos : Pos} (hc : X.calm = true) (g : PGs X es t) (h1 : (assignEach es X.env).length = n := by rfl) (h2 : (assignEach es X.env).findIdx? (·.1) = none := by rfl) (h : X.K = K := by rfl) : PG X (.Tuple es k pos) (gTup K n t) := h ▸ pg_tup hc g h1 h2
def tTru (K : PySem.W.Frag) (ta : TE) : TT := fun σ H Q => ta σ H fun x H' => ∃ k, TruV K x H' k ∧ Q k H'
theorem pt_truthK {a : Expr} {ta : TE} (ha : PE X a ta) (he : ∀ whole, isTrue a X.env whole = (do let v ← whole; standAt a.pos; holding [v] (truthy v)) := by intro _; rfl) (h : X.K = K := by rfl) : PT X a (tTru K ta) := h ▸ pt_truth ha he
theorem pe_genK {nm : Str} {id : String} {p gpos pos : Pos} {elt tg iter : Expr} {scope : Scope} {own : List (Str × Nat)} {wi : TI} {g : TG} {te : Addr → Addr → TE} {stop : Bool} {B c P : Addr} {k j : Nat}
    (ha : Asks id stop) (hr : Room (j + 3) X.A) (hc : X.calm = true) (hN : X.N.Nodup) (hg : Gl X nm) (hm : X.mg nm = none) (hb : bootBuiltins nm = some (.builtin id)) (hbm : BmOk base X.mg) (hcode : X.env.code = .ref c)
    (hi : PI X tg iter wi) (ok : BlkOk X.N X.env.scope scope own) (hco : scope.isCoroutine = false) (hdot : scope.names.lookup (".0" : Str) = some NameKind.local)
    (pg : ∀ (s : Shared) (H : Hp) (fp : List Addr) (pn : List (Addr × Obj)) (c' : Addr), PG (gcx X s H scope (.ref c') fp pn) tg g)
    (pe : ∀ (s : Shared) (H : Hp) (fp : List Addr) (pn : List (Addr × Obj)) (c' P' : Addr), Room j (gcx X s H scope (.ref c') fp pn).A → PE (gcx X s H scope (.ref c') fp pn) elt (te c' P'))
    (hn : nm ≠ "__name__" := by decide) (hdb : (nm == ("__debug__" : Str)) = false := by decide) (hs : ∀ x, genFold iter X.env x = pure x := by intro _; rfl)
    (he : starEach [.GeneratorExp elt [⟨tg, iter, [], 0⟩] scope gpos] X.env = (false, eval (.GeneratorExp elt [⟨tg, iter, [], 0⟩] scope gpos) X.env) :: starEach [] X.env := by rfl) (h : X.base = base := by rfl) :
    PE X (.Call (.Name nm p) [.GeneratorExp elt [⟨tg, iter, [], 0⟩] scope gpos] [] pos) (tGen base B c P k stop wi g te (own.map (·.2))) := by
  subst h
  exact pe_gen ha hr hc hN hg hm hb hbm hcode hi ok hco hdot pg pe hn hdb hs he
end
end Dy
end
section
set_option Elab.async false
set_option linter.all false
set_option maxRecDepth 100000
set_option maxHeartbeats 4000000
/-! is_number, is_lot, is_route. -/
namespace Dy
open PySem PySem.Spec PyProof.Rows L2
/-- isinstance(x, T) by the type's name -/
theorem kit {K : PySem.W.Frag} {a b : String} {r : Bool} (h : kitB a b = some r := by decide +kernel) : PySem.W.kitOne K (.type a) (.type b) = some r := kit_ty h
section
variable {P : Program} {w : World} {K : PySem.W.Frag} {mg : Str → Option Value} {base : Heap}
/-! ### is_number -/
def numOk (v : V) (lo hi : Int) : Bool := match v with
  | .int i => decide (lo ≤ i) && decide (i ≤ hi)
  | _ => false
theorem numOk_int {i lo hi : Int} (h1 : lo ≤ i) (h2 : i ≤ hi) : numOk (.int i) lo hi = true := by
  show (decide (lo ≤ i) && decide (i ≤ hi)) = true
  rw [decide_eq_true h1, decide_eq_true h2] <;> rfl
def Flat3 (v : V) : Prop := v = .non ∨ (∃ b, v = .bl b) ∨ ∃ i, v = .int i
def spNumber : Sp := fun vs H Q _ => ∃ v lo hi, vs = [v, .int lo, .int hi] ∧ Flat3 v ∧ Q (.bl (numOk v lo hi)) H
theorem scNumber : FnScope ["value", "low", "high"] ["value", "low", "high"] (defScope sIsNumber) := ⟨rfl, rfl, rfl, by decide +kernel, rfl, by decide +kernel, by decide +kernel⟩
theorem ok_isNumber (T : Tx K mg base) : Cal P w K mg base CX0 "is_number" 1 ["value", "low", "high"] spNumber := by
  refine T.cal (st := sIsNumber) 0 rfl T.glis_number scNumber (fun _ _ _ _ _ _ us hl => match us, hl with | [_, _, _], _ => rfl) (fun vs H Q E h => ?_) (fun A outer s H vs Q E hr h => ?_)
  · obtain ⟨v, lo, hi, rfl, _⟩ := h
    rfl
  · obtain ⟨v, lo, hi, rfl, fv, hQ⟩ := h
    refine ⟨_, PSs.nox (pss_one (ps_ret (pe_and (pe_callB call_isi rfl T.frisinstance bIsi (pa_cons (pv 0) (pa_cons (pe_ty rfl T.frint bInt) pa_nil)))
      (pe_and (pe_not (pe_callB call_isi rfl T.frisinstance bIsi (pa_cons (pv 0) (pa_cons (pe_ty rfl T.frbool bBool) pa_nil)))) (pe_one (pe_chain op_le op_le (pv 1) (pv 0) (pv 2))))))), ?_⟩
    rcases fv with rfl | ⟨b, rfl⟩ | ⟨i, rfl⟩
    · exact ⟨_, rfl, _, _, _, _, _, rfl, .ty _, .base .non, kit, false, rfl, hQ⟩
    · exact ⟨_, rfl, _, _, _, _, _, rfl, .ty _, .base (.bl b), kit (r := true), true, rfl, _, rfl, _, _, _, _, _, rfl, .ty _, .base (.bl b), kit (r := true), true, rfl, false, rfl, hQ⟩
    · refine ⟨_, rfl, _, _, _, _, _, rfl, .ty _, .base (.int i), kit (r := true), true, rfl, _, rfl, _, _, _, _, _, rfl, .ty _, .base (.int i), kit (r := false), false, rfl, true, rfl, _, rfl, _, rfl, _, _, rfl, rfl, _, rfl, ?_⟩
      refine ite2 (fun h1 => ⟨_, rfl, _, _, rfl, rfl, ?_⟩) fun h1 => ?_
      · have z : numOk (.int i) lo hi = decide (i ≤ hi) := by
          show (decide (lo ≤ i) && decide (i ≤ hi)) = _
          rw [h1, Bool.true_and]
        rw [z] at hQ
        exact hQ
      · have z : numOk (.int i) lo hi = false := by
          show (decide (lo ≤ i) && decide (i ≤ hi)) = _
          rw [Bool.eq_false_iff.mpr h1, Bool.false_and]
        rw [z] at hQ
        exact hQ
/-! ### is_lot -/
def spLot (K : PySem.W.Frag) : Sp := fun vs H Q _ => ∃ v xs, ∃ d : Nat, vs = [v, .int d] ∧ NkV H (kI xs) v ∧ LotOk d xs ∧ Tbs K H ∧ ∀ H', Gw (lawB K) [] H H' → Q (.bl true) H'
abbrev nLot : List Str := ["value", "many", "part", "one", "other"]
theorem scLot : FnScope nLot ["value", "many"] (defScope sIsLot) := ⟨rfl, rfl, rfl, by decide +kernel, rfl, by decide +kernel, by decide +kernel⟩
theorem ok_isLot (T : Tx K mg base) : Cal P w K mg base CX0 "is_lot" 5 ["value", "many"] (spLot K) := by
  refine T.cal (st := sIsLot) 1 rfl T.glis_lot scLot (fun _ _ _ _ _ _ us hl => match us, hl with | [_, _], _ => rfl) (fun vs H Q E h => ?_) (fun A outer s H vs Q E hr h => ?_)
  · obtain ⟨v, xs, d, rfl, _⟩ := h
    rfl
  · obtain ⟨v, xs, d, rfl, nk, ok, tb, hQ⟩ := h
    refine ⟨_, PSs.nox (pss_cons (ps_if (PW.pt (pw_or (pt_not (pt_val (pe_callB call_isi rfl T.frisinstance bIsi (pa_cons (pv 0) (pa_cons (pe_ty rfl T.frtuple bTuple) pa_nil)))))
        (pw_or1 (pt_not (pt_val (pe_gen (c := He.codeOf K ("is_lot", none)) (B := lawB K) (P := (He.cT K ("is_lot", none)).2) (k := 1) (j := 1) (own := [("part", 2)]) Asks.all hr rfl scLot.nd rfl T.frall bAll T.bm rfl
          (pi_tup (pv 0)) (blkOk_by (N := nLot) (sc := defScope sIsLot) (by decide +kernel)) (by decide +kernel) (by decide +kernel)
          (fun _ _ _ _ _ => pg_name (i := 2) scLot.nd rfl (.inl rfl))
          (fun _ _ _ _ _ _ hr2 => pe_cal (ok_isNumber T) hr2 rfl (pa_cons (pv 2) (pa_cons pe_int (pa_cons (pe_op op_sub (pv 1) pe_int) pa_nil)))))))))) (pss_one (ps_ret pe_bl)) pss_nil)
      (pss_one (ps_ret (pe_gen (c := He.codeOf K ("is_lot", none)) (B := lawB K) (P := (He.cT K ("is_lot", none)).2) (k := 1) (j := 1) (g := gTup K 2 (gCons (gName 3) (gCons (gName 4) gNil))) (own := [("one", 3), ("other", 4)]) Asks.all hr rfl scLot.nd rfl T.frall bAll T.bm rfl
          (RZ.pi_zipA rfl T.frzip (pa_cons (pv 0) (pa_cons (pe_slice sl_tupA (pv 0) (po_some pe_int) po_none) pa_nil))) (blkOk_by (N := nLot) (sc := defScope sIsLot) (by decide +kernel)) (by decide +kernel) (by decide +kernel)
          (fun _ _ _ _ _ => pg_tup rfl (pgs_cons (pg_name (i := 3) scLot.nd rfl (.inl rfl) (.inr rfl)) (pgs_cons (pg_name (i := 4) scLot.nd rfl (.inl rfl) (.inr rfl)) pgs_nil)))
          (fun _ _ _ _ _ _ hr2 => pe_cmpR op_lt (pv 3) (pv 4) (nomark _)))))), ?_⟩
    obtain ⟨a, us, rfl, ea, al⟩ := nk
    obtain rfl := NkAll.nums.mp al
    have nB := tb.2
    have tab := tb.1 ("is_lot", none) (by decide)
    have cd0 : ∀ {H'}, CodeAt base H' (He.codeOf K ("is_lot", none)) (He.cT K ("is_lot", none)).2 := .inl (T.hd ("is_lot", none) (by decide))
    refine ⟨_, rfl, _, _, _, _, _, rfl, .ty _, .base (.tup ea), kit (r := true), true, rfl, iteF ?_⟩
    refine ⟨_, rfl, a, rfl, ⟨_, .of ea⟩, gen_tup (fun _ => true) ea cd0 tab nB (fun c' P' i x H2 R hx g _ _ hR => ?_) fun H3 g => ?_⟩
    · rw [List.getElem?_map] at hx
      obtain ⟨y, ey, rfl⟩ := Option.map_eq_some_iff.mp hx
      have hy := List.mem_of_getElem? ey
      refine ⟨_, rfl, _, rfl, _, _, rfl, rfl, _, _, _, rfl, .inr (.inr ⟨_, rfl⟩), ?_⟩
      rw [numOk_int (ok.lo y hy) (by have := ok.hi y hy; omega)]
      exact hR _ (.refl _ _ _)
    · rw [answer_all]
      refine ⟨true, rfl, iteF ?_⟩
      have ea3 := g.tups _ _ ea
      have tb3 := tb.gw g
      refine ⟨_, rfl, _, rfl, 1, rfl, ?_⟩
      unfold tNoPart
      refine a_sl (B := lawB K) ea3 fun b H4 g4 eb => ?_
      have ea4 := g4.tups _ _ ea3
      refine ⟨a, b, _, _, rfl, .inr ⟨.of ea4, .of eb, gen_zip (fun _ => true) (by decide) (.of ea4) (.of eb) ea4 eb cd0 ((tb3.gw g4).1 ("is_lot", none) (by decide)) (tb3.gw g4).2 (fun c' P' i x y H5 R hx hy g5 _ _ hR => ?_) fun H5 g5 => ?_⟩⟩
      · rw [cutV_1] at hy
        rw [List.getElem?_map] at hx
        obtain ⟨x0, ex, rfl⟩ := Option.map_eq_some_iff.mp hx
        rw [← List.map_drop, List.getElem?_map, List.getElem?_drop] at hy
        obtain ⟨y0, ey, rfl⟩ := Option.map_eq_some_iff.mp hy
        obtain ⟨h1, e1⟩ := List.getElem?_eq_some_iff.mp ex
        obtain ⟨h2, e2⟩ := List.getElem?_eq_some_iff.mp ey
        have lt : x0 < y0 := by
          rw [← e1, ← e2]
          exact List.pairwise_iff_getElem.mp ok.up i (1 + i) h1 h2 (by omega)
        refine ⟨_, rfl, _, rfl, _, _, rfl, rfl, ?_⟩
        exact vk (hR H5 (.refl _ _ _)) (congrArg V.bl (decide_eq_true lt).symm)
      · rw [answer_all]
        exact hQ _ (g.trans (g4.trans g5))
end
end Dy
end
section
set_option Elab.async false
set_option linter.all false
set_option maxRecDepth 100000
set_option maxHeartbeats 4000000
/-! is_route, is_kind, need_works. -/
namespace Dy
open PySem PySem.Spec PyProof.Rows L2
section
variable {P : Program} {w : World} {K : PySem.W.Frag} {mg : Str → Option Value} {base : Heap}
theorem cdAt (T : Tx K mg base) (p : He.Defn) {H : Hp} (h : p ∈ tf := by decide) : CodeAt base H (He.cT K p).1 (He.cT K p).2 := .inl (T.hd p h)
/-! ### is_route -/
def spRoute (K : PySem.W.Frag) : Sp := fun vs H Q _ => ∃ v r, ∃ d : Nat, vs = [v, .int d] ∧ NkV H (kI (natI r)) v ∧ (1 ≤ r.length ∧ r.length ≤ 3 ∧ ∀ x ∈ r, x < d) ∧ Tbs K H ∧ ∀ H', Gw (lawB K) [] H H' → Q (.bl true) H'
abbrev nRoute : List Str := ["value", "vats", "vat"]
theorem scRoute : FnScope nRoute ["value", "vats"] (defScope sIsRoute) := ⟨rfl, rfl, rfl, by decide +kernel, rfl, by decide +kernel, by decide +kernel⟩
theorem ok_isRoute (T : Tx K mg base) : Cal P w K mg base CX0 "is_route" 5 ["value", "vats"] (spRoute K) := by
  refine T.cal (st := sIsRoute) 2 rfl T.glis_route scRoute (fun _ _ _ _ _ _ us hl => match us, hl with | [_, _], _ => rfl) (fun vs H Q E h => ?_) (fun A outer s H vs Q E hr h => ?_)
  · obtain ⟨v, r, d, rfl, _⟩ := h
    rfl
  · obtain ⟨v, r, d, rfl, nk, ⟨l1, l2, lt⟩, tb, hQ⟩ := h
    refine ⟨_, PSs.nox (pss_cons (ps_if (PW.pt (pw_or (pt_not (pt_val (pe_callB cr_isiK rfl T.frisinstance bIsi (pa_cons (pv 0) (pa_cons (pe_ty rfl T.frtuple bTuple) pa_nil))))) (pw_or1 (pt_not (pt_chain op_le op_le pe_int (pe_callB cr_lenK rfl T.frlen bLen (pa_cons (pv 0) pa_nil)) (pe_num rfl T.inMOST_LONG)))))) (pss_one (ps_ret pe_bl)) (pss_nil))
      (pss_one (ps_ret (pe_genK (base := base) (c := He.codeOf K ("is_route", none)) (B := lawB K) (P := (He.cT K ("is_route", none)).2) (k := 1) (j := 1) (g := (gName 2)) (own := [("vat", 2)]) Asks.all (hr.mono (by decide)) rfl scRoute.nd rfl T.frall bAll T.bm rfl (pi_tupK (pv 0)) (blkOk_by (N := nRoute) (sc := defScope sIsRoute) (by decide +kernel)) (by decide +kernel) (by decide +kernel) (fun _ _ _ _ _ => pg_name (i := 2) scRoute.nd rfl (.inl rfl) (.inr rfl)) (fun _ _ _ _ _ _ hr2 => pe_cal (ok_isNumber T) hr2 rfl (pa_cons (pv 2) (pa_cons pe_int (pa_cons (pe_op op_sub (pv 1) pe_int) pa_nil)))))))), ?_⟩
    obtain ⟨a, us, rfl, ea, al⟩ := nk
    obtain rfl := NkAll.nums.mp al
    have len : (((natI r).map V.int).length : Int) = r.length := by simp
    refine ⟨_, rfl, _, _, _, _, _, rfl, .ty _, .base (.tup ea), kit (r := true), true, rfl, iteF ?_⟩
    refine ⟨_, rfl, a, _, rfl, .inr (.of ea), _, _, rfl, rfl, true, ?_, iteT ⟨_, _, rfl, rfl, true, ?_, iteF ?_⟩⟩
    · rw [len]
      exact congrArg V.bl (decide_eq_true (by omega))
    · rw [len]
      exact congrArg V.bl (decide_eq_true (by omega))
    refine ⟨_, rfl, a, rfl, ⟨_, .of ea⟩, gen_tup (fun _ => true) ea (cdAt T ("is_route", none)) (tb.1 ("is_route", none) (by decide)) tb.2 (fun c' P' i x H2 R hx g _ _ hR => ?_) fun H3 g => ?_⟩
    · rw [List.map_map, List.getElem?_map] at hx
      obtain ⟨y, ey, rfl⟩ := Option.map_eq_some_iff.mp hx
      have hy := lt y (List.mem_of_getElem? ey)
      refine ⟨_, rfl, _, rfl, _, _, rfl, rfl, _, _, _, rfl, .inr (.inr ⟨_, rfl⟩), ?_⟩
      exact vk (hR _ (.refl _ _ _)) (congrArg V.bl (numOk_int (show (0 : Int) ≤ (y : Int) by omega) (show (y : Int) ≤ (d : Int) - 1 by omega)).symm)
    · rw [answer_all]
      exact hQ _ g
/-! ### is_kind -/
def spKind (K : PySem.W.Frag) : Sp := fun vs H Q _ => ∃ v k, ∃ d n : Nat, vs = [v, .int d, .int n] ∧ NkV H (Knd.key k) v ∧ KndOk d n k ∧ Tbs K H ∧ ∀ H', Gw (lawB K) [] H H' → Q (.bl true) H'
abbrev nKind : List Str := ["value", "dyes", "vats", "routes", "route"]
theorem scKind : FnScope nKind ["value", "dyes", "vats"] (defScope sIsKind) := ⟨rfl, rfl, rfl, by decide +kernel, rfl, by decide +kernel, by decide +kernel⟩
theorem ok_isKind (T : Tx K mg base) : Cal P w K mg base CX0 "is_kind" 9 ["value", "dyes", "vats"] (spKind K) := by
  refine T.cal (st := sIsKind) 3 rfl T.glis_kind scKind (fun _ _ _ _ _ _ us hl => match us, hl with | [_, _, _], _ => rfl) (fun vs H Q E h => ?_) (fun A outer s H vs Q E hr h => ?_)
  · obtain ⟨v, r, d, n, rfl, _⟩ := h
    rfl
  · obtain ⟨v, k, d, n, rfl, nk, ok, tb, hQ⟩ := h
    refine ⟨_, PSs.nox (pss_cons (ps_if (PW.pt (pw_or (pt_not (pt_val (pe_callB cr_isiK rfl T.frisinstance bIsi (pa_cons (pv 0) (pa_cons (pe_ty rfl T.frtuple bTuple) pa_nil))))) (pw_or (pt_cmpR op_ne (pe_callB cr_lenK rfl T.frlen bLen (pa_cons (pv 0) pa_nil)) pe_int (nomark _)) (pw_or (pt_not (pt_val (pe_cal (ok_isLot T) hr rfl (pa_cons (pe_ix ix_tupK (pv 0) pe_int (fun _ _ => rfl)) (pa_cons (pv 1) pa_nil))))) (pw_or1 (pt_not (pt_val (pe_cal (ok_isLot T) hr rfl (pa_cons (pe_ix ix_tupK (pv 0) pe_int (fun _ _ => rfl)) (pa_cons (pv 1) pa_nil)))))))))) (pss_one (ps_ret pe_bl)) (pss_nil))
      (pss_cons (ps_set (i := 3) scKind.nd rfl (.inl rfl) (pe_ix ix_tupK (pv 0) pe_int (fun _ _ => rfl)))
      (pss_cons (ps_if (PW.pt (pw_or (pt_not (pt_val (pe_callB cr_isiK rfl T.frisinstance bIsi (pa_cons (pv 3) (pa_cons (pe_ty rfl T.frtuple bTuple) pa_nil))))) (pw_or1 (pt_not (pt_chain op_le op_le pe_int (pe_callB cr_lenK rfl T.frlen bLen (pa_cons (pv 3) pa_nil)) (pe_num rfl T.inMOST_ROUTES)))))) (pss_one (ps_ret pe_bl)) (pss_nil))
      (pss_one (ps_ret (pe_genK (base := base) (c := He.codeOf K ("is_kind", none)) (B := lawB K) (P := (He.cT K ("is_kind", none)).2) (k := 1) (j := 5) (g := (gName 4)) (own := [("route", 4)]) Asks.all (hr.mono (by decide)) rfl scKind.nd rfl T.frall bAll T.bm rfl (pi_tupK (pv 3)) (blkOk_by (N := nKind) (sc := defScope sIsKind) (by decide +kernel)) (by decide +kernel) (by decide +kernel) (fun _ _ _ _ _ => pg_name (i := 4) scKind.nd rfl (.inl rfl) (.inr rfl)) (fun _ _ _ _ _ _ hr2 => pe_cal (ok_isRoute T) hr2 rfl (pa_cons (pv 4) (pa_cons (pv 2) pa_nil))))))))), ?_⟩
    obtain ⟨a, us, rfl, ea, v0, _, rfl, n0, v1, _, rfl, n1, v2, _, rfl, n2, rfl⟩ := nk
    refine ⟨_, rfl, _, _, _, _, _, rfl, .ty _, .base (.tup ea), kit (r := true), true, rfl, iteF ?_⟩
    refine ⟨_, rfl, a, _, rfl, .inr (.of ea), rfl, _, rfl, iteF ?_⟩
    refine ⟨_, rfl, _, _, _, _, rfl, rfl, .of ea, atI_nat (j := 0) rfl, _, rfl, _, _, _, rfl, n0, ok.wants, tb, fun H1 g1 => ?_⟩
    refine ⟨true, rfl, iteF ?_⟩
    have ea1 := g1.tups _ _ ea
    refine ⟨_, rfl, _, _, _, _, rfl, rfl, .of ea1, atI_nat (j := 1) rfl, _, rfl, _, _, _, rfl, n1.gw g1, ok.bars, tb.gw g1, fun H2 g2 => ?_⟩
    refine ⟨true, rfl, iteF ?_⟩
    have ea2 := g2.tups _ _ ea1
    have tb2 := (tb.gw g1).gw g2
    refine ⟨_, rfl, _, _, _, _, rfl, rfl, .of ea2, atI_nat (j := 2) rfl, ?_⟩
    obtain ⟨b, rs, rfl, eb, al⟩ := (n2.gw g1).gw g2
    have len : (rs.length : Int) = k.routes.length := by
      have := al.length
      simp at this
      omega
    have r1 := ok.r1
    have r2 := ok.r2
    refine ⟨_, rfl, _, _, _, _, _, rfl, .ty _, .base (.tup eb), kit (r := true), true, rfl, iteF ?_⟩
    refine ⟨_, rfl, b, _, rfl, .inr (.of eb), _, _, rfl, rfl, true, ?_, iteT ⟨_, _, rfl, rfl, true, ?_, iteF ?_⟩⟩
    · rw [len]
      exact congrArg V.bl (decide_eq_true (by omega))
    · rw [len]
      exact congrArg V.bl (decide_eq_true (by omega))
    refine ⟨_, rfl, b, rfl, ⟨_, .of eb⟩, gen_tup (fun _ => true) eb (cdAt T ("is_kind", none)) (tb2.1 ("is_kind", none) (by decide)) tb2.2 (fun c' P' i x H3 R hx g _ _ hR => ?_) fun H3 g => ?_⟩
    · obtain ⟨kk, ek, nx⟩ := al.nat hx
      rw [List.getElem?_map] at ek
      obtain ⟨r, er, rfl⟩ := Option.map_eq_some_iff.mp ek
      exact ⟨_, rfl, _, rfl, _, r, _, rfl, nx.gw g, ok.rl r (List.mem_of_getElem? er), tb2.gw g, fun H4 g4 => hR _ g4⟩
    · rw [answer_all]
      exact hQ _ (g1.trans (g2.trans g))
/-! ### need_works -/
def spNeedWorks (K : PySem.W.Frag) : Sp := fun vs H Q _ => ∃ v k, vs = [v] ∧ NkV H (Wks.key k) v ∧ WksOk k ∧ Tbs K H ∧ ∀ H', Gw (lawB K) [] H H' → Q .non H'
abbrev nNeedWorks : List Str := ["value", "dyes", "vats", "kinds", "own", "kind"]
theorem scNeedWorks : FnScope nNeedWorks ["value"] (defScope sNeedWorks) := ⟨rfl, rfl, rfl, by decide +kernel, rfl, by decide +kernel, by decide +kernel⟩
theorem ok_needWorks (T : Tx K mg base) : Cal P w K mg base CX0 "need_works" 13 ["value"] (spNeedWorks K) := by
  refine T.cal (st := sNeedWorks) 4 rfl T.glneed_works scNeedWorks (fun _ _ _ _ _ _ us hl => match us, hl with | [_], _ => rfl) (fun vs H Q E h => ?_) (fun A outer s H vs Q E hr h => ?_)
  · obtain ⟨v, k, rfl, _⟩ := h
    rfl
  · obtain ⟨v, k, rfl, nk, ok, tb, hQ⟩ := h
    refine ⟨_, PSs.nox (pss_cons (ps_if (PW.pt (pw_or (pt_not (pt_val (pe_callB cr_isiK rfl T.frisinstance bIsi (pa_cons (pv 0) (pa_cons (pe_ty rfl T.frtuple bTuple) pa_nil))))) (pw_or1 (pt_cmpR op_ne (pe_callB cr_lenK rfl T.frlen bLen (pa_cons (pv 0) pa_nil)) pe_int (nomark _))))) (pss_never) (pss_nil))
      (pss_cons (ps_asg (pv 0) (pg_tupK (n := 3) rfl (pgs_cons (pg_name (i := 1) scNeedWorks.nd rfl (.inr rfl)) (pgs_cons (pg_name (i := 2) scNeedWorks.nd rfl (.inr rfl)) (pgs_cons (pg_name (i := 3) scNeedWorks.nd rfl (.inl rfl)) pgs_nil)))))
      (pss_cons (ps_if (pt_not (pt_val (pe_cal (ok_isNumber T) hr rfl (pa_cons (pv 1) (pa_cons pe_int (pa_cons (pe_num rfl T.inMOST_DYES) pa_nil)))))) (pss_never) (pss_nil))
      (pss_cons (ps_if (PW.pt (pw_or (pt_not (pt_val (pe_callB cr_isiK rfl T.frisinstance bIsi (pa_cons (pv 2) (pa_cons (pe_ty rfl T.frtuple bTuple) pa_nil))))) (pw_or (pt_not (pt_chain op_le op_le pe_int (pe_callB cr_lenK rfl T.frlen bLen (pa_cons (pv 2) pa_nil)) (pe_num rfl T.inMOST_VATS))) (pw_or1 (pt_not (pt_val (pe_genK (base := base) (c := He.codeOf K ("need_works", none)) (B := lawB K) (P := (He.cT K ("need_works", none)).2) (k := 1) (j := 5) (g := (gName 4)) (own := [("own", 4)]) Asks.all (hr.mono (by decide)) rfl scNeedWorks.nd rfl T.frall bAll T.bm rfl (pi_tupK (pv 2)) (blkOk_by (N := nNeedWorks) (sc := defScope sNeedWorks) (by decide +kernel)) (by decide +kernel) (by decide +kernel) (fun _ _ _ _ _ => pg_name (i := 4) scNeedWorks.nd rfl (.inl rfl) (.inr rfl)) (fun _ _ _ _ _ _ hr2 => pe_cal (ok_isLot T) hr2 rfl (pa_cons (pv 4) (pa_cons (pv 1) pa_nil)))))))))) (pss_never) (pss_nil))
      (pss_cons (ps_if (PW.pt (pw_or (pt_not (pt_val (pe_callB cr_isiK rfl T.frisinstance bIsi (pa_cons (pv 3) (pa_cons (pe_ty rfl T.frtuple bTuple) pa_nil))))) (pw_or1 (pt_not (pt_chain op_le op_le pe_int (pe_callB cr_lenK rfl T.frlen bLen (pa_cons (pv 3) pa_nil)) (pe_num rfl T.inMOST_KINDS)))))) (pss_never) (pss_nil))
      (pss_one (ps_if (pt_not (pt_val (pe_genK (base := base) (c := He.codeOf K ("need_works", none)) (B := lawB K) (P := (He.cT K ("need_works", none)).2) (k := 1) (j := 9) (g := (gName 5)) (own := [("kind", 5)]) Asks.all (hr.mono (by decide)) rfl scNeedWorks.nd rfl T.frall bAll T.bm rfl (pi_tupK (pv 3)) (blkOk_by (N := nNeedWorks) (sc := defScope sNeedWorks) (by decide +kernel)) (by decide +kernel) (by decide +kernel) (fun _ _ _ _ _ => pg_name (i := 5) scNeedWorks.nd rfl (.inl rfl) (.inr rfl)) (fun _ _ _ _ _ _ hr2 => pe_cal (ok_isKind T) hr2 rfl (pa_cons (pv 5) (pa_cons (pv 1) (pa_cons (pe_callB cr_lenK rfl T.frlen bLen (pa_cons (pv 2) pa_nil)) pa_nil))))))) (pss_never) (pss_nil)))))))), ?_⟩
    obtain ⟨a, us, rfl, ea, v0, _, rfl, n0, v1, _, rfl, n1, v2, _, rfl, n2, rfl⟩ := nk
    obtain rfl : v0 = .int k.dyes := n0
    obtain ⟨b, bs, rfl, eb, alb⟩ := n1
    obtain ⟨c, cs, rfl, ec, alc⟩ := n2
    have lb : (bs.length : Int) = k.vats.length := by
      have := alb.length
      simp at this
      omega
    have lc : (cs.length : Int) = k.kinds.length := by
      have := alc.length
      simp at this
      omega
    have h1 := ok.d1
    have h2 := ok.d2
    have h3 := ok.v1
    have h4 := ok.v2
    have h5 := ok.k1
    have h6 := ok.k2
    refine ⟨_, rfl, _, _, _, _, _, rfl, .ty _, .base (.tup ea), kit (r := true), true, rfl, iteF ?_⟩
    refine ⟨_, rfl, a, _, rfl, .inr (.of ea), rfl, _, rfl, iteF ?_⟩
    refine ⟨_, rfl, a, _, rfl, .of ea, rfl, _, _, rfl, _, _, rfl, _, _, rfl, rfl, ?_⟩
    refine ⟨_, rfl, _, _, _, rfl, .inr (.inr ⟨_, rfl⟩), _, rfl, ?_⟩
    rw [numOk_int (by omega) (by omega)]
    refine iteF ?_
    refine ⟨_, rfl, _, _, _, _, _, rfl, .ty _, .base (.tup eb), kit (r := true), true, rfl, iteF ?_⟩
    refine ⟨_, rfl, b, _, rfl, .inr (.of eb), _, _, rfl, rfl, true, ?_, iteT ⟨_, _, rfl, rfl, true, ?_, iteF ?_⟩⟩
    · rw [lb]
      exact congrArg V.bl (decide_eq_true (by omega))
    · rw [lb]
      exact congrArg V.bl (decide_eq_true (by omega))
    refine ⟨_, rfl, b, rfl, ⟨_, .of eb⟩, gen_tup (fun _ => true) eb (cdAt T ("need_works", none)) (tb.1 ("need_works", none) (by decide)) tb.2 (fun c' P' i x H3 R hx g _ _ hR => ?_) fun H3 g => ?_⟩
    · obtain ⟨kk, ek, nx⟩ := alb.nat hx
      rw [List.getElem?_map] at ek
      obtain ⟨r, er, rfl⟩ := Option.map_eq_some_iff.mp ek
      exact ⟨_, rfl, _, rfl, _, r, _, rfl, nx.gw g, ok.vat r (List.mem_of_getElem? er), tb.gw g, fun H4 g4 => hR _ g4⟩
    rw [answer_all]
    refine ⟨true, rfl, iteF ?_⟩
    have ec3 := g.tups _ _ ec
    have eb3 := g.tups _ _ eb
    have tb3 := tb.gw g
    refine ⟨_, rfl, _, _, _, _, _, rfl, .ty _, .base (.tup ec3), kit (r := true), true, rfl, iteF ?_⟩
    refine ⟨_, rfl, c, _, rfl, .inr (.of ec3), _, _, rfl, rfl, true, ?_, iteT ⟨_, _, rfl, rfl, true, ?_, iteF ?_⟩⟩
    · rw [lc]
      exact congrArg V.bl (decide_eq_true (by omega))
    · rw [lc]
      exact congrArg V.bl (decide_eq_true (by omega))
    refine ⟨_, rfl, c, rfl, ⟨_, .of ec3⟩, gen_tup (fun _ => true) ec3 (cdAt T ("need_works", none)) (tb3.1 ("need_works", none) (by decide)) tb3.2 (fun c' P' i x H4 R hx g4 _ _ hR => ?_) fun H4 g4 => ?_⟩
    · obtain ⟨kk, ek, nx⟩ := alc.nat hx
      rw [List.getElem?_map] at ek
      obtain ⟨r, er, rfl⟩ := Option.map_eq_some_iff.mp ek
      refine ⟨_, rfl, _, rfl, _, rfl, b, _, rfl, .inr (.of (g4.tups _ _ eb3)), _, r, k.dyes, k.vats.length, ?_, (nx.gw g).gw g4, ok.knd r (List.mem_of_getElem? er), tb3.gw g4, fun H5 g5 => hR _ g5⟩
      rw [lb] <;> rfl
    · rw [answer_all]
      exact ⟨true, rfl, iteF (hQ _ (g.trans g4))⟩
end
end Dy
end
section
set_option Elab.async false
set_option linter.all false
set_option maxRecDepth 100000
/-! Dyes met on a route, in plain Lean. -/
namespace Dy
open PySem PySem.Spec PyProof.Rows L2
/-- put into a rising list -/
def insS (x : Int) : List Int → List Int
  | [] => [x]
  | y :: ys => if x < y then x :: y :: ys else if x = y then y :: ys else y :: insS x ys
theorem mem_insS {x z : Int} : ∀ {ys : List Int}, z ∈ insS x ys ↔ z = x ∨ z ∈ ys
  | [] => by simp [insS]
  | y :: ys => by
    unfold insS
    split
    · simp
    · split
      · rename_i h
        subst h
        simp
      · rw [List.mem_cons, mem_insS (ys := ys), List.mem_cons]
        constructor
        · rintro (h | h | h)
          · exact .inr (.inl h)
          · exact .inl h
          · exact .inr (.inr h)
        · rintro (h | h | h)
          · exact .inr (.inl h)
          · exact .inl h
          · exact .inr (.inr h)
theorem up_insS {x : Int} : ∀ {ys : List Int}, ys.Pairwise (· < ·) → (insS x ys).Pairwise (· < ·)
  | [], _ => by simp [insS]
  | y :: ys, h => by
    obtain ⟨h1, h2⟩ := List.pairwise_cons.mp h
    unfold insS
    split
    · rename_i hx
      refine List.pairwise_cons.mpr ⟨fun z hz => ?_, h⟩
      rcases List.mem_cons.mp hz with e | e
      · omega
      · have := h1 z e
        omega
    · split
      · exact h
      · rename_i hx hn
        refine List.pairwise_cons.mpr ⟨fun z hz => ?_, up_insS h2⟩
        rcases mem_insS.mp hz with e | e
        · omega
        · exact h1 z e
def join (a b : List Int) : List Int := (a ++ b).foldr insS []
theorem up_join {a b : List Int} : (join a b).Pairwise (· < ·) := by
  unfold join
  induction a ++ b with
  | nil => exact List.Pairwise.nil
  | cons x xs ih => exact up_insS ih
theorem mem_join {a b : List Int} {x : Int} : x ∈ join a b ↔ x ∈ a ∨ x ∈ b := by
  have key : ∀ l : List Int, x ∈ l.foldr insS [] ↔ x ∈ l := fun l => by
    induction l with
    | nil => simp
    | cons y ys ih => rw [List.foldr_cons, mem_insS, ih, List.mem_cons]
  unfold join
  rw [key, List.mem_append]
theorem up_uniq : ∀ {a b : List Int}, a.Pairwise (· < ·) → b.Pairwise (· < ·) → (∀ x, x ∈ a ↔ x ∈ b) → a = b
  | [], [], _, _, _ => rfl
  | [], y :: b, _, _, h => by
    have := (h y).mpr List.mem_cons_self
    cases this
  | x :: a, [], _, _, h => by
    have := (h x).mp List.mem_cons_self
    cases this
  | x :: a, y :: b, p, q, h => by
    obtain ⟨p1, p2⟩ := List.pairwise_cons.mp p
    obtain ⟨q1, q2⟩ := List.pairwise_cons.mp q
    have e : x = y := by
      rcases List.mem_cons.mp ((h x).mp List.mem_cons_self) with e | e
      · exact e
      · rcases List.mem_cons.mp ((h y).mpr List.mem_cons_self) with f | f
        · exact f.symm
        · have h1 := q1 x e
          have h2 := p1 y f
          omega
    subst e
    rw [up_uniq p2 q2 fun z => ?_]
    have hz := h z
    rw [List.mem_cons, List.mem_cons] at hz
    constructor
    · intro m
      rcases hz.mp (.inr m) with e | e
      · have := p1 z m
        omega
      · exact e
    · intro m
      rcases hz.mpr (.inr m) with e | e
      · have := q1 z m
        omega
      · exact e
theorem join_eq {a b ns : List Int} (h : ns.Pairwise (· < ·)) (m : ∀ x, x ∈ ns ↔ x ∈ a ∨ x ∈ b) : ns = join a b := up_uniq h up_join fun x => (m x).trans mem_join.symm
theorem lot_join {d : Nat} {a b : List Int} (ha : LotOk d a) (hb : LotOk d b) : LotOk d (join a b) :=
  ⟨up_join, fun x hx => (mem_join.mp hx).elim (ha.lo x) (hb.lo x), fun x hx => (mem_join.mp hx).elim (ha.hi x) (hb.hi x)⟩
theorem lot_nil {d : Nat} : LotOk d [] := ⟨.nil, fun _ h => (nomatch h), fun _ h => (nomatch h)⟩
/-- the vats' traces -/
structure StOk (d n : Nat) (s : List (List Int)) : Prop where
  len : s.length = n
  lot : ∀ x ∈ s, LotOk d x
def bstep (p : List (List Int) × List Int) (v : Nat) : List (List Int) × List Int := (p.1.set v (join p.2 (p.1.getD v [])), join p.2 (p.1.getD v []))
def beh (s : List (List Int)) (r : List Nat) : List (List Int) × List Int := r.foldl bstep (s, [])
theorem getD_lot {d n : Nat} {s : List (List Int)} (h : StOk d n s) (v : Nat) : LotOk d (s.getD v []) := by
  rw [List.getD_eq_getElem?_getD]
  cases e : s[v]? with
  | none => exact lot_nil
  | some x => exact h.lot x (List.mem_of_getElem? e)
theorem bstep_ok {d n : Nat} {p : List (List Int) × List Int} {v : Nat} (h : StOk d n p.1) (hc : LotOk d p.2) : StOk d n (bstep p v).1 ∧ LotOk d (bstep p v).2 := by
  have j := lot_join hc (getD_lot h v)
  refine ⟨⟨by show (p.1.set v _).length = n; rw [List.length_set]; exact h.len, fun x hx => ?_⟩, j⟩
  rcases List.mem_or_eq_of_mem_set hx with e | e
  · exact h.lot x e
  · rw [e]
    exact j
theorem foldl_ok {d n : Nat} : ∀ (r : List Nat) {p : List (List Int) × List Int}, StOk d n p.1 → LotOk d p.2 → StOk d n (r.foldl bstep p).1 ∧ LotOk d (r.foldl bstep p).2
  | [], _, h, hc => ⟨h, hc⟩
  | v :: r, _, h, hc => by
    obtain ⟨h1, h2⟩ := bstep_ok (v := v) h hc
    exact foldl_ok r h1 h2
theorem beh_ok {d n : Nat} {s : List (List Int)} (h : StOk d n s) (r : List Nat) : StOk d n (beh s r).1 ∧ LotOk d (beh s r).2 := foldl_ok r h lot_nil
def Wks.knd (w : Wks) (k : Nat) : Knd := w.kinds.getD k ⟨[], [], []⟩
def Wks.route (w : Wks) (k n : Nat) : List Nat := (w.knd k).routes.getD n []
def hasW (w : Wks) (k : Nat) (r : List Nat) : Bool := (w.knd k).wants.all fun d => r.any fun v => (w.vats.getD v []).contains d
def isC (w : Wks) (k : Nat) (c : List Int) : Bool := !(c.any fun d => (w.knd k).bars.contains d)
def dy (w : Wks) (s : List (List Int)) (k n : Nat) : List (List Int) × Bool := ((beh s (w.route k n)).1, hasW w k (w.route k n) && isC w k (beh s (w.route k n)).2)
theorem StOk.of (w : Wks) (h : WksOk w) : StOk w.dyes w.vats.length w.vats := ⟨rfl, h.vat⟩
theorem Wks.knd_at {w : Wks} {k : Nat} (h : k < w.kinds.length) : w.kinds[k]? = some (w.knd k) := by
  unfold Wks.knd
  rw [List.getElem?_eq_getElem h, List.getD_eq_getElem?_getD, List.getElem?_eq_getElem h] <;> rfl
theorem WksOk.at {w : Wks} (ok : WksOk w) {k : Nat} (h : k < w.kinds.length) : KndOk w.dyes w.vats.length (w.knd k) := ok.knd _ (List.mem_of_getElem? (Wks.knd_at h))
theorem Wks.route_at {w : Wks} {k n : Nat} (h : n < (w.knd k).routes.length) : (w.knd k).routes[n]? = some (w.route k n) := by
  unfold Wks.route
  rw [List.getElem?_eq_getElem h, List.getD_eq_getElem?_getD, List.getElem?_eq_getElem h] <;> rfl
theorem KndOk.at {w : Wks} {k n : Nat} (ok : KndOk w.dyes w.vats.length (w.knd k)) (h : n < (w.knd k).routes.length) : 1 ≤ (w.route k n).length ∧ (w.route k n).length ≤ 3 ∧ ∀ x ∈ w.route k n, x < w.vats.length := ok.rl _ (List.mem_of_getElem? (Wks.route_at h))
theorem dy_ok {w : Wks} {s : List (List Int)} {d n : Nat} (h : StOk d n s) (k i : Nat) : StOk d n (dy w s k i).1 := (beh_ok h _).1
end Dy
end
section
set_option Elab.async false
set_option linter.all false
set_option maxRecDepth 100000
set_option maxHeartbeats 4000000
/-! joined, behind, has_wants, is_clean, dyed. -/
namespace Dy
open PySem PySem.Spec PyProof.Rows L2
theorem getD_of {α : Type} {l : List α} {i : Nat} {x d : α} (e : l[i]? = some x) : l.getD i d = x := by
  rw [List.getD_eq_getElem?_getD, e] <;> rfl
theorem inV_int {d : Int} {xs : List Int} : inV (.int d) (xs.map V.int) = xs.contains d := by
  unfold inV
  rw [List.any_map, List.contains_eq_any_beq]
  congr 1
  funext y
  show (y == d) = (d == y)
  exact BEq.comm
theorem flat_ints {xs : List Int} : (xs.map V.int).all flatV = true := by
  rw [List.all_map]
  exact List.all_eq_true.mpr fun _ _ => rfl
theorem ixN_nat {n j : Nat} (h : j < n) : ixN n (j : Int) = some j := by
  unfold ixN
  rw [if_pos (by omega), if_pos (by omega)]
  simp
theorem answer_list {α : Type} {p : α → Bool} {xs : List α} {f : Nat → Bool} (h : ∀ i x, xs[i]? = some x → f i = p x) : answer false xs.length f = xs.all p := by
  cases e : xs.all p with
  | true =>
    have := List.all_eq_true.mp e
    exact answer_go fun i hi z => by
      rw [h i xs[i] (List.getElem?_eq_getElem hi), this _ (List.getElem_mem hi)] at z
      cases z
  | false =>
    obtain ⟨x, hx, z⟩ := List.all_eq_false.mp e
    obtain ⟨i, hi, rfl⟩ := List.mem_iff_getElem.mp hx
    exact answer_stop hi (by rw [h i xs[i] (List.getElem?_eq_getElem hi)]; exact Bool.eq_false_iff.mpr z)
theorem answer_listA {α : Type} {p : α → Bool} {xs : List α} {f : Nat → Bool} (h : ∀ i x, xs[i]? = some x → f i = p x) : answer true xs.length f = xs.any p := by
  cases e : xs.any p with
  | true =>
    obtain ⟨x, hx, z⟩ := List.any_eq_true.mp e
    obtain ⟨i, hi, rfl⟩ := List.mem_iff_getElem.mp hx
    exact answer_stop hi (by rw [h i xs[i] (List.getElem?_eq_getElem hi)]; exact z)
  | false =>
    have := List.any_eq_false.mp e
    exact answer_go fun i hi z => by
      rw [h i xs[i] (List.getElem?_eq_getElem hi)] at z
      exact this _ (List.getElem_mem hi) z
theorem NkAll.set {H : Hp} : ∀ {ks : List NestedKey} {vs : List V} {k : NestedKey} {v : V}, NkAll H ks vs → NkV H k v → ∀ i, NkAll H (ks.set i k) (vs.set i v)
  | [], vs, k, v, h, _, i => by
    have h : vs = [] := h
    subst h
    exact rfl
  | k0 :: ks, vs, k, v, h, hv, 0 => by
    obtain ⟨v0, r, rfl, _, t⟩ := h
    exact ⟨v, r, rfl, hv, t⟩
  | k0 :: ks, vs, k, v, h, hv, i + 1 => by
    obtain ⟨v0, r, rfl, h0, t⟩ := h
    exact ⟨v0, _, rfl, h0, NkAll.set t hv i⟩
theorem Gw.lst {B p : Addr} {H : Hp} {xs ys : List V} (e : H p = some (.lst xs)) : Gw B [p] H (upd H p (.lst ys)) := (Gw.refl B [p] H).put (.inr List.mem_cons_self) e .lst
section
variable {P : Program} {w : World} {K : PySem.W.Frag} {mg : Str → Option Value} {base : Heap}
/-! ### joined -/
def spJoined (K : PySem.W.Frag) : Sp := fun vs H Q _ => ∃ v1 v2 a b, vs = [v1, v2] ∧ NkV H (kI a) v1 ∧ NkV H (kI b) v2 ∧ a.length + b.length ≤ 60 ∧ ∀ v H', Gw (lawB K) [] H H' → NkV H' (kI (join a b)) v → Q v H'
abbrev nJoined : List Str := ["one", "other"]
theorem scJoined : FnScope nJoined ["one", "other"] (defScope sJoined) := ⟨rfl, rfl, rfl, by decide +kernel, rfl, by decide +kernel, by decide +kernel⟩
theorem ok_joined (T : Tx K mg base) : Cal P w K mg base CX0 "joined" 1 ["one", "other"] (spJoined K) := by
  refine T.cal (st := sJoined) 5 rfl T.gljoined scJoined (fun _ _ _ _ _ _ us hl => match us, hl with | [_, _], _ => rfl) (fun vs H Q E h => ?_) (fun A outer s H vs Q E hr h => ?_)
  · obtain ⟨v1, v2, a, b, rfl, _⟩ := h
    rfl
  · obtain ⟨v1, v2, a, b, rfl, ⟨p1, us1, rfl, e1, al1⟩, ⟨p2, us2, rfl, e2, al2⟩, hl, hQ⟩ := h
    obtain rfl := NkAll.nums.mp al1
    obtain rfl := NkAll.nums.mp al2
    refine ⟨_, PSs.nox (pss_one (ps_ret (pe_callTy cr_tupleK rfl T.frtuple bTuple (pa_cons (pe_callB (cr_sortedSet rfl) rfl T.frsorted bSorted (pa_cons (pe_callTy (cr_setI rfl) rfl T.frset bSet (pa_cons (pe_op op_catK (pv 0) (pv 1)) pa_nil)) pa_nil)) pa_nil)))), ?_⟩
    refine ⟨_, rfl, _, rfl, ?_⟩
    refine a_cat (B := lawB K) e1 e2 (by simp; omega) fun p H1 g1 ep => ?_
    rw [← List.map_append] at ep
    refine ⟨p, a ++ b, rfl, .inl (.of ep), by simp; omega, fun q c nq hc => ?_⟩
    refine ⟨q, _, c, rfl, upd_same, by simp at hc; omega, fun ns r up mem ln nr => ?_⟩
    refine ⟨r, _, rfl, .inl ⟨.of upd_same, fun t nt => ?_⟩⟩
    have e : ns = join a b := join_eq up fun x => by rw [mem, decide_eq_true_eq, List.mem_append]
    subst e
    exact hQ _ _ (((g1.add nq).add nr).add nt) ⟨t, _, rfl, upd_same, NkAll.nums.mpr rfl⟩
/-! ### behind -/
def spBehind (K : PySem.W.Frag) : Sp := fun vs H Q _ => ∃ v1 v2 s r, ∃ d n : Nat, vs = [v1, v2] ∧ NkV H (kS s) v1 ∧ NkV H (kI (natI r)) v2 ∧ StOk d n s ∧ d ≤ 20 ∧ n ≤ 20 ∧ (∀ x ∈ r, x < n) ∧
  ∀ p l c H', Gw (lawB K) [] H H' → H' p = some (.tup [l, c]) → NkV H' (kS (beh s r).1) l → NkV H' (kI (beh s r).2) c → Q (.ref p) H'
abbrev nBehind : List Str := ["stand", "route", "traces", "carried", "vat"]
theorem scBehind : FnScope nBehind ["stand", "route"] (defScope sBehind) := ⟨rfl, rfl, rfl, by decide +kernel, rfl, by decide +kernel, by decide +kernel⟩
theorem ok_behind (T : Tx K mg base) : Cal P w K mg base CX0 "behind" 2 ["stand", "route"] (spBehind K) := by
  refine T.cal (st := sBehind) 6 rfl T.glbehind scBehind (fun _ _ _ _ _ _ us hl => match us, hl with | [_, _], _ => rfl) (fun vs H Q E h => ?_) (fun A outer s0 H vs Q E hr h => ?_)
  · obtain ⟨v1, v2, a, b, d, n, rfl, _⟩ := h
    rfl
  · obtain ⟨v1, v2, s, r, d, n, rfl, ⟨p1, us1, rfl, e1, al1⟩, ⟨p2, us2, rfl, e2, al2⟩, ok, hd, hn, hr2, hQ⟩ := h
    obtain rfl := NkAll.nums.mp al2
    refine ⟨_, PSs.nox (pss_cons (ps_par (i := 2) (j := 3) rfl scBehind.nd rfl rfl (by decide) rfl rfl (pa_cons (pe_callTy cr_listK rfl T.frlist bList (pa_cons (pv 0) pa_nil)) (pa_cons (pe_tup pa_nil) pa_nil)) rfl)
      (pss_cons (ps_for PassesOwn.never rfl (pi_tupK (pv 1)) (pg_name (i := 4) scBehind.nd rfl (.inl rfl)) (pss_cons (ps_set (i := 3) scBehind.nd rfl (.inl rfl) (pe_cal (ok_joined T) hr rfl (pa_cons (pv 3) (pa_cons (pe_ix ix_listK (pv 2) (pv 4) (fun _ _ => rfl)) pa_nil))))
      (pss_one (ps_asg (pv 3) (pg_sub (pv 2) (pv 4) set_list)))))
      (pss_one (ps_ret (pe_tup (pa_cons (pe_callTy cr_tupleK rfl T.frtuple bTuple (pa_cons (pv 2) pa_nil)) (pa_cons (pv 3) pa_nil))))))), ?_⟩
    refine ⟨_, rfl, p1, _, rfl, .inr (.of e1), fun p np => ⟨by decide, fun q nq => ?_⟩⟩
    refine ⟨_, _, rfl, ?_⟩
    have g0 : Gw (lawB K) [] H (upd (upd H p (.lst us1)) q (.tup [])) := (Gw.new np).add nq
    have pq : p ≠ q := ne_of_none upd_same nq
    refine ⟨_, rfl, p2, rfl, ⟨_, .of (g0.tups _ _ e2)⟩, ?_⟩
    refine for_tup (xs := (natI r).map V.int) (fun i σ H' => ∃ (ts : List V) (c : V) (x : Option V), σ = [some (.ref p1), some (.ref p2), some (.ref p), some c, x] ∧ Gw (lawB K) [] H H' ∧ H' p = some (.lst ts) ∧ NkAll H' (((r.take i).foldl bstep (s, [])).1.map kI) ts ∧ NkV H' (kI ((r.take i).foldl bstep (s, [])).2) c) ?_ (fun i σ H' _ hp => ?_) (fun i x σ H' hx hp => ?_) fun σ H' hp => ?_
    · exact ⟨us1, .ref q, none, rfl, g0, by rw [upd_ne pq]; exact upd_same, al1.gw g0, ⟨q, [], rfl, upd_same, rfl⟩⟩
    · obtain ⟨_, _, _, _, g, _⟩ := hp
      exact .of (g.tups _ _ e2)
    · obtain ⟨ts, c, x0, rfl, g, ep, al, nc⟩ := hp
      rw [List.map_map, List.getElem?_map] at hx
      obtain ⟨v, ev, rfl⟩ := Option.map_eq_some_iff.mp hx
      have hv := hr2 v (List.mem_of_getElem? ev)
      have okI : StOk d n ((r.take i).foldl bstep (s, [])).1 ∧ LotOk d ((r.take i).foldl bstep (s, [])).2 := foldl_ok _ ok lot_nil
      have estep : (r.take (i + 1)).foldl bstep (s, []) = bstep ((r.take i).foldl bstep (s, [])) v := by
        rw [List.take_add_one, ev, Option.toList_some, List.foldl_append] <;> rfl
      generalize (r.take i).foldl bstep (s, []) = cur at *
      have ltk : v < (cur.1.map kI).length := by rw [List.length_map, okI.1.len]; exact hv
      have lts : v < ts.length := al.length ▸ ltk
      obtain ⟨y, ey, ny⟩ := al.get (i := v) (List.getElem?_eq_getElem ltk)
      have ek : (cur.1.map kI)[v] = kI (cur.1.getD v []) := by
        rw [List.getElem_map, List.getD_eq_getElem?_getD, List.getElem?_eq_getElem (by simpa using ltk)] <;> rfl
      rw [ek] at ny
      have ll := (getD_lot okI.1 v).len
      have lc := okI.2.len
      refine ⟨_, rfl, _, rfl, _, rfl, p, ts, _, y, rfl, rfl, .of ep, atI_nat ey, ?_⟩
      refine ⟨_, _, _, _, rfl, nc, ny, by omega, fun c' H2 g2 nc' => ?_⟩
      have ep2 := g2.keep p _ (by simp) ep (fun _ z => nomatch z)
      refine ⟨_, rfl, _, rfl, _, rfl, p, ts, _, v, rfl, rfl, ep2, ixN_nat lts, ?_⟩
      have g3 : Gw (lawB K) [p] H2 (upd H2 p (.lst (ts.set v c'))) := .lst ep2
      refine ⟨ts.set v c', c', _, rfl, (g.trans g2).put (.inl np) ep2 .lst, upd_same, ?_, ?_⟩
      · rw [estep]
        show NkAll _ ((cur.1.set v (join cur.2 (cur.1.getD v []))).map kI) _
        rw [List.map_set]
        exact ((al.gw g2).set nc' v).gw g3
      · rw [estep]
        exact nc'.gw g3
    · obtain ⟨ts, c, x0, rfl, g, ep, al, nc⟩ := hp
      have et : r.take ((natI r).map V.int).length = r := List.take_of_length_le (by simp)
      rw [et] at al nc
      refine ⟨_, rfl, p, ts, rfl, .inl ⟨.of ep, fun t nt => ⟨_, rfl, by show 2 ≤ sizeLine; decide, fun u nu => ?_⟩⟩⟩
      have g2 : Gw (lawB K) [] H' (upd (upd H' t (.tup ts)) u (.tup [.ref t, c])) := (Gw.new nt).add nu
      have et2 : upd (upd H' t (.tup ts)) u (.tup [.ref t, c]) t = some (.tup ts) := by
        rw [upd_ne (ne_of_none upd_same nu)]
        exact upd_same
      exact hQ u (.ref t) c _ (g.trans g2) upd_same ⟨t, ts, rfl, et2, al.gw g2⟩ (nc.gw g2)
/-! ### has_wants -/
/-- works[2][kind] and what stands in it -/
theorem NkV.knd {H : Hp} {k : Wks} {v : V} {i : Nat} (h : NkV H (Wks.key k) v) (hi : i < k.kinds.length) :
    ∃ a v0 v1 c cs e x0 x1 x2, v = .ref a ∧ H a = some (.tup [v0, v1, .ref c]) ∧ NkV H (kS k.vats) v1 ∧ H c = some (.tup cs) ∧ NkAll H (k.kinds.map Knd.key) cs ∧ cs[i]? = some (.ref e) ∧ H e = some (.tup [x0, x1, x2]) ∧ NkV H (kI (k.knd i).wants) x0 ∧ NkV H (kI (k.knd i).bars) x1 ∧ NkV H (.tup ((k.knd i).routes.map fun r => kI (natI r))) x2 := by
  obtain ⟨a, us, rfl, ea, v0, _, rfl, n0, v1, _, rfl, n1, v2, _, rfl, ⟨c, cs, rfl, ec, al⟩, rfl⟩ := h
  obtain ⟨y, ey, ny⟩ := al.get (i := i) (k := (k.knd i).key) (by rw [List.getElem?_map, Wks.knd_at hi] <;> rfl)
  obtain ⟨e, ks, rfl, ee, x0, _, rfl, m0, x1, _, rfl, m1, x2, _, rfl, m2, rfl⟩ := ny
  exact ⟨a, v0, v1, c, cs, e, x0, x1, x2, rfl, ea, n1, ec, al, ey, ee, m0, m1, m2⟩
def spHasWants (K : PySem.W.Frag) : Sp := fun vs H Q _ => ∃ v1 v2 w r, ∃ k : Nat, vs = [v1, .int k, v2] ∧ NkV H (Wks.key w) v1 ∧ NkV H (kI (natI r)) v2 ∧ k < w.kinds.length ∧ (∀ x ∈ r, x < w.vats.length) ∧ Tbs K H ∧
  ∀ H', Gw (lawB K) [] H H' → Q (.bl (hasW w k r)) H'
abbrev nHasWants : List Str := ["works", "kind", "route", "wants", "dye", "vat"]
theorem scHasWants : FnScope nHasWants ["works", "kind", "route"] (defScope sHasWants) := ⟨rfl, rfl, rfl, by decide +kernel, rfl, by decide +kernel, by decide +kernel⟩
def scWantsIn : Scope := match defBody sHasWants with
  | [_, .Return (some (.Call _ [.GeneratorExp _ _ sc _] _ _)) _] => sc
  | _ => defScope sHasWants
theorem ok_hasWants (T : Tx K mg base) : Cal P w K mg base CX0 "has_wants" 7 ["works", "kind", "route"] (spHasWants K) := by
  refine T.cal (st := sHasWants) 7 rfl T.glhas_wants scHasWants (fun _ _ _ _ _ _ us hl => match us, hl with | [_, _, _], _ => rfl) (fun vs H Q E h => ?_) (fun A outer s0 H vs Q E hr h => ?_)
  · obtain ⟨v1, v2, a, b, d, rfl, _⟩ := h
    rfl
  · obtain ⟨v1, v2, wk, r, k, rfl, nw, nr, hk, hv, tb, hQ⟩ := h
    refine ⟨_, PSs.nox (pss_cons (ps_set (i := 3) scHasWants.nd rfl (.inl rfl) (pe_ix ix_tupK (pe_ix ix_tupK (pe_ix ix_tupK (pv 0) pe_int (fun _ _ => rfl)) (pv 1) (fun _ _ => rfl)) pe_int (fun _ _ => rfl)))
      (pss_one (ps_ret (pe_genK (base := base) (c := He.codeOf K ("has_wants", none)) (B := lawB K) (P := (He.cT K ("has_wants", none)).2) (k := 1) (j := 3) (g := (gName 4)) (own := [("dye", 4)]) Asks.all (hr.mono (by decide)) rfl scHasWants.nd rfl T.frall bAll T.bm rfl (pi_tupK (pv 3)) (blkOk_by (N := nHasWants) (sc := defScope sHasWants) (by decide +kernel)) (by decide +kernel) (by decide +kernel) (fun _ _ _ _ _ => pg_name (i := 4) scHasWants.nd rfl (.inr rfl)) (fun _ _ _ _ c1 P1 hr2 => pe_genK (base := base) (c := c1) (B := lawB K) (P := P1) (k := 0) (j := 0) (g := (gName 5)) (own := [("vat", 5)]) Asks.any (hr2.mono (by decide)) rfl scHasWants.nd rfl T.frany bAny T.bm rfl (pi_tupK (pv 2)) (blkOk_by (N := nHasWants) (sc := scWantsIn) (by decide +kernel)) (by decide +kernel) (by decide +kernel) (fun _ _ _ _ _ => pg_name (i := 5) scHasWants.nd rfl (.inl rfl) (.inr rfl)) (fun _ _ _ _ _ _ hr3 => pe_cmpR op_inK (pv 4) (pe_ix ix_tupK (pe_ix ix_tupK (pv 0) pe_int (fun _ _ => rfl)) (pv 5) (fun _ _ => rfl)) rfl)))))), ?_⟩
    have nw0 := nw
    obtain ⟨a, v0, _, c, cs, e, x0, x1, x2, rfl, ea, ⟨b, bs, rfl, eb, alb⟩, ec, alc, ei, ee, m0, m1, m2⟩ := nw.knd hk
    obtain ⟨f, fs, rfl, ef, alf⟩ := m0
    obtain rfl := NkAll.nums.mp alf
    obtain ⟨g, gs, rfl, eg, alg⟩ := nr
    obtain rfl := NkAll.nums.mp alg
    refine ⟨_, rfl, _, _, _, _, rfl, rfl, .of ea, atI_nat (j := 2) rfl, ?_⟩
    refine ⟨_, rfl, _, _, _, _, rfl, rfl, .of ec, atI_nat ei, _, _, _, _, rfl, rfl, .of ee, atI_nat (j := 0) rfl, ?_⟩
    refine ⟨_, rfl, f, rfl, ⟨_, .of ef⟩, gen_tup (fun i => r.any fun v => (wk.vats.getD v []).contains ((wk.knd k).wants.getD i 0)) ef (cdAt T ("has_wants", none)) (tb.1 ("has_wants", none) (by decide)) tb.2 (fun c' P' i x H2 R hx g2 cd2 tb2 hR => ?_) fun H3 g3 => ?_⟩
    · rw [List.getElem?_map] at hx
      obtain ⟨dye, ed, rfl⟩ := Option.map_eq_some_iff.mp hx
      have edd : (wk.knd k).wants.getD i 0 = dye := by
        rw [List.getD_eq_getElem?_getD, ed] <;> rfl
      refine ⟨_, rfl, g, rfl, ⟨_, .of (g2.tups _ _ eg)⟩, gen_tup (fun i => (wk.vats.getD (r.getD i 0) []).contains dye) (g2.tups _ _ eg) cd2 tb2 (fun z => tb.2 (g2.dom _ z)) (fun c3 P3 j y H3 R3 hy g3 _ _ hR3 => ?_) fun H3 g3 => ?_⟩
      · rw [List.map_map, List.getElem?_map] at hy
        obtain ⟨v, ev, rfl⟩ := Option.map_eq_some_iff.mp hy
        have hvv := hv v (List.mem_of_getElem? ev)
        have erd : r.getD j 0 = v := by
          rw [List.getD_eq_getElem?_getD, ev] <;> rfl
        have gg := g2.trans g3
        obtain ⟨y, ey, ny⟩ := alb.get (i := v) (k := kI (wk.vats.getD v [])) (by rw [List.getElem?_map, List.getElem?_eq_getElem hvv, List.getD_eq_getElem?_getD, List.getElem?_eq_getElem hvv] <;> rfl)
        obtain ⟨q, qs, rfl, eq, alq⟩ := ny
        obtain rfl := NkAll.nums.mp alq
        refine ⟨_, rfl, _, rfl, _, _, _, _, rfl, rfl, .of (gg.tups _ _ ea), atI_nat (j := 1) rfl, ?_⟩
        refine ⟨_, rfl, _, _, _, _, rfl, rfl, .of (gg.tups _ _ eb), atI_nat ey, q, _, rfl, .inr (.of (gg.tups _ _ eq)), rfl, flat_ints, ?_⟩
        refine vk (hR3 _ (.refl _ _ _)) (congrArg V.bl ?_)
        rw [erd]
        exact inV_int.symm
      · refine vk (hR _ g3) (congrArg V.bl ?_)
        rw [edd]
        show _ = answer true ((natI r).map V.int).length _
        rw [show ((natI r).map V.int).length = r.length by simp]
        exact (answer_listA fun j v ev => by rw [getD_of ev]).symm
    · refine vk (hQ _ g3) (congrArg V.bl ?_)
      show hasW wk k r = answer false ((wk.knd k).wants.map V.int).length _
      rw [List.length_map]
      exact (answer_list fun j v ev => by rw [getD_of ev]).symm
/-! ### is_clean -/
def spIsClean (K : PySem.W.Frag) : Sp := fun vs H Q _ => ∃ v1 v2 w ca, ∃ k : Nat, vs = [v1, .int k, v2] ∧ NkV H (Wks.key w) v1 ∧ NkV H (kI ca) v2 ∧ k < w.kinds.length ∧ Tbs K H ∧ ∀ H', Gw (lawB K) [] H H' → Q (.bl (isC w k ca)) H'
abbrev nIsClean : List Str := ["works", "kind", "carried", "dye"]
theorem scIsClean : FnScope nIsClean ["works", "kind", "carried"] (defScope sIsClean) := ⟨rfl, rfl, rfl, by decide +kernel, rfl, by decide +kernel, by decide +kernel⟩
theorem ok_isClean (T : Tx K mg base) : Cal P w K mg base CX0 "is_clean" 4 ["works", "kind", "carried"] (spIsClean K) := by
  refine T.cal (st := sIsClean) 8 rfl T.glis_clean scIsClean (fun _ _ _ _ _ _ us hl => match us, hl with | [_, _, _], _ => rfl) (fun vs H Q E h => ?_) (fun A outer s0 H vs Q E hr h => ?_)
  · obtain ⟨v1, v2, a, b, d, rfl, _⟩ := h
    rfl
  · obtain ⟨v1, v2, wk, ca, k, rfl, nw, nr, hk, tb, hQ⟩ := h
    refine ⟨_, PSs.nox (pss_one (ps_ret (pe_not (pe_genK (base := base) (c := He.codeOf K ("is_clean", none)) (B := lawB K) (P := (He.cT K ("is_clean", none)).2) (k := 1) (j := 0) (g := (gName 3)) (own := [("dye", 3)]) Asks.any (hr.mono (by decide)) rfl scIsClean.nd rfl T.frany bAny T.bm rfl (pi_tupK (pv 2)) (blkOk_by (N := nIsClean) (sc := defScope sIsClean) (by decide +kernel)) (by decide +kernel) (by decide +kernel) (fun _ _ _ _ _ => pg_name (i := 3) scIsClean.nd rfl (.inl rfl) (.inr rfl)) (fun _ _ _ _ _ _ hr2 => pe_cmpR op_inK (pv 3) (pe_ix ix_tupK (pe_ix ix_tupK (pe_ix ix_tupK (pv 0) pe_int (fun _ _ => rfl)) (pv 1) (fun _ _ => rfl)) pe_int (fun _ _ => rfl)) rfl))))), ?_⟩
    obtain ⟨a, v0, _, c, cs, e, x0, x1, x2, rfl, ea, _, ec, alc, ei, ee, _, m1, _⟩ := nw.knd hk
    obtain ⟨f, fs, rfl, ef, alf⟩ := m1
    obtain rfl := NkAll.nums.mp alf
    obtain ⟨g, gs, rfl, eg, alg⟩ := nr
    obtain rfl := NkAll.nums.mp alg
    refine ⟨_, rfl, g, rfl, ⟨_, .of eg⟩, gen_tup (fun i => (wk.knd k).bars.contains (ca.getD i 0)) eg (cdAt T ("is_clean", none)) (tb.1 ("is_clean", none) (by decide)) tb.2 (fun c' P' i x H2 R hx g2 cd2 tb2 hR => ?_) fun H3 g3 => ?_⟩
    · rw [List.getElem?_map] at hx
      obtain ⟨dye, ed, rfl⟩ := Option.map_eq_some_iff.mp hx
      refine ⟨_, rfl, _, rfl, _, _, _, _, rfl, rfl, .of (g2.tups _ _ ea), atI_nat (j := 2) rfl, ?_⟩
      refine ⟨_, rfl, _, _, _, _, rfl, rfl, .of (g2.tups _ _ ec), atI_nat ei, _, _, _, _, rfl, rfl, .of (g2.tups _ _ ee), atI_nat (j := 1) rfl, f, _, rfl, .inr (.of (g2.tups _ _ ef)), rfl, flat_ints, ?_⟩
      refine vk (hR _ (.refl _ _ _)) (congrArg V.bl ?_)
      rw [List.getD_eq_getElem?_getD, ed]
      exact inV_int.symm
    · refine ⟨_, rfl, ?_⟩
      refine vk (hQ _ g3) (congrArg V.bl ?_)
      show isC wk k ca = !(answer true (ca.map V.int).length _)
      rw [List.length_map]
      exact congrArg (!·) (answer_listA fun j v ev => by rw [getD_of ev]).symm
/-! ### dyed -/
def spDyed (K : PySem.W.Frag) : Sp := fun vs H Q _ => ∃ v1 v2 w s, ∃ k n : Nat, vs = [v1, v2, .int k, .int n] ∧ NkV H (Wks.key w) v1 ∧ NkV H (kS s) v2 ∧ WksOk w ∧ StOk w.dyes w.vats.length s ∧ k < w.kinds.length ∧ n < (w.knd k).routes.length ∧ Tbs K H ∧
  ∀ p l H', Gw (lawB K) [] H H' → H' p = some (.tup [l, .bl (dy w s k n).2]) → NkV H' (kS (dy w s k n).1) l → Q (.ref p) H'
abbrev nDyed : List Str := ["works", "stand", "kind", "number", "route", "later", "carried"]
theorem scDyed : FnScope nDyed ["works", "stand", "kind", "number"] (defScope sDyed) := ⟨rfl, rfl, rfl, by decide +kernel, rfl, by decide +kernel, by decide +kernel⟩
theorem ok_dyed (T : Tx K mg base) : Cal P w K mg base CX0 "dyed" 8 ["works", "stand", "kind", "number"] (spDyed K) := by
  refine T.cal (st := sDyed) 9 rfl T.gldyed scDyed (fun _ _ _ _ _ _ us hl => match us, hl with | [_, _, _, _], _ => rfl) (fun vs H Q E h => ?_) (fun A outer s0 H vs Q E hr h => ?_)
  · obtain ⟨v1, v2, a, b, d, n, rfl, _⟩ := h
    rfl
  · obtain ⟨v1, v2, wk, s, k, n, rfl, nw, ns, ok, os, hk, hn, tb, hQ⟩ := h
    refine ⟨_, PSs.nox (pss_cons (ps_set (i := 4) scDyed.nd rfl (.inl rfl) (pe_ix ix_tupK (pe_ix ix_tupK (pe_ix ix_tupK (pe_ix ix_tupK (pv 0) pe_int (fun _ _ => rfl)) (pv 2) (fun _ _ => rfl)) pe_int (fun _ _ => rfl)) (pv 3) (fun _ _ => rfl)))
      (pss_cons (ps_asg (pe_cal (ok_behind T) hr rfl (pa_cons (pv 1) (pa_cons (pv 4) pa_nil))) (pg_tupK (n := 2) rfl (pgs_cons (pg_name (i := 5) scDyed.nd rfl (.inl rfl)) (pgs_cons (pg_name (i := 6) scDyed.nd rfl (.inl rfl)) pgs_nil))))
      (pss_one (ps_ret (pe_tup (pa_cons (pv 5) (pa_cons (pe_and (pe_cal (ok_hasWants T) hr rfl (pa_cons (pv 0) (pa_cons (pv 2) (pa_cons (pv 4) pa_nil)))) (pe_one (pe_cal (ok_isClean T) hr rfl (pa_cons (pv 0) (pa_cons (pv 2) (pa_cons (pv 6) pa_nil)))))) pa_nil))))))), ?_⟩
    have nw0 := nw
    obtain ⟨a, v0, _, c, cs, e, x0, x1, x2, rfl, ea, _, ec, alc, ei, ee, _, _, m2⟩ := nw.knd hk
    obtain ⟨f, fs, rfl, ef, alf⟩ := m2
    obtain ⟨y, ey, ny⟩ := alf.get (i := n) (k := kI (natI (wk.route k n))) (by rw [List.getElem?_map, Wks.route_at hn] <;> rfl)
    obtain ⟨r1, r2, r3⟩ := (ok.at hk).at hn
    have hd := ok.d2
    have hv := ok.v2
    refine ⟨_, rfl, _, _, _, _, rfl, rfl, .of ea, atI_nat (j := 2) rfl, ?_⟩
    refine ⟨_, rfl, _, _, _, _, rfl, rfl, .of ec, atI_nat ei, _, _, _, _, rfl, rfl, .of ee, atI_nat (j := 2) rfl, ?_⟩
    refine ⟨_, rfl, _, _, _, _, rfl, rfl, .of ef, atI_nat ey, ?_⟩
    refine ⟨_, rfl, _, rfl, _, _, s, wk.route k n, wk.dyes, wk.vats.length, rfl, ns, ny, os, by omega, by omega, r3, fun p l ca H1 g1 ep nl nc => ?_⟩
    refine ⟨p, _, rfl, .of ep, rfl, _, _, rfl, _, _, rfl, rfl, ?_⟩
    refine ⟨_, rfl, _, rfl, _, rfl, _, rfl, _, _, wk, wk.route k n, k, rfl, nw0.gw g1, ny.gw g1, hk, r3, tb.gw g1, fun H2 g2 => ?_⟩
    have fin : ∀ H3, Gw (lawB K) [] H1 H3 → ∀ b : Bool, b = (dy wk s k n).2 → [l, V.bl b].length ≤ sizeLine ∧ ∀ p2, H3 p2 = none → Q (.ref p2) (upd H3 p2 (.tup [l, .bl b])) := fun H3 g3 b eb => by
      subst eb
      refine ⟨by show 2 ≤ sizeLine; decide, fun p2 n2 => ?_⟩
      have g4 := g3.add (o := .tup [l, .bl (dy wk s k n).2]) n2
      exact hQ p2 l _ (g1.trans g4) upd_same (nl.gw g4)
    refine ⟨_, rfl, ?_⟩
    cases eh : hasW wk k (wk.route k n) with
    | false =>
      refine iteF ?_
      exact fin _ g2 false (by unfold dy; rw [eh]; rfl)
    | true =>
      refine iteT ?_
      refine ⟨_, rfl, _, rfl, _, rfl, _, _, wk, _, k, rfl, (nw0.gw g1).gw g2, nc.gw g2, hk, (tb.gw g1).gw g2, fun H3 g3 => ?_⟩
      exact fin _ (g2.trans g3) _ (by unfold dy; rw [eh]; rfl)
end
end Dy
end
section
set_option Elab.async false
set_option linter.all false
set_option maxRecDepth 100000
/-! Closing the traces, in plain Lean. -/
namespace Dy
open PySem PySem.Spec PyProof.Rows L2
/-- each vat's trace within -/
structure Le (s t : List (List Int)) : Prop where
  len : s.length = t.length
  sub : ∀ i x, x ∈ s.getD i [] → x ∈ t.getD i []
theorem Le.refl (s : List (List Int)) : Le s s := ⟨rfl, fun _ _ h => h⟩
theorem Le.trans {s t u : List (List Int)} (a : Le s t) (b : Le t u) : Le s u := ⟨a.len.trans b.len, fun i x h => b.sub i x (a.sub i x h)⟩
theorem getD_set {s : List (List Int)} {v i : Nat} {c : List Int} : (s.set v c).getD i [] = if v = i ∧ v < s.length then c else s.getD i [] := by
  rw [List.getD_eq_getElem?_getD, List.getD_eq_getElem?_getD, List.getElem?_set]
  by_cases h : v = i
  · subst h
    by_cases h2 : v < s.length
    · simp [h2]
    · simp [h2]
  · simp [h]
theorem bstep_mono {p q : List (List Int) × List Int} {v : Nat} (h : Le p.1 q.1) (hc : ∀ x, x ∈ p.2 → x ∈ q.2) : Le (bstep p v).1 (bstep q v).1 ∧ ∀ x, x ∈ (bstep p v).2 → x ∈ (bstep q v).2 := by
  have j : ∀ x, x ∈ join p.2 (p.1.getD v []) → x ∈ join q.2 (q.1.getD v []) := fun x hx => by
    rcases mem_join.mp hx with z | z
    · exact mem_join.mpr (.inl (hc x z))
    · exact mem_join.mpr (.inr (h.sub v x z))
  refine ⟨⟨?_, fun i x hx => ?_⟩, j⟩
  · show (p.1.set v _).length = (q.1.set v _).length
    rw [List.length_set, List.length_set]
    exact h.len
  · have hx : x ∈ (p.1.set v (join p.2 (p.1.getD v []))).getD i [] := hx
    show x ∈ (q.1.set v (join q.2 (q.1.getD v []))).getD i []
    rw [getD_set] at hx ⊢
    rw [← h.len]
    split at hx
    · rename_i c
      rw [if_pos c]
      exact j x hx
    · rename_i c
      rw [if_neg c]
      exact h.sub i x hx
theorem bstep_infl {p : List (List Int) × List Int} {v : Nat} : Le p.1 (bstep p v).1 := by
  refine ⟨?_, fun i x hx => ?_⟩
  · show _ = (p.1.set v _).length
    rw [List.length_set]
  · show x ∈ (p.1.set v (join p.2 (p.1.getD v []))).getD i []
    rw [getD_set]
    split
    · rename_i c
      rw [← c.1] at hx
      exact mem_join.mpr (.inr hx)
    · exact hx
theorem foldl_mono : ∀ (r : List Nat) {p q : List (List Int) × List Int}, Le p.1 q.1 → (∀ x, x ∈ p.2 → x ∈ q.2) → Le (r.foldl bstep p).1 (r.foldl bstep q).1 ∧ ∀ x, x ∈ (r.foldl bstep p).2 → x ∈ (r.foldl bstep q).2
  | [], _, _, h, hc => ⟨h, hc⟩
  | v :: r, _, _, h, hc => by
    obtain ⟨h1, h2⟩ := bstep_mono (v := v) h hc
    exact foldl_mono r h1 h2
theorem foldl_infl : ∀ (r : List Nat) {p : List (List Int) × List Int}, Le p.1 (r.foldl bstep p).1
  | [], p => .refl _
  | v :: r, p => bstep_infl.trans (foldl_infl r)
theorem beh_mono {s t : List (List Int)} (h : Le s t) (r : List Nat) : Le (beh s r).1 (beh t r).1 ∧ ∀ x, x ∈ (beh s r).2 → x ∈ (beh t r).2 := foldl_mono r h fun _ z => z
theorem beh_infl {s : List (List Int)} (r : List Nat) : Le s (beh s r).1 := foldl_infl r (p := (s, []))
def sweep (rs : List (List Nat)) (s : List (List Int)) : List (List Int) := rs.foldl (fun s r => (beh s r).1) s
theorem sweep_infl : ∀ (rs : List (List Nat)) {s : List (List Int)}, Le s (sweep rs s)
  | [], s => .refl s
  | r :: rs, s => (beh_infl r).trans (sweep_infl rs)
theorem sweep_ok {d n : Nat} : ∀ (rs : List (List Nat)) {s : List (List Int)}, StOk d n s → StOk d n (sweep rs s)
  | [], _, h => h
  | r :: rs, _, h => sweep_ok rs (beh_ok h r).1
theorem Le.anti {d n : Nat} {s t : List (List Int)} (h1 : Le s t) (h2 : Le t s) (a : StOk d n s) (b : StOk d n t) : s = t := by
  refine List.ext_getElem h1.len fun i hi hj => ?_
  refine up_uniq (a.lot _ (List.getElem_mem hi)).up (b.lot _ (List.getElem_mem hj)).up fun x => ?_
  have e1 : s.getD i [] = s[i] := by rw [List.getD_eq_getElem?_getD, List.getElem?_eq_getElem hi] <;> rfl
  have e2 : t.getD i [] = t[i] := by rw [List.getD_eq_getElem?_getD, List.getElem?_eq_getElem hj] <;> rfl
  exact ⟨fun h => e2 ▸ h1.sub i x (e1.symm ▸ h), fun h => e1 ▸ h2.sub i x (e2.symm ▸ h)⟩
/-- what a sweep leaves as it is, each route leaves as it is -/
theorem sweep_fix {d n : Nat} : ∀ (rs : List (List Nat)) {s : List (List Int)}, StOk d n s → sweep rs s = s → ∀ r ∈ rs, (beh s r).1 = s
  | [], _, _, _, _, h => (nomatch h)
  | r :: rs, s, ok, e, q, hq => by
    have h1 : Le (beh s r).1 s := by
      have := sweep_infl rs (s := (beh s r).1)
      rw [show sweep rs (beh s r).1 = s from e] at this
      exact this
    have e1 : (beh s r).1 = s := h1.anti (beh_infl r) (beh_ok ok r).1 ok
    rcases List.mem_cons.mp hq with z | z
    · rw [z]
      exact e1
    · refine sweep_fix rs ok ?_ q z
      have e2 : sweep rs (beh s r).1 = s := e
      rw [e1] at e2
      exact e2
def szS (s : List (List Int)) : Nat := (s.map List.length).sum
theorem nodup_up {xs : List Int} (h : xs.Pairwise (· < ·)) : xs.Nodup := h.imp fun h => by omega
theorem len_sub : ∀ {a b : List Int}, a.Pairwise (· < ·) → b.Pairwise (· < ·) → (∀ x, x ∈ a → x ∈ b) → a.length ≤ b.length ∧ (a.length = b.length → a = b)
  | [], b, _, _, _ => ⟨Nat.zero_le _, fun h => (List.eq_nil_of_length_eq_zero h.symm).symm⟩
  | x :: a, [], _, _, h => by
    have := h x List.mem_cons_self
    cases this
  | x :: a, y :: b, p, q, h => by
    obtain ⟨p1, p2⟩ := List.pairwise_cons.mp p
    obtain ⟨q1, q2⟩ := List.pairwise_cons.mp q
    by_cases e : x = y
    · subst e
      obtain ⟨l1, l2⟩ := len_sub p2 q2 fun z hz => by
        rcases List.mem_cons.mp (h z (List.mem_cons_of_mem _ hz)) with e | e
        · have := p1 z hz
          omega
        · exact e
      refine ⟨by simp; exact l1, fun hl => ?_⟩
      rw [l2 (by simpa using hl)]
    · have hx : x ∈ b := by
        rcases List.mem_cons.mp (h x List.mem_cons_self) with z | z
        · exact absurd z e
        · exact z
      have hy := q1 x hx
      obtain ⟨l1, _⟩ := len_sub p q2 fun z hz => by
        rcases List.mem_cons.mp (h z hz) with f | f
        · rcases List.mem_cons.mp hz with g | g
          · omega
          · have := p1 z g
            omega
        · exact f
      refine ⟨by simp at l1 ⊢; omega, fun hl => ?_⟩
      simp at l1 hl
      omega
theorem le_size {d n : Nat} : ∀ {s t : List (List Int)}, Le s t → (∀ x ∈ s, LotOk d x) → (∀ x ∈ t, LotOk d x) → szS s ≤ szS t ∧ (szS s = szS t → s = t)
  | [], [], _, _, _ => ⟨Nat.le_refl _, fun _ => rfl⟩
  | [], _ :: _, h, _, _ => by
    have := h.len
    simp at this
  | _ :: _, [], h, _, _ => by
    have := h.len
    simp at this
  | x :: s, y :: t, h, a, b => by
    obtain ⟨l1, l2⟩ := len_sub (a x List.mem_cons_self).up (b y List.mem_cons_self).up (h.sub 0)
    obtain ⟨m1, m2⟩ := le_size (d := d) (n := n) (s := s) (t := t) ⟨by simpa using h.len, fun i => h.sub (i + 1)⟩ (fun z hz => a z (List.mem_cons_of_mem _ hz)) fun z hz => b z (List.mem_cons_of_mem _ hz)
    have e1 : szS (x :: s) = x.length + szS s := by simp [szS]
    have e2 : szS (y :: t) = y.length + szS t := by simp [szS]
    rw [e1, e2]
    refine ⟨by omega, fun h => ?_⟩
    rw [l2 (by omega), m2 (by omega)]
theorem size_le {d n : Nat} {s : List (List Int)} (h : StOk d n s) : szS s ≤ n * d := by
  have key : ∀ s : List (List Int), (∀ x ∈ s, LotOk d x) → szS s ≤ s.length * d := by
    intro s
    induction s with
    | nil => intro _; exact Nat.zero_le _
    | cons x s ih =>
      intro h
      have h1 := (h x List.mem_cons_self).len
      have h2 := ih fun z hz => h z (List.mem_cons_of_mem _ hz)
      have e : szS (x :: s) = x.length + szS s := by simp [szS]
      rw [e, List.length_cons, Nat.succ_mul]
      omega
  have := key s h.lot
  rw [h.len] at this
  exact this
/-- a plan: a route's number for each kind -/
structure PlanOk (w : Wks) (p : List Nat) : Prop where
  len : p.length = w.kinds.length
  lt : ∀ i, i < w.kinds.length → p.getD i 0 < (w.knd i).routes.length
def planR (w : Wks) (p : List Nat) : List (List Nat) := (List.range w.kinds.length).map fun i => w.route i (p.getD i 0)
theorem planR_at {w : Wks} {p : List Nat} {i : Nat} (h : i < w.kinds.length) : (planR w p)[i]? = some (w.route i (p.getD i 0)) := by
  unfold planR
  rw [List.getElem?_map, List.getElem?_range h] <;> rfl
theorem planR_len {w : Wks} {p : List Nat} : (planR w p).length = w.kinds.length := by
  unfold planR
  rw [List.length_map, List.length_range]
theorem planR_mem {w : Wks} {p : List Nat} (ok : WksOk w) (hp : PlanOk w p) {r : List Nat} (h : r ∈ planR w p) : ∀ x ∈ r, x < w.vats.length := by
  obtain ⟨i, hi, rfl⟩ := List.mem_map.mp h
  have hi := List.mem_range.mp hi
  exact ((ok.at hi).at (hp.lt i hi)).2.2
/-- fine at s: closed, and every kind good there -/
structure Fine (w : Wks) (p : List Nat) (s : List (List Int)) : Prop where
  st : StOk w.dyes w.vats.length s
  le : Le w.vats s
  fix : sweep (planR w p) s = s
  good : ∀ i, i < w.kinds.length → hasW w i (w.route i (p.getD i 0)) = true ∧ isC w i (beh s (w.route i (p.getD i 0))).2 = true
end Dy
end
section
set_option Elab.async false
set_option linter.all false
set_option maxRecDepth 100000
set_option maxHeartbeats 4000000
/-! Keys as data: what == says of two. -/
namespace Dy
open PySem PySem.Spec PyProof.Rows L2
mutual
def kD : NestedKey → PyData
  | .none => .none
  | .num i => .int i
  | .text x => .str x
  | .tup ks => .tuple (kDs ks)
def kDs : List NestedKey → List PyData
  | [] => []
  | k :: ks => kD k :: kDs ks
end
mutual
theorem NkV.dp {K : PySem.W.Frag} {H : Hp} : ∀ {k : NestedKey} {v : V}, NkV H k v → Dp K H v (kD k)
  | .num i, v, h => by
    have h : v = .int i := h
    subst h
    exact .int i
  | .tup ks, v, h => by
    obtain ⟨a, vs, rfl, e, al⟩ := h
    exact .tup (.of e) (NkAll.dp al)
  | .none, _, h => h.elim
  | .text _, _, h => h.elim
theorem NkAll.dp {K : PySem.W.Frag} {H : Hp} : ∀ {ks : List NestedKey} {vs : List V}, NkAll H ks vs → DpAll K H vs (kDs ks)
  | [], vs, h => by
    have h : vs = [] := h
    subst h
    exact .nil
  | k :: ks, vs, h => by
    obtain ⟨v, r, rfl, h1, h2⟩ := h
    exact .cons (NkV.dp h1) (NkAll.dp h2)
end
mutual
theorem NkV.lay {H : Hp} : ∀ {k : NestedKey} {v : V}, NkV H k v → (kD k).canLay0 = true
  | .num i, v, h => rfl
  | .tup ks, v, h => by
    obtain ⟨a, vs, rfl, e, al⟩ := h
    exact NkAll.lay al
  | .none, _, h => h.elim
  | .text _, _, h => h.elim
theorem NkAll.lay {H : Hp} : ∀ {ks : List NestedKey} {vs : List V}, NkAll H ks vs → PyData.canLayAll0 (kDs ks) = true
  | [], vs, h => rfl
  | k :: ks, vs, h => by
    obtain ⟨v, r, rfl, h1, h2⟩ := h
    exact Bool.and_eq_true_iff.mpr ⟨NkV.lay h1, NkAll.lay h2⟩
end
mutual
theorem depth_kD : ∀ k : NestedKey, (kD k).depth = k.depth
  | .none => rfl
  | .num i => rfl
  | .text x => rfl
  | .tup ks => by
    show PyData.depthAll (kDs ks) + 1 = NestedKey.depthAll ks + 1
    rw [depth_kDs ks]
theorem depth_kDs : ∀ ks : List NestedKey, PyData.depthAll (kDs ks) = NestedKey.depthAll ks
  | [] => rfl
  | k :: ks => by
    show max (kD k).depth (PyData.depthAll (kDs ks)) = max k.depth (NestedKey.depthAll ks)
    rw [depth_kD k, depth_kDs ks]
end
mutual
theorem eqv_kD : ∀ a b : NestedKey, PyData.eqv (kD a) (kD b) = decide (a = b)
  | .none, .none => by simp [kD, PyData.eqv]
  | .none, .num _ => by simp [kD, PyData.eqv]
  | .none, .text _ => by simp [kD, PyData.eqv]
  | .none, .tup _ => by simp [kD, PyData.eqv]
  | .num _, .none => by simp [kD, PyData.eqv]
  | .num i, .num j => by
    simp only [kD, PyData.eqv, NestedKey.num.injEq]
    exact (Bool.beq_eq_decide_eq i j)
  | .num _, .text _ => by simp [kD, PyData.eqv]
  | .num _, .tup _ => by simp [kD, PyData.eqv]
  | .text _, .none => by simp [kD, PyData.eqv]
  | .text _, .num _ => by simp [kD, PyData.eqv]
  | .text x, .text y => by
    simp only [kD, PyData.eqv, NestedKey.text.injEq]
    exact (Bool.beq_eq_decide_eq x y)
  | .text _, .tup _ => by simp [kD, PyData.eqv]
  | .tup _, .none => by simp [kD, PyData.eqv]
  | .tup _, .num _ => by simp [kD, PyData.eqv]
  | .tup _, .text _ => by simp [kD, PyData.eqv]
  | .tup as, .tup bs => by
    simp only [kD, PyData.eqv, NestedKey.tup.injEq]
    exact eqv_kDs as bs
theorem eqv_kDs : ∀ as bs : List NestedKey, PyData.eqvAll (kDs as) (kDs bs) = decide (as = bs)
  | [], [] => by simp [kDs, PyData.eqvAll]
  | [], _ :: _ => by simp [kDs, PyData.eqvAll]
  | _ :: _, [] => by simp [kDs, PyData.eqvAll]
  | a :: as, b :: bs => by
    simp only [kDs, PyData.eqvAll, eqv_kD a b, eqv_kDs as bs, List.cons.injEq, Bool.decide_and]
end
theorem shaped_kD {H : Hp} {k : NestedKey} {v : V} (h : NkV H k v) (hd : k.depth ≤ 60) : SeqAt.shaped (kD k) = true := by
  unfold SeqAt.shaped
  rw [NkV.lay h, depth_kD]
  simp
  omega
/-- a == b -/
theorem a_eq {K : PySem.W.Frag} {H : Hp} {k j : NestedKey} {u v : V} {Q : VK} (h1 : NkV H k u) (h2 : NkV H j v) (d1 : k.depth ≤ 60) (d2 : j.depth ≤ 60) (q : Q (.bl (decide (k = j))) H) : rEqD K u v H Q :=
  ⟨kD k, kD j, h1.dp, h2.dp, shaped_kD h1 d1, shaped_kD h2 d2, by rw [eqv_kD]; exact q⟩
theorem a_ne {K : PySem.W.Frag} {H : Hp} {k j : NestedKey} {u v : V} {Q : VK} (h1 : NkV H k u) (h2 : NkV H j v) (d1 : k.depth ≤ 60) (d2 : j.depth ≤ 60) (q : Q (.bl (!decide (k = j))) H) : rNeD K u v H Q :=
  ⟨kD k, kD j, h1.dp, h2.dp, shaped_kD h1 d1, shaped_kD h2 d2, by rw [eqv_kD]; exact q⟩
theorem depthAll_le {n : Nat} : ∀ {ks : List NestedKey}, (∀ k ∈ ks, k.depth ≤ n) → NestedKey.depthAll ks ≤ n
  | [], _ => Nat.zero_le _
  | k :: ks, h => by
    show max k.depth (NestedKey.depthAll ks) ≤ n
    have h1 := h k List.mem_cons_self
    have h2 := depthAll_le fun q hq => h q (List.mem_cons_of_mem _ hq)
    omega
theorem depth_tup {n : Nat} {ks : List NestedKey} (h : ∀ k ∈ ks, k.depth ≤ n) : (NestedKey.tup ks).depth ≤ n + 1 := Nat.succ_le_succ (depthAll_le h)
theorem num_inj : ∀ {a b : List Int}, a.map NestedKey.num = b.map NestedKey.num → a = b
  | [], [], _ => rfl
  | [], _ :: _, h => by cases h
  | _ :: _, [], h => by cases h
  | x :: a, y :: b, h => by
    injection h with h1 h2
    injection h1 with h3
    rw [h3, num_inj h2]
end Dy
end
section
set_option Elab.async false
set_option linter.all false
set_option maxRecDepth 100000
set_option maxHeartbeats 4000000
/-! is_plan, need_plan, routes_of, closed, is_fine, is_good. -/
namespace Dy
open PySem PySem.Spec PyProof.Rows L2
theorem depth_kI (xs : List Int) : (kI xs).depth ≤ 1 := depth_tup (n := 0) fun k h => by
  obtain ⟨x, _, rfl⟩ := List.mem_map.mp h
  exact Nat.le_refl 0
theorem depth_kS (s : List (List Int)) : (kS s).depth ≤ 2 := depth_tup (n := 1) fun k h => by
  obtain ⟨x, _, rfl⟩ := List.mem_map.mp h
  exact depth_kI x
theorem kI_inj {a b : List Int} (h : kI a = kI b) : a = b := by
  injection h with h
  exact num_inj h
theorem kS_inj {a b : List (List Int)} (h : kS a = kS b) : a = b := by
  injection h with h
  induction a generalizing b with
  | nil => cases b with
    | nil => rfl
    | cons y b => cases h
  | cons x a ih => cases b with
    | nil => cases h
    | cons y b =>
      injection h with h1 h2
      rw [kI_inj h1, ih h2]
/-- a list comprehension over zip of two tuples of one length -/
theorem lc_zipT {K : PySem.W.Frag} {a b : Addr} {xs ys : List V} {tt : TT} {te : TE} {s1 s2 : Nat} {σ : L2.St} {H1 : Hp} {D : Addr} {Qd : Hp → Prop} (hl : xs.length = ys.length) (hs : s1 ≠ s2) (Pv : Nat → Hp → Prop) (h0 : Pv 0 (upd H1 D (.lst []))) (hq : ∀ i H, Pv i H → SqT K H a xs ∧ SqT K H b ys)
    (turn : ∀ i x y H T, xs[i]? = some x → ys[i]? = some y → Pv i H → H T = none → tt ((((σ.set s2 none).set s1 none).set s1 (some x)).set s2 (some y)) (upd H T (.tup [x, y])) fun c H3 =>
      if c = true then te ((((σ.set s2 none).set s1 none).set s1 (some x)).set s2 (some y)) H3 fun z H4 => ∃ acc, H4 D = some (.lst acc) ∧ acc.length < sizeLine ∧ Pv (i + 1) (upd H4 D (.lst (acc ++ [z]))) else Pv (i + 1) H3) (hd : ∀ H, Pv xs.length H → Qd H) :
    ∃ W : Nat → Nat → Hp → Prop, (∃ m, W 0 m (upd H1 D (.lst []))) ∧ ∀ i m H, W i m H →
      ((RZ.ItzT K a b).stop i H ∧ Qd H) ∨ ((RZ.ItzT K a b).go i H ∧ ∃ Nx : Hp → Prop, (∀ H', Nx H' → ∃ m', m' < m ∧ W (i + 1) m' H') ∧ ∀ x H', (RZ.ItzT K a b).yld i H x H' → (gTup K 2 (gCons (gName s1) (gCons (gName s2) gNil))) x (wipe σ [s1, s2]) H' fun σ2 H2 => wipe σ2 [s1, s2] = wipe σ [s1, s2] ∧ tt σ2 H2 fun b H3 =>
        if b = true then te σ2 H3 fun y H4 => ∃ acc, H4 D = some (.lst acc) ∧ acc.length < sizeLine ∧ Nx (upd H4 D (.lst (acc ++ [y]))) else Nx H3) := by
  refine ⟨fun i m H => m = xs.length - i ∧ i ≤ xs.length ∧ Pv i H, ⟨xs.length, rfl, Nat.zero_le _, h0⟩, ?_⟩
  rintro i m H ⟨rfl, hi, p⟩
  obtain ⟨qa, qb⟩ := hq i H p
  by_cases hlt : i < xs.length
  · refine .inr ⟨⟨xs, ys, xs[i], ys[i]'(by omega), qa, qb, List.getElem?_eq_getElem hlt, List.getElem?_eq_getElem (by omega)⟩, Pv (i + 1), fun H' p' => ⟨xs.length - (i + 1), by omega, rfl, hlt, p'⟩, fun v H' z => ?_⟩
    obtain ⟨T, x, y, ev, eT, eH, hx, hy⟩ := z
    subst ev
    subst eH
    refine ⟨T, [x, y], rfl, .of upd_same, rfl, x, [y], rfl, y, [], rfl, rfl, ?_, turn i x y H T (hx xs qa) (hy ys qb) p eT⟩
    show (((((σ.set s2 none).set s1 none).set s1 (some x)).set s2 (some y)).set s2 none).set s1 none = (σ.set s2 none).set s1 none
    rw [List.set_set, List.set_set, List.set_comm _ _ hs.symm, List.set_set]
    exact (List.set_comm _ _ hs).trans (by rw [List.set_set])
  · have e : i = xs.length := by omega
    subst e
    exact .inl ⟨⟨xs, ys, qa, qb, .inl (Nat.le_refl _)⟩, hd H p⟩
section
variable {P : Program} {w : World} {K : PySem.W.Frag} {mg : Str → Option Value} {base : Heap}
/-! ### is_plan -/
def planB (w : Wks) (us : List V) : Bool := decide (us.length = w.kinds.length) && (List.range us.length).all fun i => numOk (us.getD i .non) 0 ((w.knd i).routes.length - 1 : Int)
def PlanV (H : Hp) (w : Wks) (v : V) (r : Bool) : Prop := (v = .non ∧ r = false) ∨ ∃ a us, v = .ref a ∧ H a = some (.tup us) ∧ (∀ u ∈ us, Flat3 u) ∧ r = planB w us
theorem PlanV.gw {B : Addr} {M : List Addr} {H H' : Hp} {k : Wks} {v : V} {r : Bool} (h : PlanV H k v r) (g : Gw B M H H') : PlanV H' k v r := by
  rcases h with h | ⟨a, us, e, ea, r⟩
  · exact .inl h
  · exact .inr ⟨a, us, e, g.tups _ _ ea, r⟩
def spIsPlan (K : PySem.W.Frag) : Sp := fun vs H Q _ => ∃ v1 v w r, vs = [v1, v] ∧ NkV H (Wks.key w) v1 ∧ WksOk w ∧ PlanV H w v r ∧ Tbs K H ∧ ∀ H', Gw (lawB K) [] H H' → Q (.bl r) H'
abbrev nIsPlan : List Str := ["works", "value", "number", "kind"]
theorem scIsPlan : FnScope nIsPlan ["works", "value"] (defScope sIsPlan) := ⟨rfl, rfl, rfl, by decide +kernel, rfl, by decide +kernel, by decide +kernel⟩
theorem ok_isPlan (T : Tx K mg base) : Cal P w K mg base CX0 "is_plan" 5 ["works", "value"] (spIsPlan K) := by
  refine T.cal (st := sIsPlan) 10 rfl T.glis_plan scIsPlan (fun _ _ _ _ _ _ us hl => match us, hl with | [_, _], _ => rfl) (fun vs H Q E h => ?_) (fun A outer s0 H vs Q E hr h => ?_)
  · obtain ⟨v1, v2, a, b, rfl, _⟩ := h
    rfl
  · obtain ⟨v1, v, wk, r, rfl, nw, ok, pvv, tb, hQ⟩ := h
    refine ⟨_, PSs.nox (pss_cons (ps_if (PW.pt (pw_or (pt_not (pt_val (pe_callB cr_isiK rfl T.frisinstance bIsi (pa_cons (pv 1) (pa_cons (pe_ty rfl T.frtuple bTuple) pa_nil))))) (pw_or1 (pt_cmpR op_ne (pe_callB cr_lenK rfl T.frlen bLen (pa_cons (pv 1) pa_nil)) (pe_callB cr_lenK rfl T.frlen bLen (pa_cons (pe_ix ix_tupK (pv 0) pe_int (fun _ _ => rfl)) pa_nil)) (nomark _))))) (pss_one (ps_ret pe_bl)) (pss_nil))
      (pss_one (ps_ret (pe_genK (base := base) (c := He.codeOf K ("is_plan", none)) (B := lawB K) (P := (He.cT K ("is_plan", none)).2) (k := 1) (j := 1) (g := (gTup K 2 (gCons (gName 2) (gCons (gName 3) gNil)))) (own := [("number", 2), ("kind", 3)]) Asks.all (hr.mono (by decide)) rfl scIsPlan.nd rfl T.frall bAll T.bm rfl (pi_zipK rfl T.frzip (pa_cons (pv 1) (pa_cons (pe_ix ix_tupK (pv 0) pe_int (fun _ _ => rfl)) pa_nil))) (blkOk_by (N := nIsPlan) (sc := defScope sIsPlan) (by decide +kernel)) (by decide +kernel) (by decide +kernel) (fun _ _ _ _ _ => pg_tupK (n := 2) rfl (pgs_cons (pg_name (i := 2) scIsPlan.nd rfl (.inl rfl) (.inr rfl)) (pgs_cons (pg_name (i := 3) scIsPlan.nd rfl (.inl rfl) (.inr rfl)) pgs_nil))) (fun _ _ _ _ _ _ hr2 => pe_cal (ok_isNumber T) hr2 rfl (pa_cons (pv 2) (pa_cons pe_int (pa_cons (pe_op op_sub (pe_callB cr_lenK rfl T.frlen bLen (pa_cons (pe_ix ix_tupK (pv 3) pe_int (fun _ _ => rfl)) pa_nil)) pe_int) pa_nil)))))))), ?_⟩
    obtain ⟨a, us, rfl, ea, v0, _, rfl, n0, v1, _, rfl, n1, v2, _, rfl, ⟨c, cs, rfl, ec, alc⟩, rfl⟩ := nw
    have lc : cs.length = wk.kinds.length := by
      have := alc.length
      simpa using this.symm
    rcases pvv with ⟨rfl, rfl⟩ | ⟨p, ps, rfl, ep, fl, rfl⟩
    · exact ⟨_, rfl, _, _, _, _, _, rfl, .ty _, .base .non, kit (r := false), false, rfl, iteT (iteT (hQ _ (.refl _ _ _)))⟩
    refine ⟨_, rfl, _, _, _, _, _, rfl, .ty _, .base (.tup ep), kit (r := true), true, rfl, iteF ?_⟩
    refine ⟨_, rfl, p, _, rfl, .inr (.of ep), _, rfl, _, _, _, _, rfl, rfl, .of ea, atI_nat (j := 2) rfl, c, _, rfl, .inr (.of ec), rfl, _, rfl, ?_⟩
    have eN : ((V.int (ps.length : Int) = V.int (cs.length : Int))) ↔ ps.length = wk.kinds.length := by
      rw [lc]
      exact ⟨fun h => by injection h with h; omega, fun h => by rw [h]⟩
    by_cases hl : ps.length = wk.kinds.length
    · rw [decide_eq_true (eN.mpr hl)]
      refine iteF ?_
      refine ⟨_, rfl, _, rfl, _, _, _, _, rfl, rfl, .of ea, atI_nat (j := 2) rfl, ?_⟩
      refine ⟨p, c, _, _, rfl, .inr ⟨.of ep, .of ec, gen_zip (fun i => numOk (ps.getD i .non) 0 ((wk.knd i).routes.length - 1 : Int)) (by decide) (.of ep) (.of ec) ep ec (cdAt T ("is_plan", none)) (tb.1 ("is_plan", none) (by decide)) tb.2 (fun c' P' i x y H5 R hx hy g5 _ _ hR => ?_) fun H5 g5 => ?_⟩⟩
      · have hi : i < wk.kinds.length := by
          rw [← lc]
          exact (List.getElem?_eq_some_iff.mp hy).1
        obtain ⟨kk, ek, nk⟩ := alc.nat hy
        rw [List.getElem?_map, Wks.knd_at hi] at ek
        obtain rfl := Option.some.inj ek
        obtain ⟨e, ks, rfl, ee, x0, _, rfl, m0, x1, _, rfl, m1, x2, _, rfl, ⟨f, fs, rfl, ef, alf⟩, rfl⟩ := nk
        have lf : fs.length = (wk.knd i).routes.length := by
          have := alf.length
          simpa using this.symm
        refine ⟨_, rfl, _, rfl, _, _, _, _, rfl, rfl, .of (g5.tups _ _ ee), atI_nat (j := 2) rfl, f, _, rfl, .inr (.of (g5.tups _ _ ef)), _, _, rfl, rfl, _, _, _, rfl, fl x (List.mem_of_getElem? hx), ?_⟩
        refine vk (hR _ (.refl _ _ _)) (congrArg V.bl ?_)
        rw [getD_of hx, lf]
      · refine vk (hQ _ g5) (congrArg V.bl ?_)
        show planB wk ps = answer false (min ps.length cs.length) _
        have e2 : min ps.length cs.length = ps.length := by omega
        rw [e2]
        unfold planB answer
        rw [decide_eq_true hl, Bool.true_and]
        rfl
    · rw [decide_eq_false fun z => hl (eN.mp z)]
      refine iteT ?_
      have e : planB wk ps = false := by
        unfold planB
        rw [decide_eq_false hl, Bool.false_and]
      rw [e] at hQ
      exact hQ _ (.refl _ _ _)
/-! ### need_plan -/
def spNeedPlan (K : PySem.W.Frag) : Sp := fun vs H Q E => ∃ v1 v w r, vs = [v1, v] ∧ NkV H (Wks.key w) v1 ∧ WksOk w ∧ PlanV H w v r ∧ Tbs K H ∧ ∀ H', Gw (lawB K) [] H H' → (r = true → Q .non H') ∧ (r = false → E (.ref (He.ga K "BadPlan")) none H')
abbrev nNeedPlan : List Str := ["works", "value"]
theorem scNeedPlan : FnScope nNeedPlan ["works", "value"] (defScope sNeedPlan) := ⟨rfl, rfl, rfl, by decide +kernel, rfl, by decide +kernel, by decide +kernel⟩
theorem ok_needPlan (T : Tx K mg base) : Cal P w K mg base (CX P w) "need_plan" 6 ["works", "value"] (spNeedPlan K) := by
  refine T.cal (st := sNeedPlan) 11 rfl T.glneed_plan scNeedPlan (fun _ _ _ _ _ _ us hl => match us, hl with | [_, _], _ => rfl) (fun vs H Q E h => ?_) (fun A outer s0 H vs Q E hr h => ?_)
  · obtain ⟨v1, v2, a, b, rfl, _⟩ := h
    rfl
  · obtain ⟨v1, v, wk, r, rfl, nw, ok, pvv, tb, hQ⟩ := h
    refine ⟨_, pss_one (ps_if (pt_not (pt_val (pe_cal (ok_isPlan T) hr rfl (pa_cons (pv 0) (pa_cons (pv 1) pa_nil))))) (pss_one (ps_raise rfl (takes_of rfl rfl rfl rfl) (pmk_own0 PySem.F.excBase_ValueError T.exBadPlan.1 T.glBadPlan T.exBadPlan.2.1 (raises_own T.exBadPlan.2.2.1 T.exBadPlan.2.2.2) rfl))) (pss_nil)), ?_⟩
    refine ⟨_, rfl, _, rfl, _, _, wk, r, rfl, nw, ok, pvv, tb, fun H1 g1 => ⟨r, rfl, ?_⟩⟩
    obtain ⟨h1, h2⟩ := hQ H1 g1
    cases r with
    | true => exact iteF (h1 rfl)
    | false => exact iteT (h2 rfl)
/-! ### routes_of -/
theorem planB_ok {wk : Wks} {p : List Nat} (hp : PlanOk wk p) : planB wk ((natI p).map V.int) = true := by
  unfold planB
  have l : ((natI p).map V.int).length = wk.kinds.length := by simpa using hp.len
  rw [decide_eq_true l, Bool.true_and]
  refine List.all_eq_true.mpr fun i hi => ?_
  have hi : i < wk.kinds.length := l ▸ List.mem_range.mp hi
  have h := hp.lt i hi
  have e : ((natI p).map V.int).getD i .non = .int (p.getD i 0) := by
    have : i < p.length := hp.len ▸ hi
    refine getD_of ?_
    rw [List.getElem?_map, List.getElem?_map, List.getElem?_eq_getElem this, List.getD_eq_getElem?_getD, List.getElem?_eq_getElem this] <;> rfl
  rw [e]
  exact numOk_int (by omega) (by omega)
theorem PlanV.of {H : Hp} {wk : Wks} {p : List Nat} {v : V} (hp : PlanOk wk p) (h : NkV H (kI (natI p)) v) : PlanV H wk v true := by
  obtain ⟨a, us, rfl, ea, al⟩ := h
  obtain rfl := NkAll.nums.mp al
  refine .inr ⟨a, _, rfl, ea, fun u hu => ?_, (planB_ok hp).symm⟩
  obtain ⟨x, _, rfl⟩ := List.mem_map.mp hu
  exact .inr (.inr ⟨x, rfl⟩)
def spRoutesOf (K : PySem.W.Frag) : Sp := fun vs H Q _ => ∃ v1 v w p, vs = [v1, v] ∧ NkV H (Wks.key w) v1 ∧ NkV H (kI (natI p)) v ∧ PlanOk w p ∧ WksOk w ∧ ∀ a rs H', Gw (lawB K) [] H H' → H' a = some (.lst rs) → H a = none → NkAll H' ((planR w p).map fun r => kI (natI r)) rs → Q (.ref a) H'
abbrev nRoutesOf : List Str := ["works", "plan", "kind", "number"]
theorem scRoutesOf : FnScope nRoutesOf ["works", "plan"] (defScope sRoutesOf) := ⟨rfl, rfl, rfl, by decide +kernel, rfl, by decide +kernel, by decide +kernel⟩
theorem NkAll.snoc {H : Hp} {k : NestedKey} {v : V} (hv : NkV H k v) : ∀ {ks : List NestedKey} {vs : List V}, NkAll H ks vs → NkAll H (ks ++ [k]) (vs ++ [v])
  | [], vs, h => by
    have h : vs = [] := h
    subst h
    exact ⟨v, [], rfl, hv, rfl⟩
  | k0 :: ks, vs, h => by
    obtain ⟨v0, r, rfl, h0, t⟩ := h
    exact ⟨v0, _, rfl, h0, NkAll.snoc hv t⟩
theorem ok_routesOf (T : Tx K mg base) : Cal P w K mg base CX0 "routes_of" 1 ["works", "plan"] (spRoutesOf K) := by
  refine T.cal (st := sRoutesOf) 12 rfl T.glroutes_of scRoutesOf (fun _ _ _ _ _ _ us hl => match us, hl with | [_, _], _ => rfl) (fun vs H Q E h => ?_) (fun A outer s0 H vs Q E hr h => ?_)
  · obtain ⟨v1, v2, a, b, rfl, _⟩ := h
    rfl
  · obtain ⟨v1, v, wk, p, rfl, nw, np, hp, ok, hQ⟩ := h
    refine ⟨_, PSs.nox (pss_one (ps_ret (pe_lc (own := [("kind", 2), ("number", 3)]) (g := (gTup K 2 (gCons (gName 2) (gCons (gName 3) gNil)))) rfl scRoutesOf.nd (pi_zipK rfl T.frzip (pa_cons (pe_ix ix_tupK (pv 0) pe_int (fun _ _ => rfl)) (pa_cons (pv 1) pa_nil))) (blkOk_by (N := nRoutesOf) (sc := defScope sRoutesOf) (by decide +kernel)) (fun _ _ _ _ _ => pg_tupK (n := 2) rfl (pgs_cons (pg_name (i := 2) scRoutesOf.nd rfl (.inl rfl) (.inr rfl)) (pgs_cons (pg_name (i := 3) scRoutesOf.nd rfl (.inl rfl) (.inr rfl)) pgs_nil))) (fun _ _ _ _ _ => pts_nil) (fun _ _ _ _ _ => pe_ix ix_tupK (pe_ix ix_tupK (pv 2) pe_int (fun _ _ => rfl)) (pv 3) (fun _ _ => rfl))))), ?_⟩
    obtain ⟨a, us, rfl, ea, v0, _, rfl, n0, v1, _, rfl, n1, v2, _, rfl, ⟨c, cs, rfl, ec, alc⟩, rfl⟩ := nw
    obtain ⟨b, ps, rfl, eb, alb⟩ := np
    obtain rfl := NkAll.nums.mp alb
    have lc : cs.length = wk.kinds.length := by
      have := alc.length
      simpa using this.symm
    have lp : ((natI p).map V.int).length = wk.kinds.length := by simpa using hp.len
    have k2 := ok.k2
    refine ⟨_, rfl, _, _, _, _, rfl, rfl, .of ea, atI_nat (j := 2) rfl, _, rfl, ?_⟩
    refine ⟨c, b, _, _, rfl, .inr ⟨.of ec, .of eb, fun D hD => ?_⟩⟩
    refine lc_zipT (xs := cs) (ys := (natI p).map V.int) (by rw [lc, lp]) (by decide) (fun i H' => ∃ acc, H' D = some (.lst acc) ∧ Gw (lawB K) [] H H' ∧ i ≤ wk.kinds.length ∧ NkAll H' (((planR wk p).take i).map fun r => kI (natI r)) acc) ?_ (fun i H' hP => ?_) (fun i x y H' T' hx hy hP hT => ?_) fun H' hP => ?_
    · exact ⟨[], upd_same, .new hD, Nat.zero_le _, rfl⟩
    · obtain ⟨acc, _, g, _⟩ := hP
      exact ⟨.of (g.tups _ _ ec), .of (g.tups _ _ eb)⟩
    · obtain ⟨acc, eD, g, hi, al⟩ := hP
      have hi2 : i < wk.kinds.length := by
        rw [← lc]
        exact (List.getElem?_eq_some_iff.mp hx).1
      have hn := hp.lt i hi2
      obtain ⟨kk, ek, nk⟩ := alc.nat hx
      rw [List.getElem?_map, Wks.knd_at hi2] at ek
      obtain rfl := Option.some.inj ek
      obtain ⟨e, ks, rfl, ee, x0, _, rfl, m0, x1, _, rfl, m1, x2, _, rfl, ⟨f, fs, rfl, ef, alf⟩, rfl⟩ := nk
      have ip : i < p.length := hp.len ▸ hi2
      have hy2 : y = .int (p.getD i 0) := by
        rw [List.getElem?_map, List.getElem?_map, List.getElem?_eq_getElem ip] at hy
        rw [List.getD_eq_getElem?_getD, List.getElem?_eq_getElem ip]
        exact (Option.some.inj hy).symm
      subst hy2
      obtain ⟨z, ez, nz⟩ := alf.get (i := p.getD i 0) (k := kI (natI (wk.route i (p.getD i 0)))) (by rw [List.getElem?_map, Wks.route_at hn] <;> rfl)
      have g1 := g.add (o := .tup [.ref e, .int (p.getD i 0)]) hT
      have eD1 : upd H' T' (.tup [.ref e, .int (p.getD i 0)]) D = some (.lst acc) := by
        rw [upd_ne (ne_of_none eD hT)]
        exact eD
      have la : acc.length = i := by
        have := al.length
        rw [List.length_map, List.length_take, planR_len] at this
        omega
      unfold tYes
      refine iteT ?_
      refine ⟨_, rfl, _, _, _, _, rfl, rfl, .of (g1.tups _ _ ee), atI_nat (j := 2) rfl, ?_⟩
      refine ⟨_, rfl, _, _, _, _, rfl, rfl, .of (g1.tups _ _ ef), atI_nat ez, acc, eD1, by rw [sizeLine_eq]; omega, ?_⟩
      have g2 := g1.put (p := D) (o := .lst (acc ++ [z])) (.inl hD) eD1 .lst
      refine ⟨acc ++ [z], upd_same, g2, hi2, ?_⟩
      rw [List.take_add_one, planR_at hi2, Option.toList_some, List.map_append]
      refine NkAll.snoc (nz.gw g2) ((al.gw (Gw.new (B := lawB K) (M := []) (o := .tup [.ref e, .int (p.getD i 0)]) hT)).gw (Gw.lst (B := lawB K) (ys := acc ++ [z]) eD1))
    · obtain ⟨acc, eD, g, hi, al⟩ := hP
      rw [lc, show (planR wk p).take wk.kinds.length = planR wk p from List.take_of_length_le (by rw [planR_len]; exact Nat.le_refl _)] at al
      exact hQ D acc H' g eD hD al
end
end Dy
end
section
set_option Elab.async false
set_option linter.all false
set_option maxRecDepth 100000
set_option maxHeartbeats 4000000
/-! closed, is_fine, is_good. -/
namespace Dy
open PySem PySem.Spec PyProof.Rows L2
section
variable {P : Program} {w : World} {K : PySem.W.Frag} {mg : Str → Option Value} {base : Heap}
abbrev kR (rs : List (List Nat)) : List NestedKey := rs.map fun r => kI (natI r)
/-! ### closed -/
def spClosed (K : PySem.W.Frag) : Sp := fun vs H Q _ => ∃ v a s R rs, ∃ d n : Nat, vs = [v, .ref a] ∧ NkV H (kS s) v ∧ H a = some (.lst rs) ∧ NkAll H (kR R) rs ∧ StOk d n s ∧ d ≤ 20 ∧ n ≤ 20 ∧ (∀ r ∈ R, ∀ x ∈ r, x < n) ∧
  ∀ t u H', Gw (lawB K) [] H H' → StOk d n t → Le s t → sweep R t = t → NkV H' (kS t) u → Q u H'
abbrev nClosed : List Str := ["stand", "routes", "later", "route"]
theorem scClosed : FnScope nClosed ["stand", "routes"] (defScope sClosed) := ⟨rfl, rfl, rfl, by decide +kernel, rfl, by decide +kernel, by decide +kernel⟩
theorem ok_closed (T : Tx K mg base) : Cal P w K mg base CX0 "closed" 3 ["stand", "routes"] (spClosed K) := by
  refine T.cal (st := sClosed) 13 rfl T.glclosed scClosed (fun _ _ _ _ _ _ us hl => match us, hl with | [_, _], _ => rfl) (fun vs H Q E h => ?_) (fun A outer s0 H vs Q E hr h => ?_)
  · obtain ⟨v1, v2, a, b, c, d, n, rfl, _⟩ := h
    rfl
  · obtain ⟨v, a, s, R, rs, d, n, rfl, ns, ea, al, ok, hd, hn, hR, hQ⟩ := h
    refine ⟨_, PSs.nox (pss_one (ps_while PassesOwn.never (pt_val pe_bl) (pss_cons (ps_set (i := 2) scClosed.nd rfl (.inl rfl) (pv 0))
      (pss_cons (ps_for PassesOwn.never rfl (pi_listK (pv 1)) (pg_name (i := 3) scClosed.nd rfl (.inl rfl)) (pss_one (ps_set (i := 2) scClosed.nd rfl (.inl rfl) (pe_ix ix_tupK (pe_cal (ok_behind T) hr rfl (pa_cons (pv 2) (pa_cons (pv 3) pa_nil))) pe_int (fun _ _ => rfl)))))
      (pss_cons (ps_if (pt_cmpR (op_eqK hr.units) (pv 2) (pv 0) (nomark _)) (pss_one (ps_ret (pv 0))) (pss_nil))
      (pss_one (ps_set (i := 0) scClosed.nd rfl (.inl rfl) (pv 2)))))))), ?_⟩
    refine ⟨fun m σ H' => ∃ t u x y, σ = [some u, some (.ref a), x, y] ∧ m = n * d - szS t ∧ Gw (lawB K) [] H H' ∧ NkV H' (kS t) u ∧ StOk d n t ∧ Le s t, ⟨_, s, v, none, none, rfl, rfl, .refl _ _ _, ns, ok, .refl s⟩, ?_⟩
    rintro m σ H1 ⟨t, u, x, y, rfl, rfl, g1, nt, okt, le⟩
    refine ⟨true, rfl, iteT ⟨fun σ' H' => ∃ t' u x y, σ' = [some u, some (.ref a), x, y] ∧ n * d - szS t' < n * d - szS t ∧ Gw (lawB K) [] H H' ∧ NkV H' (kS t') u ∧ StOk d n t' ∧ Le s t', fun σ' H' ⟨t', u, x, y, e1, e2, r⟩ => ⟨_, e2, t', u, x, y, e1, rfl, r⟩, ?_⟩⟩
    refine ⟨_, rfl, ?_⟩
    have ea1 := g1.keep a _ (by simp) ea (fun _ z => nomatch z)
    refine ⟨_, rfl, a, rfl, ⟨_, .of ea1⟩, ?_⟩
    refine for_list (xs := rs) (fun i σ H' => ∃ q x, σ = [some u, some (.ref a), some q, x] ∧ Gw (lawB K) [] H1 H' ∧ NkV H' (kS (sweep (R.take i) t)) q) ?_ (fun i σ H' _ hp => ?_) (fun i x σ H' hx hp => ?_) fun σ H' hp => ?_
    · exact ⟨u, y, rfl, .refl _ _ _, nt⟩
    · obtain ⟨_, _, _, g, _⟩ := hp
      exact .of (g.keep a _ (by simp) ea1 (fun _ z => nomatch z))
    · obtain ⟨q, x0, rfl, g, nq⟩ := hp
      obtain ⟨kk, ek, nk⟩ := (al.gw (g1.trans g)).nat hx
      rw [List.getElem?_map] at ek
      obtain ⟨r, er, rfl⟩ := Option.map_eq_some_iff.mp ek
      have estep : sweep (R.take (i + 1)) t = (beh (sweep (R.take i) t) r).1 := by
        rw [List.take_add_one, er, Option.toList_some]
        unfold sweep
        rw [List.foldl_append]
        rfl
      refine ⟨_, rfl, _, rfl, _, _, sweep (R.take i) t, r, d, n, rfl, nq, nk, sweep_ok _ okt, hd, hn, hR r (List.mem_of_getElem? er), fun p l c H2 g2 ep nl nc => ?_⟩
      exact ⟨p, _, 0, l, rfl, rfl, .of ep, rfl, l, _, rfl, g.trans g2, by rw [estep]; exact nl⟩
    · obtain ⟨q, x0, rfl, g, nq⟩ := hp
      have et : R.take rs.length = R := by
        have := al.length
        rw [List.length_map] at this
        exact List.take_of_length_le (by omega)
      rw [et] at nq
      have ok2 := sweep_ok R okt
      have le2 := sweep_infl R (s := t)
      refine ⟨_, rfl, _, rfl, ?_⟩
      refine a_eq nq (nt.gw g) (Nat.le_trans (depth_kS _) (by decide)) (Nat.le_trans (depth_kS _) (by decide)) ⟨_, rfl, ?_⟩
      by_cases e : sweep R t = t
      · rw [e, decide_eq_true rfl]
        refine iteT ?_
        exact ⟨_, rfl, hQ t u _ (g1.trans g) okt le e (nt.gw g)⟩
      · rw [decide_eq_false fun z => e (kS_inj z)]
        refine iteF ?_
        obtain ⟨l1, l2⟩ := le_size (d := d) (n := n) le2 okt.lot ok2.lot
        have l3 := size_le ok2
        refine ⟨_, rfl, sweep R t, q, _, _, rfl, ?_, g1.trans g, nq, ok2, le.trans le2⟩
        have : szS t ≠ szS (sweep R t) := fun z => e (l2 z).symm
        omega
/-! ### is_fine -/
def spIsFine (K : PySem.W.Frag) : Sp := fun vs H Q _ => ∃ v1 v w p, vs = [v1, v] ∧ NkV H (Wks.key w) v1 ∧ NkV H (kI (natI p)) v ∧ PlanOk w p ∧ WksOk w ∧ Tbs K H ∧ ∀ b H', Gw (lawB K) [] H H' → (b = true → ∃ s, Fine w p s) → Q (.bl b) H'
abbrev nIsFine : List Str := ["works", "plan", "routes", "stand", "kind", "route"]
theorem scIsFine : FnScope nIsFine ["works", "plan"] (defScope sIsFine) := ⟨rfl, rfl, rfl, by decide +kernel, rfl, by decide +kernel, by decide +kernel⟩
theorem ok_isFine (T : Tx K mg base) : Cal P w K mg base CX0 "is_fine" 8 ["works", "plan"] (spIsFine K) := by
  refine T.cal (st := sIsFine) 14 rfl T.glis_fine scIsFine (fun _ _ _ _ _ _ us hl => match us, hl with | [_, _], _ => rfl) (fun vs H Q E h => ?_) (fun A outer s0 H vs Q E hr h => ?_)
  · obtain ⟨v1, v2, a, b, rfl, _⟩ := h
    rfl
  · obtain ⟨v1, v, wk, p, rfl, nw, np, hp, ok, tb, hQ⟩ := h
    refine ⟨_, PSs.nox (pss_cons (ps_set (i := 2) scIsFine.nd rfl (.inl rfl) (pe_cal (ok_routesOf T) hr rfl (pa_cons (pv 0) (pa_cons (pv 1) pa_nil))))
      (pss_cons (ps_set (i := 3) scIsFine.nd rfl (.inl rfl) (pe_cal (ok_closed T) hr rfl (pa_cons (pe_ix ix_tupK (pv 0) pe_int (fun _ _ => rfl)) (pa_cons (pv 2) pa_nil))))
      (pss_cons (ps_for PassesOwn.never rfl (pi_enum rfl T.frenumerate (pa_cons (pv 2) pa_nil)) (pg_tupK (n := 2) rfl (pgs_cons (pg_name (i := 4) scIsFine.nd rfl (.inl rfl)) (pgs_cons (pg_name (i := 5) scIsFine.nd rfl (.inl rfl)) pgs_nil))) (pss_one (ps_if (PW.pt (pw_or (pt_not (pt_val (pe_cal (ok_hasWants T) hr rfl (pa_cons (pv 0) (pa_cons (pv 4) (pa_cons (pv 5) pa_nil)))))) (pw_or1 (pt_not (pt_val (pe_cal (ok_isClean T) hr rfl (pa_cons (pv 0) (pa_cons (pv 4) (pa_cons (pe_ix ix_tupK (pe_cal (ok_behind T) hr rfl (pa_cons (pv 3) (pa_cons (pv 5) pa_nil))) pe_int (fun _ _ => rfl)) pa_nil))))))))) (pss_one (ps_ret pe_bl)) (pss_nil))))
      (pss_one (ps_ret pe_bl))))), ?_⟩
    have hd := ok.d2
    have hv := ok.v2
    refine ⟨_, rfl, _, rfl, _, _, wk, p, rfl, nw, np, hp, ok, fun a rs H1 g1 ea na al => ?_⟩
    have nw1 := nw.gw g1
    obtain ⟨wx, us, rfl, ex, v0, _, rfl, n0, v1, _, rfl, n1, v2, _, rfl, n2, rfl⟩ := id nw1
    refine ⟨_, rfl, _, _, _, _, rfl, rfl, .of ex, atI_nat (j := 1) rfl, ?_⟩
    refine ⟨_, rfl, _, a, wk.vats, planR wk p, rs, wk.dyes, wk.vats.length, rfl, n1, ea, al, StOk.of wk ok, by omega, by omega, fun r hr => planR_mem ok hp hr, fun t u H2 g2 okt le fix nt => ?_⟩
    have ea2 := g2.keep a _ (by simp) ea (fun _ z => nomatch z)
    have lr : rs.length = wk.kinds.length := by
      have := al.length
      rw [List.length_map, planR_len] at this
      omega
    refine ⟨_, rfl, a, rs, rfl, .of ea2, ?_⟩
    refine ⟨fun i m σ H' => m = rs.length - i ∧ i ≤ rs.length ∧ (∃ x y, σ = [some (.ref wx), some v, some (.ref a), some u, x, y]) ∧ Gw (lawB K) [] H2 H' ∧ ∀ j, j < i → hasW wk j (wk.route j (p.getD j 0)) = true ∧ isC wk j (beh t (wk.route j (p.getD j 0))).2 = true, ⟨_, rfl, Nat.zero_le _, ⟨none, none, rfl⟩, .refl _ _ _, fun j hj => absurd hj (Nat.not_lt_zero _)⟩, ?_⟩
    rintro i m σ H3 ⟨rfl, hi, ⟨x, y, rfl⟩, g3, gd⟩
    have ea3 := g3.keep a _ (by simp) ea2 (fun _ z => nomatch z)
    by_cases hlt : i < rs.length
    · refine .inr ⟨⟨rs, rs[i], .of ea3, List.getElem?_eq_getElem hlt⟩, fun σ' H' => (∃ x y, σ' = [some (.ref wx), some v, some (.ref a), some u, x, y]) ∧ Gw (lawB K) [] H2 H' ∧ ∀ j, j < i + 1 → hasW wk j (wk.route j (p.getD j 0)) = true ∧ isC wk j (beh t (wk.route j (p.getD j 0))).2 = true, fun σ' H' ⟨h1, h2, h3⟩ => ⟨_, by omega, rfl, hlt, h1, h2, h3⟩, fun z H' hz => ?_⟩
      obtain ⟨T', q, ez, eT, eH, hq⟩ := hz
      subst ez
      subst eH
      have hq := hq rs (.of ea3)
      have hi2 : i < wk.kinds.length := lr ▸ hlt
      have hn := hp.lt i hi2
      have rok := (ok.at hi2).at hn
      have g4 : Gw (lawB K) [] H3 (upd H3 T' (.tup [.int (i : Nat), q])) := .new eT
      have gg := (g1.trans (g2.trans g3)).trans g4
      obtain ⟨kk, ek, nq⟩ := (((al.gw g2).gw g3).gw g4).nat hq
      rw [List.getElem?_map, planR_at hi2] at ek
      obtain rfl := Option.some.inj ek
      refine ⟨T', _, rfl, .of upd_same, rfl, _, _, rfl, _, _, rfl, rfl, ?_⟩
      refine ⟨_, rfl, _, rfl, _, rfl, _, _, wk, wk.route i (p.getD i 0), i, rfl, ((nw1.gw g2).gw g3).gw g4, nq, hi2, rok.2.2, tb.gw gg, fun H5 g5 => ⟨_, rfl, ?_⟩⟩
      have stop : ∀ H', Gw (lawB K) [] H5 H' → Q (.bl false) H' := fun H' g => hQ false _ (gg.trans (g5.trans g)) fun z => nomatch z
      cases ew : hasW wk i (wk.route i (p.getD i 0)) with
      | false => exact iteT (iteT (stop _ (.refl _ _ _)))
      | true =>
        refine iteF ?_
        refine ⟨_, rfl, _, rfl, _, rfl, _, rfl, _, _, t, wk.route i (p.getD i 0), wk.dyes, wk.vats.length, rfl, ((nt.gw g3).gw g4).gw g5, nq.gw g5, okt, by omega, by omega, rok.2.2, fun pp l c H6 g6 ep nl nc => ?_⟩
        refine ⟨pp, _, 1, c, rfl, rfl, .of ep, rfl, ?_⟩
        refine ⟨_, _, wk, _, i, rfl, ((((nw1.gw g2).gw g3).gw g4).gw g5).gw g6, nc, hi2, ((tb.gw gg).gw g5).gw g6, fun H7 g7 => ⟨_, rfl, ?_⟩⟩
        cases ec : isC wk i (beh t (wk.route i (p.getD i 0))).2 with
        | false => exact iteT (stop _ (g6.trans g7))
        | true =>
          refine iteF ⟨⟨_, _, rfl⟩, g3.trans (g4.trans (g5.trans (g6.trans g7))), fun j hj => ?_⟩
          rcases Nat.lt_succ_iff_lt_or_eq.mp hj with z | z
          · exact gd j z
          · rw [z]
            exact ⟨ew, ec⟩
    · refine .inl ⟨⟨rs, .of ea3, by omega⟩, ?_⟩
      exact hQ true _ (g1.trans (g2.trans g3)) fun _ => ⟨t, okt, le, fix, fun j hj => gd j (by omega)⟩
/-! ### is_good -/
def spIsGood (K : PySem.W.Frag) : Sp := spIsFine K
abbrev nIsGood : List Str := ["works", "plan"]
theorem scIsGood : FnScope nIsGood ["works", "plan"] (defScope sIsGood) := ⟨rfl, rfl, rfl, by decide +kernel, rfl, by decide +kernel, by decide +kernel⟩
theorem ok_isGood (T : Tx K mg base) : Cal P w K mg base CX0 "is_good" 14 ["works", "plan"] (spIsGood K) := by
  refine T.cal (st := sIsGood) 15 rfl T.glis_good scIsGood (fun _ _ _ _ _ _ us hl => match us, hl with | [_, _], _ => rfl) (fun vs H Q E h => ?_) (fun A outer s0 H vs Q E hr h => ?_)
  · obtain ⟨v1, v2, a, b, rfl, _⟩ := h
    rfl
  · obtain ⟨v1, v, wk, p, rfl, nw, np, hp, ok, tb, hQ⟩ := h
    refine ⟨_, PSs.nox (pss_cons (ps_expr (pe_cal (ok_needWorks T) hr rfl (pa_cons (pv 0) pa_nil)))
      (pss_cons (ps_expr (pe_calS (ok_needPlan T) hr rfl (fun σ => passAt takes_none5 σ) (pa_cons (pv 0) (pa_cons (pv 1) pa_nil))))
      (pss_one (ps_ret (pe_cal (ok_isFine T) hr rfl (pa_cons (pv 0) (pa_cons (pv 1) pa_nil))))))), ?_⟩
    refine ⟨_, rfl, _, wk, rfl, nw, ok, tb, fun H1 g1 => ?_⟩
    refine ⟨_, rfl, _, rfl, _, _, wk, true, rfl, nw.gw g1, ok, .of hp (np.gw g1), tb.gw g1, fun H2 g2 => ⟨fun _ => ?_, fun z => nomatch z⟩⟩
    have g := g1.trans g2
    exact ⟨_, rfl, _, rfl, _, _, wk, p, rfl, nw.gw g, np.gw g, hp, ok, tb.gw g, fun b H3 g3 h => hQ b H3 (g.trans g3) h⟩
end
end Dy
end
section
set_option Elab.async false
set_option linter.all false
set_option maxRecDepth 100000
set_option maxHeartbeats 4000000
/-! need_many, need_weights, common, lowest, power. -/
namespace Dy
open PySem PySem.Spec PyProof.Rows L2
section
variable {P : Program} {w : World} {K : PySem.W.Frag} {mg : Str → Option Value} {base : Heap}
/-! ### need_many -/
def spNeedMany (K : PySem.W.Frag) : Sp := fun vs H Q E => ∃ v, vs = [v] ∧ Flat3 v ∧ (numOk v 0 40 = true → Q .non H) ∧ (numOk v 0 40 = false → E (.ref (He.ga K "BadNumber")) none H)
abbrev nNeedMany : List Str := ["value"]
theorem scNeedMany : FnScope nNeedMany ["value"] (defScope sNeedMany) := ⟨rfl, rfl, rfl, by decide +kernel, rfl, by decide +kernel, by decide +kernel⟩
theorem ok_needMany (T : Tx K mg base) : Cal P w K mg base (CX P w) "need_many" 2 ["value"] (spNeedMany K) := by
  refine T.cal (st := sNeedMany) 16 rfl T.glneed_many scNeedMany (fun _ _ _ _ _ _ us hl => match us, hl with | [_], _ => rfl) (fun vs H Q E h => ?_) (fun A outer s0 H vs Q E hr h => ?_)
  · obtain ⟨v, rfl, _⟩ := h
    rfl
  · obtain ⟨v, rfl, fv, h1, h2⟩ := h
    refine ⟨_, pss_one (ps_if (pt_not (pt_val (pe_cal (ok_isNumber T) hr rfl (pa_cons (pv 0) (pa_cons pe_int (pa_cons (pe_num rfl T.inMOST_MANY) pa_nil)))))) (pss_one (ps_raise rfl (takes_of rfl rfl rfl rfl) (pmk_own0 PySem.F.excBase_ValueError T.exBadNumber.1 T.glBadNumber T.exBadNumber.2.1 (raises_own T.exBadNumber.2.2.1 T.exBadNumber.2.2.2) rfl))) (pss_nil)), ?_⟩
    refine ⟨_, rfl, _, _, _, rfl, fv, _, rfl, ?_⟩
    cases e : numOk v 0 40 with
    | true => exact iteF (h1 e)
    | false => exact iteT (h2 e)
/-! ### need_weights -/
def vI : V → Int
  | .int i => i
  | _ => 0
def wtsB (w : Wks) (us : List V) : Bool := decide (us.length = w.kinds.length) && (us.all (fun u => numOk u 0 9) && !decide ((us.map vI).sum = 0))
def WtsV (H : Hp) (w : Wks) (v : V) (r : Bool) : Prop := (v = .non ∧ r = false) ∨ (∃ a xs, v = .ref a ∧ H a = some (.lst xs) ∧ r = false) ∨ ∃ a us, v = .ref a ∧ H a = some (.tup us) ∧ (∀ u ∈ us, Flat3 u) ∧ r = wtsB w us
theorem WtsV.gw {B : Addr} {H H' : Hp} {k : Wks} {v : V} {r : Bool} (h : WtsV H k v r) (g : Gw B [] H H') : WtsV H' k v r := by
  rcases h with h | ⟨a, xs, e, ea, h⟩ | ⟨a, us, e, ea, r⟩
  · exact .inl h
  · exact .inr (.inl ⟨a, xs, e, g.keep a _ (by simp) ea (fun _ z => nomatch z), h⟩)
  · exact .inr (.inr ⟨a, us, e, g.tups _ _ ea, r⟩)
theorem numOk_is {u : V} {lo hi : Int} (h : numOk u lo hi = true) : u = .int (vI u) := by
  cases u <;> first | rfl | cases h
def spNeedWeights (K : PySem.W.Frag) : Sp := fun vs H Q E => ∃ v1 v w r, vs = [v1, v] ∧ NkV H (Wks.key w) v1 ∧ WtsV H w v r ∧ Tbs K H ∧ ∀ H', Gw (lawB K) [] H H' → (r = true → Q .non H') ∧ (r = false → E (.ref (He.ga K "BadWeights")) none H')
abbrev nNeedWeights : List Str := ["works", "value", "weight"]
theorem scNeedWeights : FnScope nNeedWeights ["works", "value"] (defScope sNeedWeights) := ⟨rfl, rfl, rfl, by decide +kernel, rfl, by decide +kernel, by decide +kernel⟩
theorem ok_needWeights (T : Tx K mg base) : Cal P w K mg base (CX P w) "need_weights" 5 ["works", "value"] (spNeedWeights K) := by
  refine T.cal (st := sNeedWeights) 17 rfl T.glneed_weights scNeedWeights (fun _ _ _ _ _ _ us hl => match us, hl with | [_, _], _ => rfl) (fun vs H Q E h => ?_) (fun A outer s0 H vs Q E hr h => ?_)
  · obtain ⟨v1, v2, a, b, rfl, _⟩ := h
    rfl
  · obtain ⟨v1, v, wk, r, rfl, nw, hv, tb, hQ⟩ := h
    refine ⟨_, pss_cons (ps_if (PW.pt (pw_or (pt_not (pt_val (pe_callB cr_isiK rfl T.frisinstance bIsi (pa_cons (pv 1) (pa_cons (pe_ty rfl T.frtuple bTuple) pa_nil))))) (pw_or1 (pt_cmpR op_ne (pe_callB cr_lenK rfl T.frlen bLen (pa_cons (pv 1) pa_nil)) (pe_callB cr_lenK rfl T.frlen bLen (pa_cons (pe_ix ix_tupK (pv 0) pe_int (fun _ _ => rfl)) pa_nil)) (nomark _))))) (pss_one (ps_raise rfl (takes_of rfl rfl rfl rfl) (pmk_own0 PySem.F.excBase_ValueError T.exBadWeights.1 T.glBadWeights T.exBadWeights.2.1 (raises_own T.exBadWeights.2.2.1 T.exBadWeights.2.2.2) rfl))) (pss_nil))
      (pss_one (ps_if (PW.pt (pw_or (pt_not (pt_val (pe_genK (base := base) (c := He.codeOf K ("need_weights", none)) (B := lawB K) (P := (He.cT K ("need_weights", none)).2) (k := 1) (j := 1) (g := (gName 2)) (own := [("weight", 2)]) Asks.all (hr.mono (by decide)) rfl scNeedWeights.nd rfl T.frall bAll T.bm rfl (pi_tupK (pv 1)) (blkOk_by (N := nNeedWeights) (sc := defScope sNeedWeights) (by decide +kernel)) (by decide +kernel) (by decide +kernel) (fun _ _ _ _ _ => pg_name (i := 2) scNeedWeights.nd rfl (.inl rfl) (.inr rfl)) (fun _ _ _ _ _ _ hr2 => pe_cal (ok_isNumber T) hr2 rfl (pa_cons (pv 2) (pa_cons pe_int (pa_cons (pe_num rfl T.inMOST_WEIGHT) pa_nil))))))) (pw_or1 (pt_cmpR op_eq (pe_callB (cr_sumTK rfl) rfl T.frsum bSum (pa_cons (pv 1) pa_nil)) pe_int (nomark _))))) (pss_one (ps_raise rfl (takes_of rfl rfl rfl rfl) (pmk_own0 PySem.F.excBase_ValueError T.exBadWeights.1 T.glBadWeights T.exBadWeights.2.1 (raises_own T.exBadWeights.2.2.1 T.exBadWeights.2.2.2) rfl))) (pss_nil))), ?_⟩
    obtain ⟨a, us, rfl, ea, v0, _, rfl, n0, v1, _, rfl, n1, v2, _, rfl, ⟨c, cs, rfl, ec, alc⟩, rfl⟩ := nw
    have lc : cs.length = wk.kinds.length := by
      have := alc.length
      simpa using this.symm
    rcases hv with ⟨rfl, rfl⟩ | ⟨p, xs, rfl, ep, rfl⟩ | ⟨p, ps, rfl, ep, fl, rfl⟩
    · exact ⟨_, rfl, _, _, _, _, _, rfl, .ty _, .base .non, kit (r := false), false, rfl, iteT (iteT ((hQ _ (.refl _ _ _)).2 rfl))⟩
    · exact ⟨_, rfl, _, _, _, _, _, rfl, .ty _, .base (.lst ep), kit (r := false), false, rfl, iteT (iteT ((hQ _ (.refl _ _ _)).2 rfl))⟩
    refine ⟨_, rfl, _, _, _, _, _, rfl, .ty _, .base (.tup ep), kit (r := true), true, rfl, iteF ?_⟩
    refine ⟨_, rfl, p, _, rfl, .inr (.of ep), _, rfl, _, _, _, _, rfl, rfl, .of ea, atI_nat (j := 2) rfl, c, _, rfl, .inr (.of ec), rfl, _, rfl, ?_⟩
    have eN : ((V.int (ps.length : Int) = V.int (cs.length : Int))) ↔ ps.length = wk.kinds.length := by
      rw [lc]
      exact ⟨fun h => by injection h with h; omega, fun h => by rw [h]⟩
    by_cases hl : ps.length = wk.kinds.length
    · rw [decide_eq_true (eN.mpr hl)]
      refine iteF ?_
      refine ⟨_, rfl, p, rfl, ⟨_, .of ep⟩, gen_tup (fun i => numOk (ps.getD i .non) 0 9) ep (cdAt T ("need_weights", none)) (tb.1 ("need_weights", none) (by decide)) tb.2 (fun c' P' i x H2 R hx g _ _ hR => ?_) fun H3 g => ?_⟩
      · refine ⟨_, rfl, _, _, _, rfl, fl x (List.mem_of_getElem? hx), ?_⟩
        exact vk (hR _ (.refl _ _ _)) (congrArg V.bl (by rw [getD_of hx]))
      · rw [answer_list (p := fun u => numOk u 0 9) (xs := ps) fun j u eu => by rw [getD_of eu]]
        refine ⟨_, rfl, ?_⟩
        obtain ⟨h1, h2⟩ := hQ H3 g
        cases ew : ps.all (fun u => numOk u 0 9) with
        | false =>
          refine iteT (iteT (h2 ?_))
          unfold wtsB
          rw [ew, decide_eq_true hl] <;> rfl
        | true =>
          refine iteF ?_
          have eps : ps = (ps.map vI).map V.int := by
            rw [List.map_map]
            refine (List.map_id' ps).symm.trans (List.map_congr_left fun u hu => ?_)
            exact numOk_is (List.all_eq_true.mp ew u hu)
          have ep3 := g.tups _ _ ep
          rw [eps] at ep3
          refine ⟨_, rfl, p, ps.map vI, rfl, .of ep3, rfl, _, rfl, ?_⟩
          by_cases z : (ps.map vI).sum = 0
          · rw [decide_eq_true (by rw [z])]
            refine iteT (h2 ?_)
            unfold wtsB
            rw [decide_eq_true z]
            simp
          · rw [decide_eq_false fun y => z (by injection y)]
            refine iteF (h1 ?_)
            unfold wtsB
            rw [ew, decide_eq_true hl, decide_eq_false z] <;> rfl
    · rw [decide_eq_false fun z => hl (eN.mp z)]
      refine iteT ((hQ _ (.refl _ _ _)).2 ?_)
      unfold wtsB
      rw [decide_eq_false hl] <;> rfl
/-! ### common, lowest, power -/
def spCommon : Sp := fun vs H Q _ => ∃ a b : Nat, vs = [.int a, .int b] ∧ Q (.int (Nat.gcd a b)) H
abbrev nCommon : List Str := ["one", "other"]
theorem scCommon : FnScope nCommon ["one", "other"] (defScope sCommon) := ⟨rfl, rfl, rfl, by decide +kernel, rfl, by decide +kernel, by decide +kernel⟩
theorem fmod_nat {a b : Nat} : (a : Int).fmod b = ((a % b : Nat) : Int) := by
  rw [Int.fmod_eq_emod_of_nonneg _ (Int.natCast_nonneg b)]
  rfl
theorem ok_common (T : Tx K mg base) : Cal P w K mg base CX0 "common" 1 ["one", "other"] spCommon := by
  refine T.cal (st := sCommon) 18 rfl T.glcommon scCommon (fun _ _ _ _ _ _ us hl => match us, hl with | [_, _], _ => rfl) (fun vs H Q E h => ?_) (fun A outer s0 H vs Q E hr h => ?_)
  · obtain ⟨a, b, rfl, _⟩ := h
    rfl
  · obtain ⟨a, b, rfl, hQ⟩ := h
    refine ⟨_, PSs.nox (pss_cons (ps_while PassesOwn.never (pt_truthK (pv 1)) (pss_one (ps_par (i := 0) (j := 1) rfl scCommon.nd rfl rfl (by decide) rfl rfl (pa_cons (pv 1) (pa_cons (pe_op op_modN (pv 0) (pv 1)) pa_nil)) rfl)))
      (pss_one (ps_ret (pv 0)))), ?_⟩
    refine ⟨fun m σ H' => ∃ x : Nat, σ = [some (.int x), some (.int m)] ∧ H' = H ∧ Nat.gcd x m = Nat.gcd a b, ⟨b, a, rfl, rfl, rfl⟩, ?_⟩
    rintro m σ H' ⟨x, rfl, rfl, e⟩
    refine ⟨_, rfl, _, rfl, ?_⟩
    by_cases hm : m = 0
    · subst hm
      refine iteF ?_
      refine ⟨_, rfl, ?_⟩
      rw [Nat.gcd_zero_right] at e
      rw [e]
      exact hQ
    · have t : (((m : Nat) : Int) != 0) = true := by simp [hm]
      rw [t]
      refine iteT ⟨fun σ' H'' => ∃ x m' : Nat, m' < m ∧ σ' = [some (.int x), some (.int m')] ∧ H'' = H' ∧ Nat.gcd x m' = Nat.gcd a b, fun σ' H'' ⟨x, m', l, r⟩ => ⟨m', l, x, r⟩, ?_⟩
      refine ⟨_, rfl, _, rfl, _, rfl, _, _, rfl, rfl, by omega, _, _, rfl, ?_⟩
      refine ⟨m, x % m, Nat.mod_lt _ (by omega), ?_, rfl, ?_⟩
      · show [some (V.int (m : Nat)), some (V.int ((x : Int).fmod (m : Nat)))] = _
        rw [fmod_nat]
      · rw [← e, Nat.gcd_comm x m, Nat.gcd_rec m x, Nat.gcd_comm]
def low (a b : Nat) : Nat × Nat := (a / Nat.gcd a b, b / Nat.gcd a b)
abbrev kP (p : Nat × Nat) : NestedKey := .tup [.num p.1, .num p.2]
def spLowest (K : PySem.W.Frag) : Sp := fun vs H Q _ => ∃ a b : Nat, vs = [.int a, .int b] ∧ 0 < b ∧ b < 2 ^ 8000 ∧ ∀ v H', Gw (lawB K) [] H H' → NkV H' (kP (low a b)) v → Q v H'
abbrev nLowest : List Str := ["top", "bottom", "least"]
theorem scLowest : FnScope nLowest ["top", "bottom"] (defScope sLowest) := ⟨rfl, rfl, rfl, by decide +kernel, rfl, by decide +kernel, by decide +kernel⟩
theorem ok_lowest (T : Tx K mg base) : Cal P w K mg base CX0 "lowest" 2 ["top", "bottom"] (spLowest K) := by
  refine T.cal (st := sLowest) 19 rfl T.gllowest scLowest (fun _ _ _ _ _ _ us hl => match us, hl with | [_, _], _ => rfl) (fun vs H Q E h => ?_) (fun A outer s0 H vs Q E hr h => ?_)
  · obtain ⟨a, b, rfl, _⟩ := h
    rfl
  · obtain ⟨a, b, rfl, h0, hb, hQ⟩ := h
    refine ⟨_, PSs.nox (pss_cons (ps_set (i := 2) scLowest.nd rfl (.inl rfl) (pe_cal (ok_common T) hr rfl (pa_cons (pv 0) (pa_cons (pv 1) pa_nil))))
      (pss_one (ps_ret (pe_tup (pa_cons (pe_op op_fdivW (pv 0) (pv 2)) (pa_cons (pe_op op_fdivW (pv 1) (pv 2)) pa_nil)))))), ?_⟩
    have g0 : 0 < Nat.gcd a b := Nat.gcd_pos_of_pos_right a h0
    have g1 : Nat.gcd a b ≤ b := Nat.gcd_le_right a h0
    have cd : ∀ i : Int, CDivW i (Nat.gcd a b : Nat) := fun i => wide_div (b := 8000) (by omega) (by rw [Int.natAbs_natCast]; omega) (by decide) (by decide)
    refine ⟨_, rfl, _, rfl, a, b, rfl, ?_⟩
    refine ⟨_, rfl, _, rfl, _, _, rfl, rfl, cd _, _, rfl, _, rfl, _, _, rfl, rfl, cd _, by show 2 ≤ sizeLine; decide, fun p np => ?_⟩
    refine hQ _ _ (.new np) ⟨p, _, rfl, upd_same, _, _, rfl, ?_, _, _, rfl, ?_, rfl⟩
    · show V.int ((a : Int) / (Nat.gcd a b : Nat)) = V.int ((a / Nat.gcd a b : Nat) : Int)
      rfl
    · show V.int ((b : Int) / (Nat.gcd a b : Nat)) = V.int ((b / Nat.gcd a b : Nat) : Int)
      rfl
def spPower : Sp := fun vs H Q _ => ∃ b t : Nat, vs = [.int b, .int t] ∧ b ≤ 20 ∧ t ≤ 12 ∧ Q (.int ((b ^ t : Nat) : Int)) H
abbrev nPower : List Str := ["base", "times", "found", "turn"]
theorem scPower : FnScope nPower ["base", "times"] (defScope sPower) := ⟨rfl, rfl, rfl, by decide +kernel, rfl, by decide +kernel, by decide +kernel⟩
theorem pow_small {b t i : Nat} (hb : b ≤ 20) (ht : t ≤ 12) (hi : i ≤ t) : b ^ i < 2 ^ 60 :=
  Nat.lt_of_le_of_lt (Nat.pow_le_pow_left hb i) (Nat.lt_of_le_of_lt (Nat.pow_le_pow_right (by decide) (Nat.le_trans hi ht)) (by decide))
theorem ok_power (T : Tx K mg base) : Cal P w K mg base CX0 "power" 1 ["base", "times"] spPower := by
  refine T.cal (st := sPower) 20 rfl T.glpower scPower (fun _ _ _ _ _ _ us hl => match us, hl with | [_, _], _ => rfl) (fun vs H Q E h => ?_) (fun A outer s0 H vs Q E hr h => ?_)
  · obtain ⟨a, b, rfl, _⟩ := h
    rfl
  · obtain ⟨b, t, rfl, hb, ht, hQ⟩ := h
    refine ⟨_, PSs.nox (pss_cons (ps_set (i := 2) scPower.nd rfl (.inl rfl) pe_int)
      (pss_cons (ps_for PassesOwn.never rfl (pi_range1 rfl T.frrange (pa_cons (pv 1) pa_nil)) (pg_name (i := 3) scPower.nd rfl (.inl rfl)) (pss_one (ps_aug (i := 2) scPower.nd rfl (.inl rfl) (pv 0) iop_mul)))
      (pss_one (ps_ret (pv 2))))), ?_⟩
    refine ⟨_, rfl, t, rfl, by omega, by omega, ?_⟩
    refine for_range (lo := 0) (n := t) (fun i σ H' => i ≤ t ∧ H' = H ∧ ∃ x, σ = [some (.int b), some (.int t), some (.int ((b ^ i : Nat) : Int)), x]) ?_ (fun i σ H' hi hp => ?_) fun σ H' hp => ?_
    · exact ⟨Nat.zero_le _, rfl, none, rfl⟩
    · obtain ⟨_, rfl, x, rfl⟩ := hp
      have l := pow_small hb ht (Nat.le_of_lt hi)
      refine ⟨_, rfl, _, rfl, _, _, rfl, rfl, .inl ⟨by omega, by omega⟩, hi, rfl, some (.int (0 + (i : Int))), ?_⟩
      show [some (V.int b), some (V.int t), some (V.int (((b ^ i : Nat) : Int) * b)), some (V.int (0 + (i : Int)))] = _
      rw [show ((b ^ i : Nat) : Int) * b = ((b ^ (i + 1) : Nat) : Int) by rw [Nat.pow_succ, Int.natCast_mul]]
    · obtain ⟨_, rfl, x, rfl⟩ := hp
      exact ⟨_, rfl, hQ⟩
end
end Dy
end
section
set_option Elab.async false
set_option linter.all false
set_option maxRecDepth 100000
/-! Counting rows by a dict of stands, in plain Lean. -/
namespace Dy
open PySem PySem.Spec PyProof.Rows L2
abbrev Stand := List (List Int)
/-- f 0 + .. + f (n - 1) -/
def sm (n : Nat) (f : Nat → Nat) : Nat := match n with
  | 0 => 0
  | n + 1 => sm n f + f n
theorem sm_le {f g : Nat → Nat} : ∀ {n : Nat}, (∀ i, i < n → f i ≤ g i) → sm n f ≤ sm n g
  | 0, _ => Nat.le_refl _
  | n + 1, h => Nat.add_le_add (sm_le fun i hi => h i (by omega)) (h n (by omega))
theorem sm_congr {f g : Nat → Nat} : ∀ {n : Nat}, (∀ i, i < n → f i = g i) → sm n f = sm n g
  | 0, _ => rfl
  | n + 1, h => by
    show sm n f + f n = sm n g + g n
    rw [sm_congr fun i hi => h i (by omega), h n (by omega)]
theorem sm_mul {f : Nat → Nat} {c : Nat} : ∀ {n : Nat}, sm n (fun i => f i * c) = sm n f * c
  | 0 => (Nat.zero_mul c).symm
  | n + 1 => by
    show sm n _ + f n * c = (sm n f + f n) * c
    rw [sm_mul, Nat.add_mul]
theorem sm_mul_left {f : Nat → Nat} {c : Nat} {n : Nat} : sm n (fun i => c * f i) = c * sm n f := by
  rw [Nat.mul_comm c, ← sm_mul]
  exact sm_congr fun i _ => Nat.mul_comm _ _
theorem sm_const {c : Nat} : ∀ {n : Nat}, sm n (fun _ => c) = n * c
  | 0 => (Nat.zero_mul c).symm
  | n + 1 => by
    show sm n _ + c = _
    rw [sm_const, Nat.succ_mul]
theorem sm_add {f g : Nat → Nat} : ∀ {n : Nat}, sm n (fun i => f i + g i) = sm n f + sm n g
  | 0 => rfl
  | n + 1 => by
    show sm n _ + (f n + g n) = (sm n f + f n) + (sm n g + g n)
    rw [sm_add]
    omega
theorem sm_get {f : Nat → Nat} : ∀ {n i : Nat}, i < n → f i ≤ sm n f
  | 0, _, h => absurd h (Nat.not_lt_zero _)
  | n + 1, i, h => by
    show f i ≤ sm n f + f n
    rcases Nat.lt_succ_iff_lt_or_eq.mp h with z | z
    · have := sm_get (f := f) z
      omega
    · rw [z]
      omega
theorem sm_list (xs : List Nat) : sm xs.length (fun i => xs.getD i 0) = xs.sum := by
  have key : ∀ n, n ≤ xs.length → sm n (fun i => xs.getD i 0) = (xs.take n).sum := by
    intro n
    induction n with
    | zero => intro _; rfl
    | succ n ih =>
      intro h
      have hn : n < xs.length := h
      show sm n _ + xs.getD n 0 = _
      rw [ih (by omega), List.take_add_one, List.sum_append, List.getElem?_eq_getElem hn, List.getD_eq_getElem?_getD, List.getElem?_eq_getElem hn]
      simp
  rw [key _ (Nat.le_refl _), List.take_length]
/-- the rows of a plan, by weights -/
def stepP (w : Wks) (p ws : List Nat) (n : Nat) (f : Stand → Nat) (s : Stand) : Nat := sm n fun k => if (dy w s k (p.getD k 0)).2 = true then ws.getD k 0 * f (dy w s k (p.getD k 0)).1 else 0
def cntP (w : Wks) (p ws : List Nat) : Nat → Stand → Nat
  | 0, _ => 1
  | m + 1, s => stepP w p ws w.kinds.length (cntP w p ws m) s
theorem cntP_le {w : Wks} {p ws : List Nat} {S : Nat} (h : sm w.kinds.length (fun k => ws.getD k 0) ≤ S) : ∀ (m : Nat) (s : Stand), cntP w p ws m s ≤ S ^ m
  | 0, _ => Nat.le_refl _
  | m + 1, s => by
    have : cntP w p ws (m + 1) s ≤ sm w.kinds.length (fun k => ws.getD k 0 * S ^ m) := sm_le fun k _ => by
      split
      · exact Nat.mul_le_mul_left _ (cntP_le h m _)
      · exact Nat.zero_le _
    rw [sm_mul] at this
    rw [Nat.pow_succ, Nat.mul_comm]
    exact Nat.le_trans this (Nat.mul_le_mul_right _ h)
/-! ### a dict of stands -/
abbrev Dct := List (Stand × Nat)
def tot (D : Dct) (f : Stand → Nat) : Nat := (D.map fun x => x.2 * f x.1).sum
def dfind (D : Dct) (s : Stand) : Option Nat := (D.find? fun x => decide (x.1 = s)).map (·.2)
def dget (D : Dct) (s : Stand) : Nat := (dfind D s).getD 0
def dput (D : Dct) (s : Stand) (t : Nat) : Dct := if (dfind D s).isSome then D.map (fun x => if x.1 = s then (x.1, t) else x) else D ++ [(s, t)]
theorem tot_nil {f : Stand → Nat} : tot [] f = 0 := rfl
theorem tot_cons {x : Stand × Nat} {D : Dct} {f : Stand → Nat} : tot (x :: D) f = x.2 * f x.1 + tot D f := by
  unfold tot
  rw [List.map_cons, List.sum_cons]
theorem tot_append {D E : Dct} {f : Stand → Nat} : tot (D ++ E) f = tot D f + tot E f := by
  unfold tot
  rw [List.map_append, List.sum_append]
theorem dfind_none {D : Dct} {s : Stand} (h : dfind D s = none) : ∀ x ∈ D, x.1 ≠ s := fun x hx e => by
  unfold dfind at h
  have := List.find?_eq_none.mp (Option.map_eq_none_iff.mp h) x hx
  simp [e] at this
theorem tot_put {D : Dct} {s : Stand} {x : Nat} {f : Stand → Nat} (nd : (D.map (·.1)).Nodup) : tot (dput D s (dget D s + x)) f = tot D f + x * f s := by
  unfold dput
  cases e : dfind D s with
  | none =>
    have z : dget D s = 0 := by
      unfold dget
      rw [e] <;> rfl
    show tot (D ++ [(s, dget D s + x)]) f = _
    rw [tot_append, z, tot_cons, tot_nil]
    simp
  | some v =>
    have z : dget D s = v := by
      unfold dget
      rw [e] <;> rfl
    rw [z]
    show tot (D.map fun y => if y.1 = s then (y.1, v + x) else y) f = _
    clear z
    induction D with
    | nil => cases e
    | cons y D ih =>
      obtain ⟨n1, n2⟩ := List.nodup_cons.mp nd
      rw [List.map_cons, tot_cons, tot_cons]
      by_cases h : y.1 = s
      · have ev : y.2 = v := by
          unfold dfind at e
          rw [List.find?_cons, show decide (y.1 = s) = true from decide_eq_true h] at e
          exact Option.some.inj e
        have rest : D.map (fun y => if y.1 = s then (y.1, v + x) else y) = D := by
          refine (List.map_congr_left fun q hq => ?_).trans (List.map_id' D)
          have : q.1 ≠ s := fun z => n1 (by show y.1 ∈ _; rw [h, ← z]; exact List.mem_map_of_mem (f := fun x : Stand × Nat => x.1) hq)
          rw [if_neg this]
        rw [rest, if_pos h, ev]
        show (v + x) * f y.1 + _ = _
        rw [h, Nat.add_mul]
        omega
      · have e2 : dfind D s = some v := by
          unfold dfind at e ⊢
          rw [List.find?_cons, show decide (y.1 = s) = false from decide_eq_false h] at e
          exact e
        rw [if_neg h, ih n2 e2]
        omega
theorem keys_put {D : Dct} {s : Stand} {t : Nat} : (dput D s t).map (·.1) = if (dfind D s).isSome then D.map (·.1) else D.map (·.1) ++ [s] := by
  unfold dput
  split
  · rw [List.map_map]
    refine List.map_congr_left fun x _ => ?_
    show (if x.1 = s then (x.1, t) else x).1 = x.1
    split <;> rfl
  · rw [List.map_append] <;> rfl
theorem nodup_put {D : Dct} {s : Stand} {t : Nat} (nd : (D.map (·.1)).Nodup) : ((dput D s t).map (·.1)).Nodup := by
  rw [keys_put]
  split
  · exact nd
  · rename_i h
    refine List.nodup_append.mpr ⟨nd, by simp, fun a ha b hb e => ?_⟩
    rw [List.mem_singleton.mp hb] at e
    obtain ⟨x, hx, e2⟩ := List.mem_map.mp ha
    have hn : dfind D s = none := by
      cases q : dfind D s with
      | none => rfl
      | some v =>
        rw [q] at h
        exact absurd rfl h
    exact dfind_none hn x hx (e2.trans e)
theorem len_put {D : Dct} {s : Stand} {t : Nat} : (dput D s t).length ≤ D.length + 1 := by
  unfold dput
  split
  · rw [List.length_map]
    omega
  · rw [List.length_append]
    exact Nat.le_refl _
theorem mem_put {D : Dct} {s : Stand} {t : Nat} {P : Stand → Prop} (h : ∀ x ∈ D, P x.1) (hs : P s) : ∀ x ∈ dput D s t, P x.1 := fun x hx => by
  have e : x.1 ∈ (dput D s t).map (·.1) := List.mem_map_of_mem hx
  rw [keys_put] at e
  split at e
  · obtain ⟨y, hy, z⟩ := List.mem_map.mp e
    rw [← z]
    exact h y hy
  · rcases List.mem_append.mp e with q | q
    · obtain ⟨y, hy, z⟩ := List.mem_map.mp q
      rw [← z]
      exact h y hy
    · rw [List.mem_singleton.mp q]
      exact hs
theorem tot_take {D : Dct} {j : Nat} {x : Stand × Nat} {f : Stand → Nat} (h : D[j]? = some x) : tot (D.take (j + 1)) f = tot (D.take j) f + x.2 * f x.1 := by
  rw [List.take_add_one, h, Option.toList_some, tot_append, tot_cons, tot_nil, Nat.add_zero]
theorem tot_mem {D : Dct} {x : Stand × Nat} (h : x ∈ D) : x.2 ≤ tot D fun _ => 1 := by
  induction D with
  | nil => cases h
  | cons y D ih =>
    rw [tot_cons]
    rcases List.mem_cons.mp h with e | e
    · rw [e]
      omega
    · have := ih e
      omega
theorem tot_one {D : Dct} : tot D (fun _ => 1) = (D.map (·.2)).sum := by
  unfold tot
  simp
/-- a dict's entries as the machine's -/
def kvsOf (D : Dct) : List (NestedKey × V) := D.map fun x => (kS x.1, V.int x.2)
theorem kvs_at {D : Dct} {s : Stand} (inj : ∀ a b : Stand, kS a = kS b → a = b) : aAt (kvsOf D) (kS s) = (dfind D s).map fun t : Nat => V.int (t : Int) := by
  unfold aAt dfind kvsOf
  rw [List.find?_map, Option.map_map, Option.map_map]
  congr 1
  refine congrArg (fun q => List.find? q D) (funext fun x => ?_)
  show decide (kS x.1 = kS s) = decide (x.1 = s)
  exact decide_eq_decide.mpr ⟨inj _ _, fun h => by rw [h]⟩
theorem kvs_put {D : Dct} {s : Stand} {t : Nat} (inj : ∀ a b : Stand, kS a = kS b → a = b) : aPut (kvsOf D) (kS s) (.int t) = kvsOf (dput D s t) := by
  unfold aPut dput
  rw [kvs_at inj, Option.isSome_map]
  by_cases hh : (dfind D s).isSome = true
  · rw [if_pos hh, if_pos hh]
    unfold kvsOf
    rw [List.map_map, List.map_map]
    refine List.map_congr_left fun x _ => ?_
    show (if kS x.1 = kS s then (kS x.1, V.int t) else (kS x.1, V.int x.2)) = (kS (if x.1 = s then (x.1, t) else x).1, V.int (if x.1 = s then (x.1, t) else x).2)
    by_cases h : x.1 = s
    · rw [if_pos (by rw [h]), if_pos h]
    · rw [if_neg fun z => h (inj _ _ z), if_neg h]
  · rw [if_neg hh, if_neg hh]
    unfold kvsOf
    rw [List.map_append] <;> rfl
end Dy
end
section
set_option Elab.async false
set_option linter.all false
set_option maxRecDepth 100000
set_option maxHeartbeats 4000000
set_option pp.maxSteps 1500
/-! plan_rows. -/
namespace Dy
open PySem PySem.Spec PyProof.Rows L2
theorem NDw.gw {w : World} {B d : Addr} {M : List Addr} {H H' : Hp} {kvs : List (NestedKey × V)} (x : NDw w H d kvs) (g : Gw B M H H') (h : d ∉ M) : NDw w H' d kvs := x.mono (fun o e n => g.keep d o h e n) g.tups
/-- the dict at d, told by stands -/
structure DIs (w : World) (H : Hp) (d : Addr) (dy n : Nat) (D : Dct) : Prop where
  nd : NDw w H d (kvsOf D)
  un : (D.map (·.1)).Nodup
  ok : ∀ x ∈ D, StOk dy n x.1
theorem DIs.gw {w : World} {B d : Addr} {M : List Addr} {H H' : Hp} {y n : Nat} {D : Dct} (x : DIs w H d y n D) (g : Gw B M H H') (h : d ∉ M) : DIs w H' d y n D := ⟨x.nd.gw g h, x.un, x.ok⟩
theorem stKey {H : Hp} {s : Stand} {v : V} (h : NkV H (kS s) v) : NkAt H v (kS s) := ⟨h, by
  obtain ⟨a, _, e, _⟩ := h
  exact ⟨a, e⟩, Nat.le_trans (depth_kS s) (by decide)⟩
theorem kvs_getD {D : Dct} {s : Stand} : (aAt (kvsOf D) (kS s)).getD (.int 0) = .int (dget D s : Nat) := by
  rw [kvs_at fun _ _ => kS_inj]
  unfold dget
  cases dfind D s <;> rfl
theorem kvs_ints {D : Dct} : (kvsOf D).map (·.2) = ((D.map (·.2)).map Int.ofNat).map V.int := by
  unfold kvsOf
  rw [List.map_map, List.map_map, List.map_map]
  rfl
theorem sum_ints : ∀ l : List Nat, (l.map Int.ofNat).sum = ((l.sum : Nat) : Int)
  | [] => rfl
  | x :: l => by
    rw [List.map_cons, List.sum_cons, List.sum_cons, sum_ints l]
    rfl
/-- the dict at d becomes one with s put -/
theorem a_put {w : World} {B d : Addr} {H0 H : Hp} {y n : Nat} {D : Dct} {s : Stand} {v z : V} {t : Nat} {R : Hp → Prop} (ez : z = .int (t : Nat)) (x : DIs w H d y n D) (hd : H0 d = none) (g : Gw B [] H0 H) (hs : StOk y n s) (nv : NkV H (kS s) v) (hl : D.length < 3000000)
    (q : ∀ H', Gw B [] H0 H' → Gw B [d] H H' → DIs w H' d y n (dput D s t) → R H') : NdPut w H d v z R := by
  subst ez
  refine ⟨kvsOf D, kS s, x.nd, stKey nv, by unfold kvsOf; rw [List.length_map, sizeLine_eq]; omega, fun xs' nw => ?_⟩
  obtain ⟨xs, e, _⟩ := x.nd
  rw [kvs_put fun _ _ => kS_inj] at nw
  exact q _ (g.put (.inl hd) e NdO.loose) ((Gw.refl B [d] H).put (.inr List.mem_cons_self) e NdO.loose) ⟨nw, nodup_put x.un, mem_put x.ok hs⟩
/-- the turns over a locked dict's items -/
theorem for_nd {w : World} {d : Addr} {o : Obj} {xs : List Ent} {g : TG} {tb : TS} {D : Ends} {σ : L2.St} {H : Hp} (Pv : Nat → L2.St → Hp → Prop) (h0 : Pv 0 σ H) (hl : ∀ i σ H, Pv i σ H → H d = some (.frz o (NdO w d xs)))
    (hs : ∀ i k a v T σ H, xs[i]? = some (k, a, v) → Pv i σ H → H T = none → g (.ref T) σ (upd H T (.tup [.ref a, v])) fun σ2 H2 => tb { D with nx := Pv (i + 1), ct := Pv (i + 1), bk := D.nx } σ2 H2) (hd : ∀ σ H, Pv xs.length σ H → D.nx σ H) :
    ∃ W : Nat → Nat → L2.St → Hp → Prop, (∃ m, W 0 m σ H) ∧ ∀ i m σ H, W i m σ H →
      ((NdIt w d o xs).stop i H ∧ D.nx σ H) ∨ ((NdIt w d o xs).go i H ∧ ∃ N : L2.St → Hp → Prop, (∀ σ' H', N σ' H' → ∃ m', m' < m ∧ W (i + 1) m' σ' H') ∧ ∀ x H', (NdIt w d o xs).yld i H x H' → g x σ H' fun σ2 H2 => tb { D with nx := N, ct := N, bk := D.nx } σ2 H2) := by
  refine ⟨fun i m σ H => m = xs.length - i ∧ i ≤ xs.length ∧ Pv i σ H, ⟨_, rfl, Nat.zero_le _, h0⟩, ?_⟩
  rintro i m σ H ⟨rfl, hi, p⟩
  have q := hl i σ H p
  by_cases hlt : i < xs.length
  · refine .inr ⟨⟨q, hlt⟩, Pv (i + 1), fun σ' H' p' => ⟨xs.length - (i + 1), by omega, rfl, hlt, p'⟩, fun v H' z => ?_⟩
    obtain ⟨T, k, a, v, e1, rfl, e2, rfl⟩ := z
    exact hs i k a v T σ H e1 p e2
  · have e : i = xs.length := by omega
    subst e
    exact .inl ⟨⟨q, Nat.le_refl _⟩, hd σ H p⟩
/-- the turns over enumerate of a tuple -/
theorem for_en {K : PySem.W.Frag} {a : Addr} {xs : List V} {g : TG} {tb : TS} {D : Ends} {σ : L2.St} {H : Hp} (Pv : Nat → L2.St → Hp → Prop) (h0 : Pv 0 σ H) (hl : ∀ i σ H, Pv i σ H → SqT K H a xs)
    (hs : ∀ (i : Nat) x T σ H, xs[i]? = some x → Pv i σ H → H T = none → g (.ref T) σ (upd H T (.tup [.int (i : Nat), x])) fun σ2 H2 => tb { D with nx := Pv (i + 1), ct := Pv (i + 1), bk := D.nx } σ2 H2) (hd : ∀ σ H, Pv xs.length σ H → D.nx σ H) :
    ∃ W : Nat → Nat → L2.St → Hp → Prop, (∃ m, W 0 m σ H) ∧ ∀ i m σ H, W i m σ H →
      ((EnIt K a xs).stop i H ∧ D.nx σ H) ∨ ((EnIt K a xs).go i H ∧ ∃ N : L2.St → Hp → Prop, (∀ σ' H', N σ' H' → ∃ m', m' < m ∧ W (i + 1) m' σ' H') ∧ ∀ x H', (EnIt K a xs).yld i H x H' → g x σ H' fun σ2 H2 => tb { D with nx := N, ct := N, bk := D.nx } σ2 H2) := by
  refine ⟨fun i m σ H => m = xs.length - i ∧ i ≤ xs.length ∧ Pv i σ H, ⟨_, rfl, Nat.zero_le _, h0⟩, ?_⟩
  rintro i m σ H ⟨rfl, hi, p⟩
  have q := hl i σ H p
  by_cases hlt : i < xs.length
  · refine .inr ⟨⟨q, hlt⟩, Pv (i + 1), fun σ' H' p' => ⟨xs.length - (i + 1), by omega, rfl, hlt, p'⟩, fun v H' z => ?_⟩
    obtain ⟨T, x, rfl, e2, rfl, e1⟩ := z
    exact hs i x T σ H e1 p e2
  · have e : i = xs.length := by omega
    subst e
    exact .inl ⟨⟨q, Nat.le_refl _⟩, hd σ H p⟩
/-- an entry of the machine's, of ours -/
theorem ent_of {xs : List Ent} {D : Dct} (e : (xs.map fun x => (x.1, x.2.2)) = kvsOf D) {j : Nat} {k : NestedKey} {a : Addr} {v : V} (h : xs[j]? = some (k, a, v)) : ∃ s t, D[j]? = some (s, t) ∧ k = kS s ∧ v = .int (t : Nat) := by
  have q : (xs.map fun x => (x.1, x.2.2))[j]? = some (k, v) := by
    rw [List.getElem?_map, h] <;> rfl
  rw [e] at q
  unfold kvsOf at q
  rw [List.getElem?_map] at q
  obtain ⟨⟨s, t⟩, h1, h2⟩ := Option.map_eq_some_iff.mp q
  injection h2 with h3 h4
  exact ⟨s, t, h1, h3.symm, h4.symm⟩
theorem ent_len {xs : List Ent} {D : Dct} (e : (xs.map fun x => (x.1, x.2.2)) = kvsOf D) : xs.length = D.length := by
  have := congrArg List.length e
  unfold kvsOf at this
  rwa [List.length_map, List.length_map] at this
/-- the weights: one a kind, each at most nine -/
structure WtOk (w : Wks) (ws : List Nat) : Prop where
  len : ws.length = w.kinds.length
  le : ∀ i, ws.getD i 0 ≤ 9
theorem WtOk.sum {wk : Wks} {ws : List Nat} (h : WtOk wk ws) (ok : WksOk wk) : sm wk.kinds.length (fun k => ws.getD k 0) ≤ 27 := by
  have : sm wk.kinds.length (fun k => ws.getD k 0) ≤ sm wk.kinds.length (fun _ => 9) := sm_le fun i _ => h.le i
  rw [sm_const] at this
  have := ok.k2
  omega
theorem pow27 {i : Nat} (h : i ≤ 12) : 27 ^ i < 2 ^ 58 := Nat.lt_of_le_of_lt (Nat.pow_le_pow_right (by decide) h) (by decide)
theorem pow3 {i : Nat} (h : i ≤ 12) : 3 ^ i ≤ 531441 := Nat.le_trans (Nat.pow_le_pow_right (by decide) h) (by decide)
section
variable {P : Program} {w : World} {K : PySem.W.Frag} {mg : Str → Option Value} {base : Heap}
def spPlanRows (K : PySem.W.Frag) : Sp := fun vs H Q _ => ∃ v1 v2 v3 wk p ws, ∃ m : Nat, vs = [v1, v2, v3, .int m] ∧ NkV H (Wks.key wk) v1 ∧ NkV H (kI (natI p)) v2 ∧ NkV H (kI (natI ws)) v3 ∧ WksOk wk ∧ PlanOk wk p ∧ WtOk wk ws ∧ m ≤ 12 ∧ Tbs K H ∧
  ∀ H', Gw (lawB K) [] H H' → Q (.int ((cntP wk p ws m wk.vats : Nat) : Int)) H'
abbrev nPlanRows : List Str := ["works", "plan", "weights", "many", "found", "turn", "later", "stand", "top", "kind", "weight", "there", "good"]
theorem scPlanRows : FnScope nPlanRows ["works", "plan", "weights", "many"] (defScope sPlanRows) := ⟨rfl, rfl, rfl, by decide +kernel, rfl, by decide +kernel, by decide +kernel⟩
theorem ok_planRows (T : Tx K mg base) : Cal P w K mg base CX0 "plan_rows" 9 ["works", "plan", "weights", "many"] (spPlanRows K) := by
  refine T.cal (st := sPlanRows) 21 rfl T.glplan_rows scPlanRows (fun _ _ _ _ _ _ us hl => match us, hl with | [_, _, _, _], _ => rfl) (fun vs H Q E h => ?_) (fun A outer s0 H vs Q E hr h => ?_)
  · obtain ⟨v1, v2, v3, a, b, c, m, rfl, _⟩ := h
    rfl
  · obtain ⟨v1, v2, v3, wk, p, ws, m, rfl, nw, np, nws, ok, hp, hw, hm, tb, hQ⟩ := h
    refine ⟨_, PSs.nox (pss_cons (ps_set (i := 4) scPlanRows.nd rfl (.inl rfl) (pe_nd1 hr.units (pe_ix ix_tupK (pv 0) pe_int (fun _ _ => rfl)) pe_int))
      (pss_cons (ps_for PassesOwn.never rfl (pi_range1 rfl T.frrange (pa_cons (pv 3) pa_nil)) (pg_name (i := 5) scPlanRows.nd rfl (.inl rfl)) (pss_cons (ps_set (i := 6) scPlanRows.nd rfl (.inl rfl) pe_ndnew)
      (pss_cons (ps_lock (ps_for PassesOwn.never rfl (pi_nditems (pv 4)) (pg_tupK (n := 2) rfl (pgs_cons (pg_name (i := 7) scPlanRows.nd rfl (.inl rfl)) (pgs_cons (pg_name (i := 8) scPlanRows.nd rfl (.inl rfl)) pgs_nil))) (pss_one (ps_for PassesOwn.never rfl (pi_enTK rfl T.frenumerate (pa_cons (pv 2) pa_nil)) (pg_tupK (n := 2) rfl (pgs_cons (pg_name (i := 9) scPlanRows.nd rfl (.inl rfl)) (pgs_cons (pg_name (i := 10) scPlanRows.nd rfl (.inl rfl)) pgs_nil))) (pss_cons (ps_asg (pe_cal (ok_dyed T) hr rfl (pa_cons (pv 0) (pa_cons (pv 7) (pa_cons (pv 9) (pa_cons (pe_ix ix_tupK (pv 1) (pv 9) (fun _ _ => rfl)) pa_nil))))) (pg_tupK (n := 2) rfl (pgs_cons (pg_name (i := 11) scPlanRows.nd rfl (.inl rfl)) (pgs_cons (pg_name (i := 12) scPlanRows.nd rfl (.inl rfl)) pgs_nil))))
      (pss_one (ps_if (PW.pt (pw_and (pt_val (pv 12)) (pw_and1 (pt_truthK (pv 10))))) (pss_one (ps_asg (pe_op op_add (pe_ndget2 hr.units (pv 6) (pv 11) pe_int ⟨rfl, rfl, rfl, rfl⟩) (pe_op op_mulW (pv 8) (pv 10))) (pg_sub (pv 6) (pv 11) (set_nd hr.units)))) (pss_nil))))))))
      (pss_one (ps_set (i := 4) scPlanRows.nd rfl (.inl rfl) (pv 6))))))
      (pss_one (ps_ret (pe_callB (cr_ndsum rfl) rfl T.frsum bSum (pa_cons (pe_ndvals (pv 4)) pa_nil)))))), ?_⟩
    have nw0 := nw
    have np0 := np
    obtain ⟨wx, us, rfl, ex, v0, _, rfl, n0, u1, _, rfl, n1, u2, _, rfl, n2, rfl⟩ := nw
    obtain ⟨px, ps, rfl, epx, alp⟩ := np
    obtain rfl := NkAll.nums.mp alp
    obtain ⟨wsx, wss, rfl, ews, alw⟩ := nws
    obtain rfl := NkAll.nums.mp alw
    have k2 := ok.k2
    -- {works[1]: 1}
    intro d hd
    have gd : Gw (lawB K) [] H (upd H d (NdO w d [])) := .new hd
    refine ⟨_, rfl, _, _, _, _, rfl, rfl, .of (gd.tups _ _ ex), atI_nat (j := 1) rfl, upd_same, ?_⟩
    obtain ⟨vx, evx⟩ := (stKey n1).ref
    subst evx
    refine ⟨vx, kS wk.vats, rfl, stKey (n1.gw gd), ?_⟩
    have g1 : Gw (lawB K) [] H (upd (upd H d (NdO w d [])) d (NdO w d [(kS wk.vats, vx, .int 1)])) := gd.put (.inl hd) upd_same NdO.loose
    have D1 : DIs w (upd (upd H d (NdO w d [])) d (NdO w d [(kS wk.vats, vx, .int 1)])) d wk.dyes wk.vats.length [(wk.vats, 1)] :=
      ⟨⟨[(kS wk.vats, vx, .int 1)], upd_same, rfl, fun x hx => by
        rw [List.mem_singleton.mp hx]
        exact ⟨n1.gw g1, (stKey n1).dep⟩⟩, by simp, fun x hx => by
        rw [List.mem_singleton.mp hx]
        exact StOk.of wk ok⟩
    refine ⟨_, rfl, m, rfl, by omega, by omega, ?_⟩
    refine for_range (lo := 0) (n := m) (fun i σ H' => i ≤ m ∧ ∃ d D x5 x6 x7 x8 x9 x10 x11 x12, σ = [some (.ref wx), some (.ref px), some (.ref wsx), some (.int m), some (.ref d), x5, x6, x7, x8, x9, x10, x11, x12] ∧ Gw (lawB K) [] H H' ∧ H d = none ∧
      DIs w H' d wk.dyes wk.vats.length D ∧ D.length ≤ 3 ^ i ∧ ∀ r, tot D (cntP wk p ws r) = cntP wk p ws (i + r) wk.vats) ?_ (fun i σ H2 hi hP => ?_) fun σ H2 hP => ?_
    · refine ⟨Nat.zero_le _, d, [(wk.vats, 1)], none, none, none, none, none, none, none, none, rfl, g1, hd, D1, Nat.le_refl _, fun r => ?_⟩
      rw [tot_cons, tot_nil, Nat.zero_add]
      show 1 * cntP wk p ws r wk.vats + 0 = _
      omega
    · clear D1 g1
      obtain ⟨_, d, D, x5, x6, x7, x8, x9, x10, x11, x12, rfl, g2, nd, DD, lD, hD⟩ := hP
      have bD : ∀ x ∈ D, x.2 < 2 ^ 58 := fun x hx => by
        have h1 := tot_mem hx
        have h2 : tot D (fun _ => 1) = cntP wk p ws (i + 0) wk.vats := hD 0
        have h3 := cntP_le (p := p) (WtOk.sum hw ok) i wk.vats
        have h4 := pow27 (i := i) (by omega)
        rw [Nat.add_zero] at h2
        omega
      have l3 := pow3 (i := i) (by omega)
      intro e he
      obtain ⟨xs, exs, em, ks⟩ := DD.nd
      have dne : d ≠ e := ne_of_none exs he
      have ne : H e = none := g2.dom e he
      have g23 : Gw (lawB K) [] H2 (upd H2 e (NdO w e [])) := .new he
      have g3 := g2.trans g23
      have exs3 : upd H2 e (NdO w e []) d = some (NdO w d xs) := by
        rw [upd_ne dne]
        exact exs
      have L0 : DIs w (upd H2 e (NdO w e [])) e wk.dyes wk.vats.length [] := ⟨⟨[], upd_same, rfl, fun x hx => (nomatch hx)⟩, List.nodup_nil, fun x hx => (nomatch hx)⟩
      have lx := ent_len em
      -- for stand, top in found.items()
      refine ⟨d, NdO w d xs, exs3, trivial, fun od => ?_⟩
      have g34 : Gw (lawB K) [d] (upd H2 e (NdO w e [])) (upd (upd H2 e (NdO w e [])) d (.frz od (NdO w d xs))) := (Gw.refl _ _ _).put (.inr List.mem_cons_self) exs3 NdO.loose
      have g4 : Gw (lawB K) [] H (upd (upd H2 e (NdO w e [])) d (.frz od (NdO w d xs))) := g3.put (.inl nd) exs3 NdO.loose
      refine ⟨_, rfl, d, od, xs, rfl, upd_same, ?_⟩
      refine for_nd (fun j σ H' => ∃ L x7 x8 x9 x10 x11 x12, σ = [some (.ref wx), some (.ref px), some (.ref wsx), some (.int m), some (.ref d), some (.int (0 + (i : Int))), some (.ref e), x7, x8, x9, x10, x11, x12] ∧ Gw (lawB K) [] H H' ∧ H' d = some (.frz od (NdO w d xs)) ∧
        (∀ x ∈ xs, NkV H' x.1 (.ref x.2.1)) ∧ DIs w H' e wk.dyes wk.vats.length L ∧ j ≤ xs.length ∧ L.length ≤ j * 3 ∧ ∀ f, tot L f = tot (D.take j) (stepP wk p ws wk.kinds.length f)) ?_ (fun j σ H' hP => ?_) (fun j k a v T' σ H5 hx hP hT => ?_) fun σ H5 hP => ?_
      · exact ⟨[], x7, x8, x9, x10, x11, x12, rfl, g4, upd_same, fun x hx => ((ks x hx).1.gw g23).gw g34, L0.gw g34 (by simpa using dne.symm), Nat.zero_le _, Nat.zero_le _, fun f => rfl⟩
      · obtain ⟨_, _, _, _, _, _, _, _, _, h, _⟩ := hP
        exact h
      · obtain ⟨L, y7, y8, y9, y10, y11, y12, rfl, g5, efz, ks5, LL, hj, ll, hL⟩ := hP
        obtain ⟨s, t, eD, rfl, rfl⟩ := ent_of em hx
        have hs : StOk wk.dyes wk.vats.length s := DD.ok _ (List.mem_of_getElem? eD)
        have ht : t < 2 ^ 58 := bD _ (List.mem_of_getElem? eD)
        have hj2 : j < xs.length := (List.getElem?_eq_some_iff.mp hx).1
        have g56 : Gw (lawB K) [] H5 (upd H5 T' (.tup [.ref a, .int (t : Nat)])) := .new hT
        have ksa := ks5 _ (List.mem_of_getElem? hx)
        refine ⟨T', _, rfl, .of upd_same, rfl, _, _, rfl, _, _, rfl, rfl, ?_⟩
        -- for kind, weight in enumerate(weights)
        refine ⟨_, rfl, wsx, _, rfl, .of ((g5.trans g56).tups _ _ ews), ?_⟩
        have lw : ((natI ws).map V.int).length = wk.kinds.length := by simpa using hw.len
        refine for_en (xs := (natI ws).map V.int) (fun k σ H' => ∃ L x9 x10 x11 x12, σ = [some (.ref wx), some (.ref px), some (.ref wsx), some (.int m), some (.ref d), some (.int (0 + (i : Int))), some (.ref e), some (.ref a), some (.int (t : Nat)), x9, x10, x11, x12] ∧ Gw (lawB K) [] H H' ∧ H' d = some (.frz od (NdO w d xs)) ∧
          (∀ x ∈ xs, NkV H' x.1 (.ref x.2.1)) ∧ DIs w H' e wk.dyes wk.vats.length L ∧ k ≤ wk.kinds.length ∧ L.length ≤ j * 3 + k ∧ ∀ f, tot L f = tot (D.take j) (stepP wk p ws wk.kinds.length f) + t * stepP wk p ws k f s) ?_ (fun k σ H' hP => ?_) (fun k x T2 σ H6 hx2 hP hT2 => ?_) fun σ H6 hP => ?_
        · exact ⟨L, y9, y10, y11, y12, rfl, g5.trans g56, g56.keep d _ (by simp) efz (fun _ z => nomatch z), fun x hx => (ks5 x hx).gw g56, LL.gw g56 (by simp), Nat.zero_le _, ll, fun f => hL f⟩
        · obtain ⟨_, _, _, _, _, _, g, _⟩ := hP
          exact .of (g.tups _ _ ews)
        · obtain ⟨L, z9, z10, z11, z12, rfl, g6, efz6, ks6, LL6, hk, ll6, hL6⟩ := hP
          have hk2 : k < wk.kinds.length := by
            rw [← lw]
            exact (List.getElem?_eq_some_iff.mp hx2).1
          have kw : k < ws.length := hw.len ▸ hk2
          have kp : k < p.length := hp.len ▸ hk2
          have ew : x = .int (ws.getD k 0 : Nat) := by
            rw [List.getElem?_map, List.getElem?_map, List.getElem?_eq_getElem kw] at hx2
            rw [List.getD_eq_getElem?_getD, List.getElem?_eq_getElem kw]
            exact (Option.some.inj hx2).symm
          subst ew
          have epk : ((natI p).map V.int)[k]? = some (.int (p.getD k 0 : Nat)) := by
            rw [List.getElem?_map, List.getElem?_map, List.getElem?_eq_getElem kp, List.getD_eq_getElem?_getD, List.getElem?_eq_getElem kp] <;> rfl
          have g67 : Gw (lawB K) [] H6 (upd H6 T2 (.tup [.int (k : Nat), .int (ws.getD k 0 : Nat)])) := .new hT2
          have g7 := g6.trans g67
          refine ⟨T2, _, rfl, .of upd_same, rfl, _, _, rfl, _, _, rfl, rfl, ?_⟩
          -- there, good = dyed(..)
          refine ⟨_, rfl, _, rfl, _, rfl, _, rfl, _, rfl, _, _, _, _, rfl, rfl, .of (g7.tups _ _ epx), atI_nat epk, ?_⟩
          refine ⟨_, _, wk, s, k, p.getD k 0, rfl, nw0.gw g7, (ks6 _ (List.mem_of_getElem? hx)).gw g67, ok, hs, hk2, hp.lt k hk2, tb.gw g7, fun q l H8 g78 eq nl => ?_⟩
          refine ⟨q, _, rfl, .of eq, rfl, _, _, rfl, _, _, rfl, rfl, ?_⟩
          have g68 := g67.trans g78
          have g8 := g6.trans g68
          have efz8 := g68.keep d _ (by simp) efz6 (fun _ z => nomatch z)
          have ks8 : ∀ x ∈ xs, NkV H8 x.1 (.ref x.2.1) := fun x hx => (ks6 x hx).gw g68
          have LL8 := LL6.gw g68 (by simp)
          have hs2 := dy_ok hs k (p.getD k 0) (w := wk)
          have w9 := hw.le k
          have skip : ((dy wk s k (p.getD k 0)).2 = true → ws.getD k 0 = 0) → ∀ f, tot L f = tot (D.take j) (stepP wk p ws wk.kinds.length f) + t * stepP wk p ws (k + 1) f s := fun h f => by
            rw [hL6 f]
            show _ = _ + t * (stepP wk p ws k f s + if (dy wk s k (p.getD k 0)).2 = true then ws.getD k 0 * f (dy wk s k (p.getD k 0)).1 else 0)
            split
            · rename_i c
              rw [h c, Nat.zero_mul, Nat.add_zero]
            · rw [Nat.add_zero]
          refine ⟨_, rfl, _, rfl, ?_⟩
          cases eg : (dy wk s k (p.getD k 0)).2 with
          | false => exact iteF (iteF ⟨L, _, _, _, _, rfl, g8, efz8, ks8, LL8, hk2, by omega, skip fun z => by rw [eg] at z; cases z⟩)
          | true =>
            refine iteT ⟨_, rfl, _, rfl, ?_⟩
            by_cases wz : ws.getD k 0 = 0
            · rw [wz]
              exact iteF ⟨L, _, _, _, _, rfl, g8, efz8, ks8, LL8, hk2, by omega, skip fun _ => wz⟩
            · rw [show (((ws.getD k 0 : Nat) : Int) != 0) = true from bne_iff_ne.mpr (by omega)]
              refine iteT ?_
              refine ⟨_, rfl, e, _, rfl, LL8.nd.nd, _, rfl, _, kS (dy wk s k (p.getD k 0)).1, LL8.nd.nd, stKey nl, ?_⟩
              rw [kvs_getD]
              have mulOk : CMulW (t : Nat) (ws.getD k 0 : Nat) := wide_mul (a := 58) (b := 8) (by rw [Int.natAbs_natCast]; exact ht) (by rw [Int.natAbs_natCast]; exact Nat.lt_of_le_of_lt w9 (by decide)) (by decide) (by decide) (by decide)
              refine ⟨_, rfl, _, rfl, _, _, rfl, rfl, mulOk, _, _, rfl, rfl, ?_⟩
              refine ⟨_, rfl, _, rfl, e, rfl, a_put (t := dget L (dy wk s k (p.getD k 0)).1 + t * ws.getD k 0) (congrArg V.int (by rw [Int.natCast_add, Int.natCast_mul])) LL8 ne g8 hs2 nl (by rw [lx] at hj2; omega) fun H9 g9 g89 LL9 => ?_⟩
              refine ⟨_, _, _, _, _, rfl, g9, g89.keep d _ (by simpa using dne) efz8 (fun _ z => nomatch z), fun x hx => (ks8 x hx).gw g89, LL9, hk2, by have := len_put (D := L) (s := (dy wk s k (p.getD k 0)).1) (t := dget L (dy wk s k (p.getD k 0)).1 + t * ws.getD k 0); omega, fun f => ?_⟩
              rw [tot_put LL8.un, hL6 f]
              show _ = _ + t * (stepP wk p ws k f s + if (dy wk s k (p.getD k 0)).2 = true then ws.getD k 0 * f (dy wk s k (p.getD k 0)).1 else 0)
              rw [if_pos eg, Nat.mul_add, Nat.mul_assoc]
              omega
        · obtain ⟨L, z9, z10, z11, z12, rfl, g6, efz6, ks6, LL6, hk, ll6, hL6⟩ := hP
          rw [lw] at ll6 hL6
          refine ⟨L, _, _, _, _, _, _, rfl, g6, efz6, ks6, LL6, hj2, by rw [Nat.succ_mul]; omega, fun f => ?_⟩
          rw [hL6 f, tot_take eD]
      · obtain ⟨L, y7, y8, y9, y10, y11, y12, rfl, g5, efz, ks5, LL, hj, ll, hL⟩ := hP
        refine ⟨efz, ?_⟩
        have g6 : Gw (lawB K) [] H (upd H5 d (NdO w d xs)) := g5.put (.inl nd) efz NdO.frz_loose
        have g56 : Gw (lawB K) [d] H5 (upd H5 d (NdO w d xs)) := (Gw.refl _ _ _).put (.inr List.mem_cons_self) efz NdO.frz_loose
        refine ⟨_, rfl, hi, e, L, _, _, _, _, _, _, _, _, rfl, g6, ne, LL.gw g56 (by simpa using dne.symm), by rw [Nat.pow_succ]; rw [lx] at ll; omega, fun r => ?_⟩
        rw [hL, lx, List.take_length]
        have := hD (r + 1)
        rw [show i + 1 + r = i + (r + 1) by omega, ← this]
        rfl
    · obtain ⟨_, d, D, x5, x6, x7, x8, x9, x10, x11, x12, rfl, g2, nd, DD, lD, hD⟩ := hP
      refine ⟨_, rfl, d, _, rfl, DD.nd.nd, fun q nq => ?_⟩
      have g3 := g2.add (o := viewO "dict_values" q d) nq
      refine ⟨q, d, kvsOf D, _, rfl, upd_same, (DD.nd.gw (Gw.new (B := lawB K) (M := []) nq) (by simp)).nd, kvs_ints, ?_⟩
      rw [sum_ints, ← tot_one]
      have := hD 0
      rw [Nat.add_zero] at this
      rw [show tot D (fun _ => 1) = cntP wk p ws m wk.vats from this]
      exact hQ _ g3
end
end Dy
end
section
set_option Elab.async false
set_option linter.all false
set_option maxRecDepth 100000
set_option maxHeartbeats 4000000
set_option pp.maxSteps 1500
/-! count_rows, plan_chance. -/
namespace Dy
open PySem PySem.Spec PyProof.Rows L2
abbrev ones (n : Nat) : List Nat := List.replicate n 1
theorem wt_ones {wk : Wks} : WtOk wk (ones wk.kinds.length) := ⟨List.length_replicate, fun i => by
  rw [List.getD_eq_getElem?_getD, List.getElem?_replicate]
  split <;> decide⟩
theorem map_vI {ws : List Nat} : (((natI ws).map V.int).map vI) = natI ws := by
  rw [List.map_map]
  exact List.map_id' _
theorem wtsB_ok {wk : Wks} {ws : List Nat} (h : WtOk wk ws) (h0 : 0 < ws.sum) : wtsB wk ((natI ws).map V.int) = true := by
  unfold wtsB
  rw [decide_eq_true (by simpa using h.len), map_vI, sum_ints]
  have z : ¬ ((ws.sum : Nat) : Int) = 0 := by omega
  rw [decide_eq_false z]
  simp only [Bool.true_and, Bool.not_false, Bool.and_true]
  refine List.all_eq_true.mpr fun u hu => ?_
  obtain ⟨y, hy, rfl⟩ := List.mem_map.mp hu
  obtain ⟨x, hx, rfl⟩ := List.mem_map.mp hy
  obtain ⟨i, hi⟩ := List.mem_iff_getElem?.mp hx
  have := h.le i
  rw [getD_of hi] at this
  exact numOk_int (show (0 : Int) ≤ (x : Int) by omega) (show (x : Int) ≤ 9 by omega)
theorem WtsV.of {H : Hp} {wk : Wks} {ws : List Nat} {v : V} (h : WtOk wk ws) (h0 : 0 < ws.sum) (nv : NkV H (kI (natI ws)) v) : WtsV H wk v true := by
  obtain ⟨a, us, rfl, ea, al⟩ := nv
  obtain rfl := NkAll.nums.mp al
  refine .inr (.inr ⟨a, _, rfl, ea, fun u hu => ?_, (wtsB_ok h h0).symm⟩)
  obtain ⟨x, _, rfl⟩ := List.mem_map.mp hu
  exact .inr (.inr ⟨x, rfl⟩)
section
variable {P : Program} {w : World} {K : PySem.W.Frag} {mg : Str → Option Value} {base : Heap}
def spCountRows (K : PySem.W.Frag) : Sp := fun vs H Q E => ∃ v1 v2 v3 wk, vs = [v1, v2, v3] ∧ NkV H (Wks.key wk) v1 ∧ WksOk wk ∧ Tbs K H ∧
  ((PlanV H wk v2 false ∧ ∀ H', Gw (lawB K) [] H H' → E (.ref (He.ga K "BadPlan")) none H') ∨
   ∃ p, PlanOk wk p ∧ NkV H (kI (natI p)) v2 ∧ Flat3 v3 ∧ ((numOk v3 0 40 = false ∧ ∀ H', Gw (lawB K) [] H H' → E (.ref (He.ga K "BadNumber")) none H') ∨
    ∃ m : Nat, m ≤ 12 ∧ v3 = .int m ∧ ∀ H', Gw (lawB K) [] H H' → Q (.int ((cntP wk p (ones wk.kinds.length) m wk.vats : Nat) : Int)) H'))
abbrev nCountRows : List Str := ["works", "plan", "many"]
theorem scCountRows : FnScope nCountRows ["works", "plan", "many"] (defScope sCountRows) := ⟨rfl, rfl, rfl, by decide +kernel, rfl, by decide +kernel, by decide +kernel⟩
theorem ok_countRows (T : Tx K mg base) : Cal P w K mg base (CX P w) "count_rows" 14 ["works", "plan", "many"] (spCountRows K) := by
  refine T.cal (st := sCountRows) 22 rfl T.glcount_rows scCountRows (fun _ _ _ _ _ _ us hl => match us, hl with | [_, _, _], _ => rfl) (fun vs H Q E h => ?_) (fun A outer s0 H vs Q E hr h => ?_)
  · obtain ⟨v1, v2, v3, a, rfl, _⟩ := h
    rfl
  · obtain ⟨v1, v2, v3, wk, rfl, nw, ok, tb, hc⟩ := h
    refine ⟨_, pss_cons (ps_expr (pe_cal (ok_needWorks T) hr rfl (pa_cons (pv 0) pa_nil)))
      (pss_cons (ps_expr (pe_calS (ok_needPlan T) hr rfl (fun σ => passAt (takes_of rfl rfl rfl rfl) σ) (pa_cons (pv 0) (pa_cons (pv 1) pa_nil))))
      (pss_cons (ps_expr (pe_calS (ok_needMany T) hr rfl (fun σ => passAt (takes_of rfl rfl rfl rfl) σ) (pa_cons (pv 2) pa_nil)))
      (pss_one (ps_ret (pe_cal (ok_planRows T) hr rfl (pa_cons (pv 0) (pa_cons (pv 1) (pa_cons (pe_op op_repK (pe_tup (pa_cons pe_int pa_nil)) (pe_callB cr_lenK rfl T.frlen bLen (pa_cons (pe_ix ix_tupK (pv 0) pe_int (fun _ _ => rfl)) pa_nil))) (pa_cons (pv 2) pa_nil))))))))), ?_⟩
    refine ⟨_, rfl, _, wk, rfl, nw, ok, tb, fun H1 g1 => ?_⟩
    have nw1 := nw.gw g1
    rcases hc with ⟨pf, hE⟩ | ⟨p, hp, np, fl, hc⟩
    · exact ⟨_, rfl, _, rfl, _, _, wk, false, rfl, nw1, ok, pf.gw g1, tb.gw g1, fun H2 g2 => ⟨fun z => (nomatch z), fun _ => hE _ (g1.trans g2)⟩⟩
    refine ⟨_, rfl, _, rfl, _, _, wk, true, rfl, nw1, ok, .of hp (np.gw g1), tb.gw g1, fun H2 g2 => ⟨fun _ => ?_, fun z => (nomatch z)⟩⟩
    have g12 := g1.trans g2
    refine ⟨_, rfl, v3, rfl, fl, fun e => ?_, fun e => ?_⟩
    · rcases hc with ⟨e2, _⟩ | ⟨m, hm, rfl, hQ⟩
      · rw [e] at e2
        cases e2
      have nw2 := nw.gw g12
      obtain ⟨wx, us, rfl, ex, v0, _, rfl, n0, u1, _, rfl, n1, u2, _, rfl, ⟨c, cs, rfl, ec, alc⟩, rfl⟩ := id nw2
      have lc : cs.length = wk.kinds.length := by
        have := alc.length
        simpa using this.symm
      have k1 := ok.k1
      have k2 := ok.k2
      refine ⟨_, rfl, _, rfl, by show 1 ≤ sizeLine; decide, fun t nt => ?_⟩
      have g3 : Gw (lawB K) [] H2 (upd H2 t (.tup [.int 1])) := .new nt
      refine ⟨_, rfl, _, _, _, _, rfl, rfl, .of (g3.tups _ _ ex), atI_nat (j := 2) rfl, c, _, rfl, .inr (.of (g3.tups _ _ ec)), ?_⟩
      rw [lc]
      refine a_rep (B := lawB K) (k := wk.kinds.length) upd_same (by simp) (by omega) (by omega) (by simp) fun q H4 g4 eq => ?_
      have g14 := g12.trans (g3.trans g4)
      have eo : (List.replicate wk.kinds.length [V.int 1]).flatten = (natI (ones wk.kinds.length)).map V.int := by
        unfold natI ones
        rw [List.map_replicate, List.map_replicate]
        induction wk.kinds.length with
        | zero => rfl
        | succ n ih =>
          rw [List.replicate_succ, List.replicate_succ, List.flatten_cons, ih]
          rfl
      rw [eo] at eq
      refine ⟨_, rfl, _, _, _, wk, p, ones wk.kinds.length, m, rfl, nw.gw g14, np.gw g14, ⟨q, _, rfl, eq, NkAll.nums.mpr rfl⟩, ok, hp, wt_ones, hm, tb.gw g14, fun H5 g5 => hQ _ (g14.trans g5)⟩
    · rcases hc with ⟨_, hE⟩ | ⟨m, hm, rfl, hQ⟩
      · exact hE _ g12
      · rw [numOk_int (by omega) (by omega)] at e
        cases e
/-! ### plan_chance -/
def spPlanChance (K : PySem.W.Frag) : Sp := fun vs H Q E => ∃ v1 v2 v3 v4 wk p, vs = [v1, v2, v3, v4] ∧ NkV H (Wks.key wk) v1 ∧ WksOk wk ∧ Tbs K H ∧ PlanOk wk p ∧ NkV H (kI (natI p)) v2 ∧
  ((WtsV H wk v3 false ∧ ∀ H', Gw (lawB K) [] H H' → E (.ref (He.ga K "BadWeights")) none H') ∨
   ∃ ws, ∃ m : Nat, WtOk wk ws ∧ 0 < ws.sum ∧ ws.sum ≤ 20 ∧ NkV H (kI (natI ws)) v3 ∧ m ≤ 12 ∧ v4 = .int m ∧ ∀ v H', Gw (lawB K) [] H H' → NkV H' (kP (low (cntP wk p ws m wk.vats) (ws.sum ^ m))) v → Q v H')
abbrev nPlanChance : List Str := ["works", "plan", "weights", "many"]
theorem scPlanChance : FnScope nPlanChance ["works", "plan", "weights", "many"] (defScope sPlanChance) := ⟨rfl, rfl, rfl, by decide +kernel, rfl, by decide +kernel, by decide +kernel⟩
theorem powS {b m : Nat} (h0 : 0 < b) (h : b ≤ 20) (hm : m ≤ 12) : 0 < b ^ m ∧ b ^ m < 2 ^ 8000 :=
  ⟨Nat.pow_pos h0, Nat.lt_of_lt_of_le (pow_small h hm (Nat.le_refl m)) (Nat.pow_le_pow_right (by decide) (by decide))⟩
theorem ok_planChance (T : Tx K mg base) : Cal P w K mg base (CX P w) "plan_chance" 14 ["works", "plan", "weights", "many"] (spPlanChance K) := by
  refine T.cal (st := sPlanChance) 23 rfl T.glplan_chance scPlanChance (fun _ _ _ _ _ _ us hl => match us, hl with | [_, _, _, _], _ => rfl) (fun vs H Q E h => ?_) (fun A outer s0 H vs Q E hr h => ?_)
  · obtain ⟨v1, v2, v3, a, b, c, rfl, _⟩ := h
    rfl
  · obtain ⟨v1, v2, v3, v4, wk, p, rfl, nw, ok, tb, hp, np, hc⟩ := h
    refine ⟨_, pss_cons (ps_expr (pe_cal (ok_needWorks T) hr rfl (pa_cons (pv 0) pa_nil)))
      (pss_cons (ps_expr (pe_calS (ok_needPlan T) hr rfl (fun σ => passAt (takes_of rfl rfl rfl rfl) σ) (pa_cons (pv 0) (pa_cons (pv 1) pa_nil))))
      (pss_cons (ps_expr (pe_calS (ok_needWeights T) hr rfl (fun σ => passAt (takes_of rfl rfl rfl rfl) σ) (pa_cons (pv 0) (pa_cons (pv 2) pa_nil))))
      (pss_cons (ps_expr (pe_calS (ok_needMany T) hr rfl (fun σ => passAt (takes_of rfl rfl rfl rfl) σ) (pa_cons (pv 3) pa_nil)))
      (pss_one (ps_ret (pe_cal (ok_lowest T) hr rfl (pa_cons (pe_cal (ok_planRows T) hr rfl (pa_cons (pv 0) (pa_cons (pv 1) (pa_cons (pv 2) (pa_cons (pv 3) pa_nil))))) (pa_cons (pe_cal (ok_power T) hr rfl (pa_cons (pe_callB (cr_sumTK rfl) rfl T.frsum bSum (pa_cons (pv 2) pa_nil)) (pa_cons (pv 3) pa_nil))) pa_nil)))))))), ?_⟩
    refine ⟨_, rfl, _, wk, rfl, nw, ok, tb, fun H1 g1 => ?_⟩
    refine ⟨_, rfl, _, rfl, _, _, wk, true, rfl, nw.gw g1, ok, .of hp (np.gw g1), tb.gw g1, fun H2 g2 => ⟨fun _ => ?_, fun z => (nomatch z)⟩⟩
    have g12 := g1.trans g2
    rcases hc with ⟨wf, hE⟩ | ⟨ws, m, hw, h0, h20, nws, hm, rfl, hQ⟩
    · exact ⟨_, rfl, _, rfl, _, _, wk, false, rfl, nw.gw g12, wf.gw g12, tb.gw g12, fun H3 g3 => ⟨fun z => (nomatch z), fun _ => hE _ (g12.trans g3)⟩⟩
    refine ⟨_, rfl, _, rfl, _, _, wk, true, rfl, nw.gw g12, .of hw h0 (nws.gw g12), tb.gw g12, fun H3 g3 => ⟨fun _ => ?_, fun z => (nomatch z)⟩⟩
    have g13 := g12.trans g3
    refine ⟨_, rfl, _, rfl, .inr (.inr ⟨_, rfl⟩), fun _ => ?_, fun z => ?_⟩
    · refine ⟨_, rfl, _, rfl, _, rfl, _, rfl, _, _, _, wk, p, ws, m, rfl, nw.gw g13, np.gw g13, nws.gw g13, ok, hp, hw, hm, tb.gw g13, fun H4 g4 => ?_⟩
      have g14 := g13.trans g4
      obtain ⟨q, us, rfl, eq, al⟩ := nws
      obtain rfl := NkAll.nums.mp al
      refine ⟨_, rfl, q, natI ws, rfl, .of (g14.tups _ _ eq), ?_⟩
      rw [sum_ints]
      refine ⟨_, rfl, ws.sum, m, rfl, h20, hm, ?_⟩
      obtain ⟨q1, q2⟩ := powS h0 h20 hm
      exact ⟨_, _, rfl, q1, q2, fun v H5 g5 nv => hQ v _ (g14.trans g5) nv⟩
    · rw [numOk_int (by omega) (by omega)] at z
      cases z
end
end Dy
end
section
set_option Elab.async false
set_option linter.all false
set_option maxRecDepth 100000
/-! The best dyer's rows, in plain Lean. -/
namespace Dy
open PySem PySem.Spec PyProof.Rows L2
def mx (n : Nat) (f : Nat → Nat) : Nat := match n with
  | 0 => 0
  | n + 1 => max (mx n f) (f n)
theorem mx_le {f : Nat → Nat} {c : Nat} : ∀ {n : Nat}, (∀ i, i < n → f i ≤ c) → mx n f ≤ c
  | 0, _ => Nat.zero_le _
  | n + 1, h => Nat.max_le.mpr ⟨mx_le fun i hi => h i (by omega), h n (by omega)⟩
theorem mx_get {f : Nat → Nat} : ∀ {n i : Nat}, i < n → f i ≤ mx n f
  | 0, _, h => absurd h (Nat.not_lt_zero _)
  | n + 1, i, h => by
    show f i ≤ max (mx n f) (f n)
    rcases Nat.lt_succ_iff_lt_or_eq.mp h with z | z
    · exact Nat.le_trans (mx_get z) (Nat.le_max_left _ _)
    · rw [z]
      exact Nat.le_max_right _ _
/-- the best for a kind; the best -/
def kbN (w : Wks) (b : Stand → Nat) (s : Stand) (k n : Nat) : Nat := mx n fun i => if (dy w s k i).2 = true then b (dy w s k i).1 else 0
def bestN (w : Wks) (ws : List Nat) : Nat → Stand → Nat
  | 0, _ => 1
  | m + 1, s => sm w.kinds.length fun k => ws.getD k 0 * kbN w (bestN w ws m) s k (w.knd k).routes.length
theorem bestN_le {w : Wks} {ws : List Nat} {S : Nat} (h : sm w.kinds.length (fun k => ws.getD k 0) ≤ S) : ∀ (m : Nat) (s : Stand), bestN w ws m s ≤ S ^ m
  | 0, _ => Nat.le_refl _
  | m + 1, s => by
    have : bestN w ws (m + 1) s ≤ sm w.kinds.length (fun k => ws.getD k 0 * S ^ m) := sm_le fun k _ => Nat.mul_le_mul_left _ (mx_le fun i _ => by
      split
      · exact bestN_le h m _
      · exact Nat.zero_le _)
    rw [sm_mul] at this
    rw [Nat.pow_succ, Nat.mul_comm]
    exact Nat.le_trans this (Nat.mul_le_mul_right _ h)
theorem kbN_le {w : Wks} {ws : List Nat} {S m k n : Nat} {s : Stand} (h : sm w.kinds.length (fun k => ws.getD k 0) ≤ S) : kbN w (bestN w ws m) s k n ≤ S ^ m := mx_le fun i _ => by
  split
  · exact bestN_le h m _
  · exact Nat.zero_le _
/-! ### what is remembered -/
abbrev kB (s : Stand) (m : Nat) : NestedKey := .tup [kS s, .num m]
abbrev Memo := List (Stand × Nat)
def kvsM (b : Nat → Stand → Nat) (E : Memo) : List (NestedKey × V) := E.map fun x => (kB x.1 x.2, V.int (b x.2 x.1 : Nat))
theorem kB_inj (inj : ∀ a b : Stand, kS a = kS b → a = b) {s t : Stand} {m n : Nat} (h : kB s m = kB t n) : s = t ∧ m = n := by
  injection h with h
  injection h with h1 h2
  injection h2 with h3 _
  injection h3 with h4
  exact ⟨inj _ _ h1, by omega⟩
theorem memo_at {b : Nat → Stand → Nat} (inj : ∀ a b : Stand, kS a = kS b → a = b) : ∀ {E : Memo} {s : Stand} {m : Nat}, aAt (kvsM b E) (kB s m) = if (s, m) ∈ E then some (.int (b m s : Nat)) else none
  | [], s, m => rfl
  | (t, n) :: E, s, m => by
    have ih := memo_at (b := b) inj (E := E) (s := s) (m := m)
    unfold aAt kvsM at ih ⊢
    rw [List.map_cons, List.find?_cons]
    by_cases h : kB t n = kB s m
    · obtain ⟨h1, h2⟩ := kB_inj inj h
      subst h1 h2
      rw [show decide ((kB t n, V.int (b n t : Nat)).1 = kB t n) = true from decide_eq_true rfl]
      rw [if_pos List.mem_cons_self]
      rfl
    · rw [show decide ((kB t n, V.int (b n t : Nat)).1 = kB s m) = false from decide_eq_false h]
      have e : (s, m) ∈ (t, n) :: E ↔ (s, m) ∈ E := ⟨fun z => (List.mem_cons.mp z).elim (fun e => by cases e; exact absurd rfl h) id, List.mem_cons_of_mem _⟩
      refine ih.trans ?_
      by_cases q : (s, m) ∈ E
      · rw [if_pos q, if_pos (e.mpr q)]
      · rw [if_neg q, if_neg fun z => q (e.mp z)]
theorem memo_put {b : Nat → Stand → Nat} (inj : ∀ a b : Stand, kS a = kS b → a = b) {E : Memo} {s : Stand} {m : Nat} (h : (s, m) ∉ E) : aPut (kvsM b E) (kB s m) (.int (b m s : Nat)) = kvsM b (E ++ [(s, m)]) := by
  unfold aPut
  rw [memo_at inj, if_neg h]
  unfold kvsM
  rw [List.map_append]
  rfl
theorem memo_any {b : Nat → Stand → Nat} (inj : ∀ a b : Stand, kS a = kS b → a = b) {E : Memo} {s : Stand} {m : Nat} : ∃ E', aPut (kvsM b E) (kB s m) (.int (b m s : Nat)) = kvsM b E' ∧ E'.length ≤ E.length + 1 ∧ (s, m) ∈ E' := by
  by_cases h : (s, m) ∈ E
  · refine ⟨E, ?_, by omega, h⟩
    unfold aPut
    rw [memo_at inj, if_pos h]
    show (kvsM b E).map _ = _
    unfold kvsM
    rw [List.map_map]
    refine List.map_congr_left fun x _ => ?_
    show (if kB x.1 x.2 = kB s m then (kB x.1 x.2, V.int (b m s : Nat)) else (kB x.1 x.2, V.int (b x.2 x.1 : Nat))) = _
    by_cases e : kB x.1 x.2 = kB s m
    · obtain ⟨e1, e2⟩ := kB_inj inj e
      rw [if_pos e, e1, e2]
    · rw [if_neg e]
  · exact ⟨_, memo_put inj h, by rw [List.length_append]; exact Nat.le_refl _, List.mem_append_right _ List.mem_cons_self⟩
end Dy
end
section
set_option Elab.async false
set_option linter.all false
set_option maxRecDepth 100000
set_option maxHeartbeats 4000000
set_option pp.maxSteps 1500
/-! Chances: __init__, best, kind_best. -/
namespace Dy
open PySem PySem.Spec PyProof.Rows L2
abbrev chA (K : PySem.W.Frag) : Addr := He.ga K "Chances"
/-- a method of the class keeps the promise sp -/
structure Met (P : Program) (w : World) (K : PySem.W.Frag) (mg : Str → Option Value) (base : Heap) (m : Str) (k : Nat) (ps : List Str) (sp : Sp) : Prop where
  ex : ∃ fd, FnOk P w K mg base CX0 k (He.ma K (chA K) m) fd ps sp ∧ Binds K fd ps []
section
variable {P : Program} {w : World} {K : PySem.W.Frag} {mg : Str → Option Value} {base : Heap}
theorem Met.mono {m : Str} {j k : Nat} {ps : List Str} {sp : Sp} (C : Met P w K mg base m j ps sp) (h : j ≤ k) : Met P w K mg base m k ps sp := by
  obtain ⟨fd, F, b⟩ := C.ex
  exact ⟨⟨fd, F.mono h, b⟩⟩
theorem Tx.met (T : Tx K mg base) {m q : Str} {st : Stmt} {N ps : List Str} {k : Nat} {sp : Sp} (i : Nat) (hd : fn[i]? = some ⟨("Chances", some m), m, q, defArgs st, defBody st, defScope st, [], []⟩) (S : FnScope N ps (defScope st))
    (hb : ∀ (kV doc pm : Value) (an : Option Addr) (cdv ct : Value) (us : List Value), us.length = ps.length → bindArgs (PySem.W.fnOf m q (defArgs st) (defBody st) (defScope st) .none kV doc pm an cdv ct) ⟨us, []⟩ = pure (ps.zip us))
    (len : ∀ vs H Q E, sp vs H Q E → vs.length = ps.length)
    (hbody : ∀ (A : Around) (outer : List Env) (s : Shared) (H : Hp) (vs : List V) (Q : VK) (E : XK) (c : Value), Room k (A.deeper (envOfC q (defScope st) s.heap.objs.size (He.ma K (chA K) m) c)) → sp vs H Q E →
      ∃ t, PSs (cxOf CX0 P w K mg base N q (defScope st) (He.ma K (chA K) m) c A outer s H E) (defBody st) t ∧ t { nx := fun _ H' => Q .non H', rt := Q } (start N vs) H) :
    Met P w K mg base m (k + 1) ps sp := by
  obtain ⟨fd, F⟩ := T.sd.def_ i hd
  exact ⟨⟨fd, F.ok S len fun cdv A outer s H vs Q E hr h => hbody A outer s H vs Q E cdv hr h, FunD.bindsN F hb⟩⟩
/-- of arguments that are never given: any def -/
theorem Tx.met0 (T : Tx K mg base) {m q : Str} {st : Stmt} {ps : List Str} {k : Nat} {sp : Sp} (i : Nat) (hd : fn[i]? = some ⟨("Chances", some m), m, q, defArgs st, defBody st, defScope st, [], []⟩)
    (hb : ∀ (kV doc pm : Value) (an : Option Addr) (cdv ct : Value) (us : List Value), us.length = ps.length → bindArgs (PySem.W.fnOf m q (defArgs st) (defBody st) (defScope st) .none kV doc pm an cdv ct) ⟨us, []⟩ = pure (ps.zip us))
    (no : ∀ vs H Q E, ¬ sp vs H Q E) : Met P w K mg base m k ps sp := by
  obtain ⟨fd, F⟩ := T.sd.def_ i hd
  exact ⟨⟨fd, ⟨fun vs H Q E h => (no _ _ _ _ h).elim, fun A outer s H args us vs Q E _ _ _ _ h => (no _ _ _ _ h).elim⟩, FunD.bindsN F hb⟩⟩
end
section
variable {X : Cx} {K : PySem.W.Frag} {m x : Str} {j k : Nat} {ps : List Str} {sp : Sp} {o e : Expr} {es : List Expr} {to : TE} {t : TA} {p apos pos : Pos}
/-- o.m(e, ..) -/
theorem pe_met {pl : Sem Bool} (M : Met X.prog X.w K X.mg X.base m j ps sp) (c : Cls K (chA K)) (hm : Meth K (chA K) m (He.ma K (chA K) m)) (hr : Room k X.A) (ho : PE X o to) (ha : PA X (e :: es) t) (hjk : j ≤ k := by first | decide | omega)
    (hst : starEach (e :: es) X.env = (false, eval e X.env) :: starEach es X.env := by rfl) (hpl : (backTo pos (starEach es X.env)).any (·.1) = false := by rfl)
    (ht : eval (.Call (.Attribute o m apos) (e :: es) [] pos) X.env = (do
      let ov ← eval o X.env
      standAt apos.atName
      let (f, first) ← holding [ov] (getMethod ov m pl)
      callWith pos f first (backTo pos (starEach (e :: es) X.env)) (backToKw pos (keywordEach [] X.env))) := by rfl) (hK : X.K = K := by rfl) : PE X (.Call (.Attribute o m apos) (e :: es) [] pos) (tMeth (chA K) m sp [] E0 to t) := by
  subst hK
  obtain ⟨fd, F, b⟩ := M.ex
  exact pe_meth ho c hm F (hr.mono hjk) b .nil pass0 ha hst hpl ht
/-- C(e, ..) -/
theorem pe_new (M : Met X.prog X.w X.K X.mg X.base "__init__" j ps sp) (mk : Mk X.K (chA X.K) (He.ma X.K (chA X.K) "__init__")) (hr : Room k X.A) (hg : Gl X x) (hm : X.mg x = some (.ref (chA X.K))) (ha : PA X (e :: es) t) (hjk : j + 1 ≤ k := by decide) (hdb : (x == ("__debug__" : Str)) = false := by decide)
    (he : starEach (e :: es) X.env = (false, eval e X.env) :: starEach es X.env := by rfl) (hpl : (backTo pos (starEach es X.env)).any (·.1) = false := by rfl) : PE X (.Call (.Name x p) (e :: es) [] pos) (tMake (chA X.K) sp [] E0 t) := by
  obtain ⟨fd, F, b⟩ := M.ex
  exact pe_make mk F (hr.mono hjk) hg hm b .nil pass0 ha hdb he hpl
end
/-- a list comprehension over enumerate of a tuple -/
theorem lc_en {K : PySem.W.Frag} {a : Addr} {xs : List V} {tt : TT} {te : TE} {s1 s2 : Nat} {σ : L2.St} {H1 : Hp} {D : Addr} {Qd : Hp → Prop} (hs : s1 ≠ s2) (Pv : Nat → Hp → Prop) (h0 : Pv 0 (upd H1 D (.lst []))) (hq : ∀ i H, Pv i H → SqT K H a xs)
    (turn : ∀ (i : Nat) x H T, xs[i]? = some x → Pv i H → H T = none → tt ((((σ.set s2 none).set s1 none).set s1 (some (.int (i : Nat)))).set s2 (some x)) (upd H T (.tup [.int (i : Nat), x])) fun c H3 =>
      if c = true then te ((((σ.set s2 none).set s1 none).set s1 (some (.int (i : Nat)))).set s2 (some x)) H3 fun z H4 => ∃ acc, H4 D = some (.lst acc) ∧ acc.length < sizeLine ∧ Pv (i + 1) (upd H4 D (.lst (acc ++ [z]))) else Pv (i + 1) H3) (hd : ∀ H, Pv xs.length H → Qd H) :
    ∃ W : Nat → Nat → Hp → Prop, (∃ m, W 0 m (upd H1 D (.lst []))) ∧ ∀ i m H, W i m H →
      ((EnIt K a xs).stop i H ∧ Qd H) ∨ ((EnIt K a xs).go i H ∧ ∃ Nx : Hp → Prop, (∀ H', Nx H' → ∃ m', m' < m ∧ W (i + 1) m' H') ∧ ∀ x H', (EnIt K a xs).yld i H x H' → (gTup K 2 (gCons (gName s1) (gCons (gName s2) gNil))) x (wipe σ [s1, s2]) H' fun σ2 H2 => wipe σ2 [s1, s2] = wipe σ [s1, s2] ∧ tt σ2 H2 fun b H3 =>
        if b = true then te σ2 H3 fun y H4 => ∃ acc, H4 D = some (.lst acc) ∧ acc.length < sizeLine ∧ Nx (upd H4 D (.lst (acc ++ [y]))) else Nx H3) := by
  refine ⟨fun i m H => m = xs.length - i ∧ i ≤ xs.length ∧ Pv i H, ⟨xs.length, rfl, Nat.zero_le _, h0⟩, ?_⟩
  rintro i m H ⟨rfl, hi, p⟩
  have qa := hq i H p
  by_cases hlt : i < xs.length
  · refine .inr ⟨⟨qa, hlt⟩, Pv (i + 1), fun H' p' => ⟨xs.length - (i + 1), by omega, rfl, hlt, p'⟩, fun v H' z => ?_⟩
    obtain ⟨T, x, rfl, eT, rfl, hx⟩ := z
    refine ⟨T, [.int (i : Nat), x], rfl, .of upd_same, rfl, .int (i : Nat), [x], rfl, x, [], rfl, rfl, ?_, turn i x H T hx p eT⟩
    show (((((σ.set s2 none).set s1 none).set s1 (some (V.int (i : Nat)))).set s2 (some x)).set s2 none).set s1 none = (σ.set s2 none).set s1 none
    rw [List.set_set, List.set_set, List.set_comm _ _ hs.symm, List.set_set]
    exact (List.set_comm _ _ hs).trans (by rw [List.set_set])
  · have e : i = xs.length := by omega
    subst e
    exact .inl ⟨⟨qa, Nat.le_refl _⟩, hd H p⟩
section
variable {P : Program} {w : World} {K : PySem.W.Frag} {mg : Str → Option Value} {base : Heap}
/-- the instance at a: what it knows stands at d -/
structure ChI (w : World) (K : PySem.W.Frag) (H : Hp) (a d : Addr) (wk : Wks) (ws : List Nat) (E : Memo) : Prop where
  ins : ∃ dx vw vs, H a = some (.ins (chA K) dx [("works", vw), ("weights", vs), ("known", .ref d)]) ∧ NkV H (Wks.key wk) vw ∧ NkV H (kI (natI ws)) vs
  nd : NDw w H d (kvsM (bestN wk ws) E)
theorem ChI.ne {H : Hp} {a d : Addr} {wk : Wks} {ws : List Nat} {E : Memo} (x : ChI w K H a d wk ws E) : a ≠ d := by
  obtain ⟨dx, vw, vs, e, _⟩ := x.ins
  obtain ⟨xs, e2, _⟩ := x.nd
  exact ne_of e e2 fun z => nomatch z
theorem ChI.gw {B : Addr} {M : List Addr} {H H' : Hp} {a d : Addr} {wk : Wks} {ws : List Nat} {E : Memo} (x : ChI w K H a d wk ws E) (g : Gw B M H H') (h1 : a ∉ M) (h2 : d ∉ M) : ChI w K H' a d wk ws E := by
  obtain ⟨dx, vw, vs, e, n1, n2⟩ := x.ins
  exact ⟨⟨dx, vw, vs, g.keep a _ h1 e (fun _ z => nomatch z), n1.gw g, n2.gw g⟩, x.nd.gw g h2⟩
/-! ### __init__ -/
def spInit (w : World) (K : PySem.W.Frag) : Sp := fun vs H Q _ => ∃ a dx v1 v2, vs = [.ref a, v1, v2] ∧ H a = some (.ins (chA K) dx []) ∧
  ∀ d H', H d = none → Gw (lawB K) [a] H H' → H' a = some (.ins (chA K) dx [("works", v1), ("weights", v2), ("known", .ref d)]) → H' d = some (NdO w d []) → Q .non H'
theorem scInit : FnScope ["self", "works", "weights"] ["self", "works", "weights"] (defScope sInit) := ⟨rfl, rfl, rfl, by decide +kernel, rfl, by decide +kernel, by decide +kernel⟩
theorem ok_init (T : Tx K mg base) : Met P w K mg base "__init__" 1 ["self", "works", "weights"] (spInit w K) := by
  refine T.met (st := sInit) 24 rfl scInit (fun _ _ _ _ _ _ us hl => match us, hl with | [_, _, _], _ => rfl) (fun vs H Q E h => ?_) (fun A outer s0 H vs Q E c hr h => ?_)
  · obtain ⟨a, b, c, d, rfl, _⟩ := h
    rfl
  · obtain ⟨a, dx, v1, v2, rfl, ea, hQ⟩ := h
    refine ⟨_, PSs.nox (pss_cons (ps_fld (pv 0) (pv 1) rfl)
      (pss_cons (ps_fld (pv 0) (pv 2) rfl)
      (pss_one (ps_fld (pv 0) pe_ndnew rfl)))), ?_⟩
    have cl := T.clChances
    have g1 : Gw (lawB K) [a] H (upd H a (.ins (chA K) dx [("works", v1)])) := (Gw.refl _ _ _).put (.inr List.mem_cons_self) ea .ins
    have g2 := g1.put (p := a) (o := .ins (chA K) dx [("works", v1), ("weights", v2)]) (.inr List.mem_cons_self) upd_same .ins
    refine ⟨_, rfl, _, rfl, a, chA K, dx, _, rfl, ea, cl, T.naworks, by show 0 < 1000; decide, ?_⟩
    refine ⟨_, rfl, _, rfl, a, chA K, dx, _, rfl, upd_same, cl, T.naweights, by show 1 < 1000; decide, ?_⟩
    intro d hd
    have g3 := g2.add (o := NdO w d []) hd
    have ne : a ≠ d := ne_of_none upd_same hd
    have e3 : upd (upd (upd H a (.ins (chA K) dx [("works", v1)])) a (.ins (chA K) dx [("works", v1), ("weights", v2)])) d (NdO w d []) a = some (.ins (chA K) dx [("works", v1), ("weights", v2)]) := by
      rw [upd_ne ne]
      exact upd_same
    refine ⟨_, rfl, a, chA K, dx, _, rfl, e3, cl, T.naknown, by show 2 < 1000; decide, ?_⟩
    refine hQ d _ (g2.dom d hd) (g3.put (.inr List.mem_cons_self) e3 .ins) upd_same ?_
    rw [upd_ne ne.symm]
    exact upd_same
/-! ### best, kind_best -/
def spBest (w : World) (K : PySem.W.Frag) (n : Nat) : Sp := fun vs H Q _ => ∃ a d v wk ws E s, ∃ m : Nat, vs = [.ref a, v, .int m] ∧ m ≤ n ∧ m ≤ 12 ∧ WksOk wk ∧ WtOk wk ws ∧ ChI w K H a d wk ws E ∧ NkV H (kS s) v ∧ StOk wk.dyes wk.vats.length s ∧ E.length + 7 ^ m ≤ 1000000 ∧ Tbs K H ∧
  ∀ E' H', Gw (lawB K) [d] H H' → ChI w K H' a d wk ws E' → E'.length ≤ E.length + 7 ^ m → Q (.int (bestN wk ws m s : Nat)) H'
def spKindBest (w : World) (K : PySem.W.Frag) (n : Nat) : Sp := fun vs H Q _ => ∃ a d v wk ws E s, ∃ k m : Nat, vs = [.ref a, v, .int k, .int (m + 1 : Nat)] ∧ m + 1 ≤ n ∧ m + 1 ≤ 12 ∧ WksOk wk ∧ WtOk wk ws ∧ ChI w K H a d wk ws E ∧ NkV H (kS s) v ∧ StOk wk.dyes wk.vats.length s ∧ k < wk.kinds.length ∧
  E.length + 2 * 7 ^ m ≤ 1000000 ∧ Tbs K H ∧ ∀ E' H', Gw (lawB K) [d] H H' → ChI w K H' a d wk ws E' → E'.length ≤ E.length + 2 * 7 ^ m → Q (.int (kbN wk (bestN wk ws m) s k (wk.knd k).routes.length : Nat)) H'
abbrev nBest : List Str := ["self", "stand", "many", "kind", "weight"]
theorem scBest : FnScope nBest ["self", "stand", "many"] (defScope sBest) := ⟨rfl, rfl, rfl, by decide +kernel, rfl, by decide +kernel, by decide +kernel⟩
theorem ok_bestS (T : Tx K mg base) {n j : Nat} (hk : Met P w K mg base "kind_best" j ["self", "stand", "kind", "many"] (spKindBest w K n)) : Met P w K mg base "best" (j + 1) ["self", "stand", "many"] (spBest w K n) := by
  refine T.met (st := sBest) 25 rfl scBest (fun _ _ _ _ _ _ us hl => match us, hl with | [_, _, _], _ => rfl) (fun vs H Q E h => ?_) (fun A outer s0 H vs Q E c hr h => ?_)
  · obtain ⟨a, b, c, d, e, f, g, i, rfl, _⟩ := h
    rfl
  · obtain ⟨a, d, v, wk, ws, E0, s, m, rfl, hmn, hm, ok, hw, ci, ns, os, hE, tb, hQ⟩ := h
    refine ⟨_, PSs.nox (pss_cons (ps_if (pt_cmpR op_eq (pv 2) pe_int (nomark _)) (pss_one (ps_ret pe_int)) (pss_nil))
      (pss_cons (ps_if (pt_cmp (pc_ndnotin hr.units (pe_tup (pa_cons (pv 1) (pa_cons (pv 2) pa_nil))) (pe_fld (pv 0) rfl))) (pss_one (ps_asg (pe_callB (cr_sumK rfl) rfl T.frsum bSum (pa_cons (pe_lc (own := [("kind", 3), ("weight", 4)]) (g := (gTup K 2 (gCons (gName 3) (gCons (gName 4) gNil)))) rfl scBest.nd (pi_enTK rfl T.frenumerate (pa_cons (pe_fld (pv 0) rfl) pa_nil)) (blkOk_by (N := nBest) (sc := defScope sBest) (by decide +kernel)) (fun _ _ _ _ _ => pg_tupK (n := 2) rfl (pgs_cons (pg_name (i := 3) scBest.nd rfl (.inl rfl) (.inr rfl)) (pgs_cons (pg_name (i := 4) scBest.nd rfl (.inl rfl) (.inr rfl)) pgs_nil))) (fun _ _ _ _ _ => pts_one (pt_truthK (pv 4))) (fun _ _ _ _ _ => pe_op op_mulW (pv 4) (pe_met hk T.clChances T.mekind_best hr (pv 0) (pa_cons (pv 1) (pa_cons (pv 3) (pa_cons (pv 2) pa_nil)))))) pa_nil)) (pg_sub (pe_fld (pv 0) rfl) (pe_tup (pa_cons (pv 1) (pa_cons (pv 2) pa_nil))) (set_nd hr.units)))) (pss_nil))
      (pss_one (ps_ret (pe_ndget hr.units (pe_fld (pv 0) rfl) (pe_tup (pa_cons (pv 1) (pa_cons (pv 2) pa_nil))) (fun _ _ => rfl)))))), ?_⟩
    have cl := T.clChances
    refine ⟨_, rfl, rfl, _, rfl, ?_⟩
    match m, hmn, hm, hE, hQ with
    | 0, _, _, _, hQ => exact iteT (hQ E0 H (.refl _ _ _) ci (Nat.le_add_right _ _))
    | m + 1, hmn, hm, hE, hQ =>
    have dz : decide (V.int ((m + 1 : Nat) : Int) = V.int 0) = false := decide_eq_false fun z => by
      injection z with z
      omega
    rw [dz]
    refine iteF ?_
    -- the answer stands at d
    have fin : ∀ E1 H1, Gw (lawB K) [d] H H1 → ChI w K H1 a d wk ws E1 → E1.length ≤ E0.length + 7 ^ (m + 1) → (s, m + 1) ∈ E1 → ∀ σ : L2.St, σ[0]? = some (some (.ref a)) → σ[1]? = some (some v) → σ[2]? = some (some (.int (m + 1 : Nat))) →
        tRet (tNdGet w (tFld K (tVar 0) "known") (tTup (tCons (tVar 1) (tCons (tVar 2) tNil)))) { nx := fun _ H' => Q .non H', rt := Q } σ H1 := fun E1 H1 g1 c1 l1 he σ z0 z1 z2 => by
      obtain ⟨dx, vw, vs, ei, _, _⟩ := c1.ins
      refine ⟨_, z0, a, chA K, dx, _, _, rfl, ei, cl, T.naknown, rfl, ?_⟩
      refine ⟨_, z1, _, z2, by show 2 ≤ sizeLine; decide, fun p np => ?_⟩
      have g2 : Gw (lawB K) [] H1 (upd H1 p (.tup [v, .int (m + 1 : Nat)])) := .new np
      have c2 := c1.gw g2 (by simp) (by simp)
      refine ⟨d, _, kB s (m + 1), _, rfl, c2.nd.nd, ⟨⟨p, _, rfl, upd_same, v, _, rfl, (ns.gw g1).gw g2, _, _, rfl, rfl, rfl⟩, ⟨p, rfl⟩, ?_⟩, (memo_at fun _ _ => kS_inj).trans (if_pos he), ?_⟩
      · exact Nat.le_trans (depth_tup (n := 2) fun k hk => by
          rcases List.mem_cons.mp hk with e | e
          · rw [e]
            exact depth_kS s
          · rw [List.mem_singleton.mp e]
            exact Nat.zero_le 2) (by decide)
      · exact hQ E1 _ (g1.trans (g2.weak fun b hb => (nomatch hb))) c2 l1
    obtain ⟨dx, vw, vws, ei, nvw, nvs⟩ := ci.ins
    refine ⟨_, rfl, _, rfl, by show 2 ≤ sizeLine; decide, fun p np => ?_⟩
    have g1 : Gw (lawB K) [] H (upd H p (.tup [v, .int (m + 1 : Nat)])) := .new np
    have g1d : Gw (lawB K) [d] H (upd H p (.tup [v, .int (m + 1 : Nat)])) := g1.weak fun b hb => (nomatch hb)
    have c1 := ci.gw g1 (by simp) (by simp)
    have tupK : ∀ {H' : Hp} {q : Addr}, NkV H' (kS s) v → H' q = some (.tup [v, .int (m + 1 : Nat)]) → NkAt H' (.ref q) (kB s (m + 1)) := fun {H' q} nv eq => ⟨⟨q, _, rfl, eq, v, _, rfl, nv, _, _, rfl, rfl, rfl⟩, ⟨q, rfl⟩, Nat.le_trans (depth_tup (n := 2) fun k hk => by
          rcases List.mem_cons.mp hk with e | e
          · rw [e]
            exact depth_kS s
          · rw [List.mem_singleton.mp e]
            exact Nat.zero_le 2) (by decide)⟩
    refine ⟨_, rfl, a, chA K, dx, _, _, rfl, g1.keep a _ (by simp) ei (fun _ z => nomatch z), cl, T.naknown, rfl, ?_⟩
    refine ⟨d, _, _, rfl, c1.nd.nd, tupK (ns.gw g1) upd_same, _, rfl, ?_⟩
    rw [memo_at fun _ _ => kS_inj]
    by_cases he : (s, m + 1) ∈ E0
    · rw [if_pos he]
      exact iteF (fin E0 _ g1d c1 (Nat.le_add_right _ _) he _ rfl rfl rfl)
    · rw [if_neg he]
      refine iteT ?_
      -- self.known[stand, many] = sum([..])
      have g1ws := g1d
      obtain ⟨dx1, vw1, vws1, ei1, nvw1, nvs1⟩ := c1.ins
      obtain ⟨wx, wus, rfl, ewx, alw⟩ := nvs1
      obtain rfl := NkAll.nums.mp alw
      refine ⟨_, rfl, a, chA K, dx1, _, _, rfl, ei1, cl, T.naweights, rfl, wx, _, rfl, .of ewx, fun D hD => ?_⟩
      have hk1 : wk.kinds.length ≤ 3 := ok.k2
      have lw : ((natI ws).map V.int).length = wk.kinds.length := by simpa using hw.len
      have p7 : 7 ^ (m + 1) = 7 * 7 ^ m := by rw [Nat.pow_succ, Nat.mul_comm]
      have p70 : 0 < 7 ^ m := Nat.pow_pos (by decide)
      have m11 : m ≤ 12 := by omega
      have w27 := WtOk.sum hw ok
      refine lc_en (xs := (natI ws).map V.int) (by decide) (fun k H' => ∃ E1 L, H' D = some (.lst ((natI L).map V.int)) ∧ L.sum = sm k (fun k => ws.getD k 0 * kbN wk (bestN wk ws m) s k (wk.knd k).routes.length) ∧ L.length ≤ k ∧ k ≤ 3 ∧ Gw (lawB K) [d] (upd H p (.tup [v, .int (m + 1 : Nat)])) H' ∧ ChI w K H' a d wk ws E1 ∧ E1.length ≤ E0.length + k * (2 * 7 ^ m)) ?_ (fun k H' hP => ?_) (fun k x H' T2 hx hP hT => ?_) fun H' hP => ?_
      · have g2 : Gw (lawB K) [] _ (upd (upd H p (.tup [v, .int (m + 1 : Nat)])) D (.lst [])) := .new hD
        exact ⟨E0, [], upd_same, rfl, Nat.le_refl _, by decide, g2.weak fun b hb => (nomatch hb), c1.gw g2 (by simp) (by simp), by omega⟩
      · obtain ⟨E1, L, _, _, _, _, g, _⟩ := hP
        exact .of (g.tups _ _ ewx)
      · obtain ⟨E1, L, eD, hL, lL, hk3, g, c2, l2⟩ := hP
        have hk2 : k < wk.kinds.length := by
          rw [← lw]
          exact (List.getElem?_eq_some_iff.mp hx).1
        have kw : k < ws.length := hw.len ▸ hk2
        have ew : x = .int (ws.getD k 0 : Nat) := by
          rw [List.getElem?_map, List.getElem?_map, List.getElem?_eq_getElem kw] at hx
          rw [List.getD_eq_getElem?_getD, List.getElem?_eq_getElem kw]
          exact (Option.some.inj hx).symm
        subst ew
        have g3 : Gw (lawB K) [] H' (upd H' T2 (.tup [.int (k : Nat), .int (ws.getD k 0 : Nat)])) := .new hT
        have gd3 := g.trans (g3.weak fun b hb => (nomatch hb))
        have c3 := c2.gw g3 (by simp) (by simp)
        have eD3 := g3.keep D _ (by simp) eD (fun _ z => nomatch z)
        have w9 := hw.le k
        have k3 : k < 3 := by omega
        refine ⟨_, rfl, _, rfl, ?_⟩
        by_cases wz : ws.getD k 0 = 0
        · rw [show (((ws.getD k 0 : Nat) : Int) != 0) = false by rw [wz] <;> rfl]
          refine iteF ⟨E1, L, eD3, ?_, by omega, k3, gd3, c3, by rw [Nat.add_mul]; omega⟩
          rw [hL]
          show _ = sm k _ + ws.getD k 0 * _
          rw [wz, Nat.zero_mul, Nat.add_zero]
        · rw [show (((ws.getD k 0 : Nat) : Int) != 0) = true from bne_iff_ne.mpr (by omega)]
          refine iteT ?_
          obtain ⟨dx3, vw3, vws3, ei3, _, _⟩ := c3.ins
          have kk : k * (2 * 7 ^ m) ≤ 2 * (2 * 7 ^ m) := Nat.mul_le_mul_right _ (by omega)
          refine ⟨_, rfl, _, rfl, a, dx3, _, rfl, ei3, rfl, _, rfl, _, rfl, _, rfl, ?_⟩
          refine ⟨a, d, v, wk, ws, E1, s, k, m, rfl, hmn, hm, ok, hw, c3, (ns.gw g1).gw gd3, os, hk2, by omega, (tb.gw g1).gw gd3, fun E2 H4 g4 c4 l4 => ?_⟩
          have Dd : D ≠ d := fun z => by
            obtain ⟨xs, e2, _⟩ := c3.nd
            rw [z, e2] at eD3
            cases eD3
          have eD4 := g4.keep D _ (by simpa using Dd) eD3 (fun _ z => nomatch z)
          have b27 : kbN wk (bestN wk ws m) s k (wk.knd k).routes.length < 2 ^ 58 := Nat.lt_of_le_of_lt (kbN_le w27) (pow27 m11)
          refine ⟨_, _, rfl, rfl, wide_mul (a := 8) (b := 58) (by rw [Int.natAbs_natCast]; exact Nat.lt_of_le_of_lt w9 (by decide)) (by rw [Int.natAbs_natCast]; exact b27) (by decide) (by decide) (by decide), _, eD4, by rw [sizeLine_eq]; simp; omega, ?_⟩
          have g5 : Gw (lawB K) [D] H4 (upd H4 D (.lst ((natI L).map V.int ++ [.int (((ws.getD k 0 : Nat) : Int) * ((kbN wk (bestN wk ws m) s k (wk.knd k).routes.length : Nat) : Int))]))) := .lst eD4
          refine ⟨E2, L ++ [ws.getD k 0 * kbN wk (bestN wk ws m) s k (wk.knd k).routes.length], ?_, ?_, by rw [List.length_append]; exact Nat.succ_le_succ lL, k3, ?_, c4.gw g5 ?_ (by simpa using Dd.symm), by rw [Nat.add_mul]; omega⟩
          · rw [upd_same]
            unfold natI
            rw [List.map_append, List.map_append]
            show some (HO.lst (_ ++ [V.int (((ws.getD k 0 : Nat) : Int) * _)])) = some (HO.lst (_ ++ [V.int ((ws.getD k 0 * _ : Nat) : Int)]))
            rw [Int.natCast_mul]
          · rw [List.sum_append, hL]
            show _ = sm k _ + _
            simp
          · exact (gd3.trans g4).put (.inl hD) eD4 .lst
          · intro z
            obtain ⟨_, _, _, e6, _⟩ := c4.ins
            rw [List.mem_singleton.mp z, eD4] at e6
            cases e6
      · obtain ⟨E1, L, eD, hL, lL, hk3, g, c2, l2⟩ := hP
        rw [lw] at hL l2
        have hl3 : wk.kinds.length * (2 * 7 ^ m) ≤ 3 * (2 * 7 ^ m) := Nat.mul_le_mul_right _ hk1
        refine ⟨D, natI L, rfl, .of eD, ?_⟩
        rw [sum_ints, hL]
        obtain ⟨dx2, vw2, vws2, ei2, _, _⟩ := c2.ins
        refine ⟨_, rfl, a, chA K, dx2, _, _, rfl, ei2, cl, T.naknown, rfl, ?_⟩
        refine ⟨_, rfl, _, rfl, by show 2 ≤ sizeLine; decide, fun q nq => ?_⟩
        have g3 : Gw (lawB K) [] H' (upd H' q (.tup [v, .int (m + 1 : Nat)])) := .new nq
        have c3 := c2.gw g3 (by simp) (by simp)
        obtain ⟨E2, e1, e2, e3⟩ := memo_any (b := bestN wk ws) (fun _ _ => kS_inj) (E := E1) (s := s) (m := m + 1)
        have gd3 := g.trans (g3.weak fun b hb => (nomatch hb))
        refine ⟨d, rfl, _, kB s (m + 1), c3.nd, tupK (((ns.gw g1).gw gd3)) upd_same, by unfold kvsM; rw [List.length_map, sizeLine_eq]; omega, fun xs' nw => ?_⟩
        have nw : NDw w _ d (aPut (kvsM (bestN wk ws) E1) (kB s (m + 1)) (.int (bestN wk ws (m + 1) s : Nat))) := nw
        rw [e1] at nw
        obtain ⟨ys, e4, _⟩ := c3.nd
        have g4 : Gw (lawB K) [d] (upd H' q (.tup [v, .int (m + 1 : Nat)])) (upd (upd H' q (.tup [v, .int (m + 1 : Nat)])) d (NdO w d xs')) := (Gw.refl _ _ _).put (.inr List.mem_cons_self) e4 NdO.loose
        obtain ⟨dx3, vw3, vws3, ei3, n3, n4⟩ := c3.ins
        refine fin E2 _ (g1d.trans (gd3.trans g4)) ⟨⟨dx3, vw3, vws3, g4.keep a _ (by simpa using ci.ne) ei3 (fun _ z => nomatch z), n3.gw g4, n4.gw g4⟩, nw⟩ (by omega) e3 _ rfl rfl rfl
abbrev nKindBest : List Str := ["self", "stand", "kind", "many", "found", "number", "later", "good"]
theorem scKindBest : FnScope nKindBest ["self", "stand", "kind", "many"] (defScope sKindBest) := ⟨rfl, rfl, rfl, by decide +kernel, rfl, by decide +kernel, by decide +kernel⟩
theorem ok_kindBestS (T : Tx K mg base) {n j : Nat} (hj : 8 ≤ j) (hb : Met P w K mg base "best" j ["self", "stand", "many"] (spBest w K n)) : Met P w K mg base "kind_best" (j + 1) ["self", "stand", "kind", "many"] (spKindBest w K (n + 1)) := by
  refine T.met (st := sKindBest) 26 rfl scKindBest (fun _ _ _ _ _ _ us hl => match us, hl with | [_, _, _, _], _ => rfl) (fun vs H Q E h => ?_) (fun A outer s0 H vs Q E c hr0 h => ?_)
  · obtain ⟨a, b, c, d, e, f, g, i, l, rfl, _⟩ := h
    rfl
  · obtain ⟨a, d, v, wk, ws, E0, s, k, m, rfl, hmn, hm, ok, hw, ci, ns, os, hk, hE, tb, hQ⟩ := h
    have hr := hr0
    have hr8 := hr0.mono hj
    refine ⟨_, PSs.nox (pss_cons (ps_set (i := 4) scKindBest.nd rfl (.inl rfl) pe_int)
      (pss_cons (ps_for PassesOwn.never rfl (pi_range1 rfl T.frrange (pa_cons (pe_callB cr_lenK rfl T.frlen bLen (pa_cons (pe_ix ix_tupK (pe_ix ix_tupK (pe_ix ix_tupK (pe_fld (pv 0) rfl) pe_int (fun _ _ => rfl)) (pv 2) (fun _ _ => rfl)) pe_int (fun _ _ => rfl)) pa_nil)) pa_nil)) (pg_name (i := 5) scKindBest.nd rfl (.inl rfl)) (pss_cons (ps_asg (pe_cal (ok_dyed T) hr8 rfl (pa_cons (pe_fld (pv 0) rfl) (pa_cons (pv 1) (pa_cons (pv 2) (pa_cons (pv 5) pa_nil))))) (pg_tupK (n := 2) rfl (pgs_cons (pg_name (i := 6) scKindBest.nd rfl (.inl rfl)) (pgs_cons (pg_name (i := 7) scKindBest.nd rfl (.inl rfl)) pgs_nil))))
      (pss_one (ps_if (pt_val (pv 7)) (pss_one (ps_set (i := 4) scKindBest.nd rfl (.inl rfl) (pe_callB (call_max2 rfl) rfl T.frmax bMax (pa_cons (pv 4) (pa_cons (pe_met hb T.clChances T.mebest hr (pv 0) (pa_cons (pv 6) (pa_cons (pe_op op_sub (pv 3) pe_int) pa_nil))) pa_nil))))) (pss_nil)))))
      (pss_one (ps_ret (pv 4))))), ?_⟩
    have cl := T.clChances
    obtain ⟨dx, vw, vws, ei, nvw, nvs⟩ := ci.ins
    obtain ⟨wx, v0, _, c, cs, e, x0, x1, x2, rfl, ea, _, ec, alc, eci, ee, _, _, m2⟩ := nvw.knd hk
    obtain ⟨f, fs, rfl, ef, alf⟩ := m2
    have lf : fs.length = (wk.knd k).routes.length := by
      have := alf.length
      simpa using this.symm
    have r2 := (ok.at hk).r2
    refine ⟨_, rfl, a, chA K, dx, _, _, rfl, ei, cl, T.naworks, rfl, _, _, _, _, rfl, rfl, .of ea, atI_nat (j := 2) rfl, ?_⟩
    refine ⟨_, rfl, _, _, _, _, rfl, rfl, .of ec, atI_nat eci, _, _, _, _, rfl, rfl, .of ee, atI_nat (j := 2) rfl, f, _, rfl, .inr (.of ef), ?_⟩
    refine ⟨_, rfl, by omega, by omega, ?_⟩
    refine for_range (lo := 0) (n := fs.length) (fun i σ H' => i ≤ fs.length ∧ ∃ E1 x5 x6 x7, σ = [some (.ref a), some v, some (.int k), some (.int (m + 1 : Nat)), some (.int (mx i (fun i => if (dy wk s k i).2 = true then bestN wk ws m (dy wk s k i).1 else 0) : Nat)), x5, x6, x7] ∧ Gw (lawB K) [d] H H' ∧ ChI w K H' a d wk ws E1 ∧ E1.length ≤ E0.length + i * 7 ^ m) ?_ (fun i σ H' hi hP => ?_) fun σ H' hP => ?_
    · exact ⟨Nat.zero_le _, E0, none, none, none, rfl, .refl _ _ _, ci, by omega⟩
    · obtain ⟨_, E1, x5, x6, x7, rfl, g, c1, l1⟩ := hP
      have hi2 : i < (wk.knd k).routes.length := lf ▸ hi
      obtain ⟨dx1, vw1, vws1, ei1, nw1, _⟩ := c1.ins
      refine ⟨_, rfl, a, chA K, dx1, _, _, rfl, ei1, cl, T.naworks, rfl, _, rfl, _, rfl, _, rfl, ?_⟩
      refine ⟨_, _, wk, s, k, i, by rw [Int.zero_add]; rfl, nw1, ns.gw g, ok, os, hk, hi2, tb.gw g, fun q l H2 g2 eq nl => ?_⟩
      refine ⟨q, _, rfl, .of eq, rfl, _, _, rfl, _, _, rfl, rfl, ?_⟩
      have gd2 := g.trans (g2.weak fun b hb => (nomatch hb))
      have c2 := c1.gw g2 (by simp) (by simp)
      have i1 : i * 7 ^ m ≤ 1 * 7 ^ m := Nat.mul_le_mul_right _ (by omega)
      refine ⟨_, rfl, _, rfl, ?_⟩
      cases eg : (dy wk s k i).2 with
      | false =>
        refine iteF ⟨hi, E1, some (.int (0 + (i : Int))), some l, some (.bl false), ?_, gd2, c2, by rw [Nat.add_mul]; omega⟩
        show _ = [some (V.ref a), some v, some (V.int k), some (V.int (m + 1 : Nat)), some (V.int (max (mx i _) (if (dy wk s k i).2 = true then _ else 0) : Nat)), _, _, _]
        rw [eg, if_neg Bool.false_ne_true, Nat.max_zero]
        rfl
      | true =>
        refine iteT ?_
        obtain ⟨dx2, vw2, vws2, ei2, _, _⟩ := c2.ins
        refine ⟨_, rfl, _, rfl, a, dx2, _, rfl, ei2, rfl, _, rfl, _, rfl, _, _, rfl, rfl, ?_⟩
        refine ⟨a, d, l, wk, ws, E1, (dy wk s k i).1, m, ?_, by omega, by omega, ok, hw, c2, nl, dy_ok os k i, by omega, tb.gw gd2, fun E2 H3 g3 c3 l3 => ?_⟩
        · show [V.ref a, l, V.int (((m + 1 : Nat) : Int) - 1)] = _
          rw [show ((m + 1 : Nat) : Int) - 1 = (m : Int) by omega]
        · refine ⟨_, _, rfl, hi, E2, some (.int (0 + (i : Int))), some l, some (.bl true), ?_, gd2.trans g3, c3, by rw [Nat.add_mul]; omega⟩
          show _ = [some (V.ref a), some v, some (V.int k), some (V.int (m + 1 : Nat)), some (V.int (max (mx i _) (if (dy wk s k i).2 = true then bestN wk ws m (dy wk s k i).1 else 0) : Nat)), _, _, _]
          rw [if_pos eg]
          show [some (V.ref a), some v, some (V.int k), some (V.int (m + 1 : Nat)), some (V.int (if ((bestN wk ws m (dy wk s k i).1 : Nat) : Int) > ((mx i _ : Nat) : Int) then ((bestN wk ws m (dy wk s k i).1 : Nat) : Int) else ((mx i _ : Nat) : Int))), _, _, _] = _
          rw [show (if ((bestN wk ws m (dy wk s k i).1 : Nat) : Int) > ((mx i (fun i => if (dy wk s k i).2 = true then bestN wk ws m (dy wk s k i).1 else 0) : Nat) : Int) then ((bestN wk ws m (dy wk s k i).1 : Nat) : Int) else ((mx i (fun i => if (dy wk s k i).2 = true then bestN wk ws m (dy wk s k i).1 else 0) : Nat) : Int)) = ((max (mx i (fun i => if (dy wk s k i).2 = true then bestN wk ws m (dy wk s k i).1 else 0)) (bestN wk ws m (dy wk s k i).1) : Nat) : Int) by split <;> omega]
    · obtain ⟨_, E1, x5, x6, x7, rfl, g, c1, l1⟩ := hP
      refine ⟨_, rfl, ?_⟩
      have l2 : fs.length * 7 ^ m ≤ 2 * 7 ^ m := Nat.mul_le_mul_right _ (by omega)
      rw [lf]
      exact hQ E1 H' g c1 (by omega)
theorem ok_kind0 (T : Tx K mg base) : Met P w K mg base "kind_best" 8 ["self", "stand", "kind", "many"] (spKindBest w K 0) :=
  T.met0 (st := sKindBest) 26 rfl (fun _ _ _ _ _ _ us hl => match us, hl with | [_, _, _, _], _ => rfl) fun vs H Q E h => by
    obtain ⟨_, _, _, _, _, _, _, _, m, _, h, _⟩ := h
    omega
theorem ok_chances (T : Tx K mg base) : ∀ n : Nat, Met P w K mg base "kind_best" (8 + 2 * n) ["self", "stand", "kind", "many"] (spKindBest w K n) ∧ Met P w K mg base "best" (9 + 2 * n) ["self", "stand", "many"] (spBest w K n)
  | 0 => ⟨ok_kind0 T, ok_bestS T (ok_kind0 T)⟩
  | n + 1 => by
    have hb := (ok_chances T n).2
    have hk := (ok_kindBestS T (by omega) hb).mono (show 9 + 2 * n + 1 ≤ 8 + 2 * (n + 1) by omega)
    exact ⟨hk, (ok_bestS T hk).mono (by omega)⟩
theorem ok_best (T : Tx K mg base) : Met P w K mg base "best" 21 ["self", "stand", "many"] (spBest w K 6) := (ok_chances T 6).2
end
end Dy
end
section
set_option Elab.async false
set_option linter.all false
set_option maxRecDepth 100000
/-! Chance's rows, in plain Lean. -/
namespace Dy
open PySem PySem.Spec PyProof.Rows L2
/-- the least common multiple of the first n kinds' numbers of routes -/
def whl (w : Wks) : Nat → Nat
  | 0 => 1
  | n + 1 => Nat.lcm (whl w n) (w.knd n).routes.length
theorem whl_dvd {w : Wks} : ∀ {n k : Nat}, k < n → (w.knd k).routes.length ∣ whl w n
  | 0, _, h => absurd h (Nat.not_lt_zero _)
  | n + 1, k, h => by
    rcases Nat.lt_succ_iff_lt_or_eq.mp h with z | z
    · exact Nat.dvd_trans (whl_dvd z) (Nat.dvd_lcm_left _ _)
    · rw [z]
      exact Nat.dvd_lcm_right _ _
theorem whl_two {w : Wks} (ok : WksOk w) : ∀ {n : Nat}, n ≤ w.kinds.length → whl w n ∣ 2
  | 0, _ => Nat.one_dvd 2
  | n + 1, h => by
    have k := ok.at (k := n) (by omega)
    have h1 := k.r1
    have h2 := k.r2
    refine Nat.lcm_dvd (whl_two ok (by omega)) ?_
    have : (w.knd n).routes.length = 1 ∨ (w.knd n).routes.length = 2 := by omega
    rcases this with e | e <;> rw [e] <;> decide
theorem whl_pos {w : Wks} (ok : WksOk w) {n : Nat} (h : n ≤ w.kinds.length) : 0 < whl w n ∧ whl w n ≤ 2 :=
  ⟨Nat.pos_of_dvd_of_pos (whl_two ok h) (by decide), Nat.le_of_dvd (by decide) (whl_two ok h)⟩
def prt (w : Wks) (ws : List Nat) (W k : Nat) : Nat := ws.getD k 0 * W / (w.knd k).routes.length
theorem prt_mul {w : Wks} {ws : List Nat} {W k : Nat} (h : (w.knd k).routes.length ∣ W) : (w.knd k).routes.length * prt w ws W k = ws.getD k 0 * W := Nat.mul_div_cancel' (Nat.dvd_mul_left_of_dvd h _)
def stepK (w : Wks) (pt : Nat) (k : Nat) (f : Stand → Nat) (s : Stand) (n : Nat) : Nat := sm n fun i => if (dy w s k i).2 = true then pt * f (dy w s k i).1 else 0
def stepR (w : Wks) (ws : List Nat) (W n : Nat) (f : Stand → Nat) (s : Stand) : Nat := sm n fun k => stepK w (prt w ws W k) k f s (w.knd k).routes.length
def cntR (w : Wks) (ws : List Nat) (W : Nat) : Nat → Stand → Nat
  | 0, _ => 1
  | m + 1, s => stepR w ws W w.kinds.length (cntR w ws W m) s
theorem stepK_le {w : Wks} {pt k n c : Nat} {f : Stand → Nat} {s : Stand} (h : ∀ t, f t ≤ c) : stepK w pt k f s n ≤ n * pt * c := by
  have : stepK w pt k f s n ≤ sm n (fun _ => pt * c) := sm_le fun i _ => by
    split
    · exact Nat.mul_le_mul_left _ (h _)
    · exact Nat.zero_le _
  rw [sm_const] at this
  rw [Nat.mul_assoc]
  exact this
theorem cntR_le {w : Wks} {ws : List Nat} {W S : Nat} (hW : ∀ k, k < w.kinds.length → (w.knd k).routes.length ∣ W) (h : sm w.kinds.length (fun k => ws.getD k 0) ≤ S) : ∀ (m : Nat) (s : Stand), cntR w ws W m s ≤ (S * W) ^ m
  | 0, _ => Nat.le_refl _
  | m + 1, s => by
    have : cntR w ws W (m + 1) s ≤ sm w.kinds.length (fun k => ws.getD k 0 * (W * (S * W) ^ m)) := sm_le fun k hk => by
      refine Nat.le_trans (stepK_le fun t => cntR_le hW h m t) ?_
      rw [prt_mul (hW k hk), Nat.mul_assoc]
      exact Nat.le_refl _
    rw [sm_mul] at this
    refine Nat.le_trans this ?_
    rw [Nat.pow_succ, Nat.mul_comm ((S * W) ^ m), Nat.mul_assoc]
    exact Nat.mul_le_mul_right _ h
end Dy
end
section
set_option Elab.async false
set_option linter.all false
set_option maxRecDepth 100000
set_option maxHeartbeats 4000000
set_option pp.maxSteps 1500
/-! best_chance. -/
namespace Dy
open PySem PySem.Spec PyProof.Rows L2
section
variable {P : Program} {w : World} {K : PySem.W.Frag} {mg : Str → Option Value} {base : Heap}
/-- what best_chance and random_chance promise: val, their answer -/
def spChance (K : PySem.W.Frag) (most : Nat) (val : Wks → List Nat → Nat → Nat × Nat) : Sp := fun vs H Q E => ∃ v1 v2 v3 wk, vs = [v1, v2, v3] ∧ NkV H (Wks.key wk) v1 ∧ WksOk wk ∧ Tbs K H ∧
  ((WtsV H wk v2 false ∧ ∀ H', Gw (lawB K) [] H H' → E (.ref (He.ga K "BadWeights")) none H') ∨
   ∃ ws, WtOk wk ws ∧ 0 < ws.sum ∧ ws.sum ≤ 10 ∧ NkV H (kI (natI ws)) v2 ∧ Flat3 v3 ∧ ((numOk v3 0 40 = false ∧ ∀ H', Gw (lawB K) [] H H' → E (.ref (He.ga K "BadNumber")) none H') ∨
     ∃ m : Nat, m ≤ most ∧ v3 = .int m ∧ ∀ v H', Gw (lawB K) [] H H' → NkV H' (kP (val wk ws m)) v → Q v H'))
def bestV (wk : Wks) (ws : List Nat) (m : Nat) : Nat × Nat := low (bestN wk ws m wk.vats) (ws.sum ^ m)
theorem Gw.fresh {B p : Addr} {H H1 H' : Hp} (g : Gw B [] H H1) (h : H p = none) (g2 : Gw B [p] H1 H') : Gw B [] H H' :=
  ((g.weak fun b hb => (nomatch hb)).trans g2).weak fun b hb => .inr (by rw [List.mem_singleton.mp hb]; exact h)
theorem scBestChance : FnScope ["works", "weights", "many"] ["works", "weights", "many"] (defScope sBestChance) := ⟨rfl, rfl, rfl, by decide +kernel, rfl, by decide +kernel, by decide +kernel⟩
theorem ok_bestChance (T : Tx K mg base) : Cal P w K mg base (CX P w) "best_chance" 22 ["works", "weights", "many"] (spChance K 6 bestV) := by
  refine T.cal (st := sBestChance) 27 rfl T.glbest_chance scBestChance (fun _ _ _ _ _ _ us hl => match us, hl with | [_, _, _], _ => rfl) (fun vs H Q E h => ?_) (fun A outer s0 H vs Q E hr h => ?_)
  · obtain ⟨v1, v2, v3, a, rfl, _⟩ := h
    rfl
  · obtain ⟨v1, v2, v3, wk, rfl, nw, ok, tb, hc⟩ := h
    refine ⟨_, pss_cons (ps_expr (pe_cal (ok_needWorks T) hr rfl (pa_cons (pv 0) pa_nil)))
      (pss_cons (ps_expr (pe_calS (ok_needWeights T) hr rfl (fun σ => passAt (takes_of rfl rfl rfl rfl) σ) (pa_cons (pv 0) (pa_cons (pv 1) pa_nil))))
      (pss_cons (ps_expr (pe_calS (ok_needMany T) hr rfl (fun σ => passAt (takes_of rfl rfl rfl rfl) σ) (pa_cons (pv 2) pa_nil)))
      (pss_one (ps_ret (pe_cal (ok_lowest T) hr rfl (pa_cons (pe_met (ok_best T) T.clChances T.mebest hr (pe_new (ok_init T) T.mkChances hr rfl T.glChances (pa_cons (pv 0) (pa_cons (pv 1) pa_nil))) (pa_cons (pe_ix ix_tupK (pv 0) pe_int (fun _ _ => rfl)) (pa_cons (pv 2) pa_nil))) (pa_cons (pe_cal (ok_power T) hr rfl (pa_cons (pe_callB (cr_sumTK rfl) rfl T.frsum bSum (pa_cons (pv 1) pa_nil)) (pa_cons (pv 2) pa_nil))) pa_nil))))))), ?_⟩
    refine ⟨_, rfl, _, wk, rfl, nw, ok, tb, fun H1 g1 => ?_⟩
    rcases hc with ⟨wf, hE⟩ | ⟨ws, hw, h0, h10, nws, fl, hc⟩
    · exact ⟨_, rfl, _, rfl, _, _, wk, false, rfl, nw.gw g1, wf.gw g1, tb.gw g1, fun H2 g2 => ⟨fun z => (nomatch z), fun _ => hE _ (g1.trans g2)⟩⟩
    refine ⟨_, rfl, _, rfl, _, _, wk, true, rfl, nw.gw g1, .of hw h0 (nws.gw g1), tb.gw g1, fun H2 g2 => ⟨fun _ => ?_, fun z => (nomatch z)⟩⟩
    have g12 := g1.trans g2
    refine ⟨_, rfl, v3, rfl, fl, fun e => ?_, fun e => ?_⟩
    · rcases hc with ⟨e2, _⟩ | ⟨m, hm, rfl, hQ⟩
      · rw [e] at e2
        cases e2
      refine ⟨_, rfl, _, rfl, fun x dx nx ndx nex => ?_⟩
      have gx : Gw (lawB K) [] H2 (upd (upd H2 dx (.own x)) x (.ins (chA K) dx [])) := (Gw.new ndx).add (by rw [upd_ne nex.symm]; exact nx)
      refine ⟨x, dx, _, _, rfl, upd_same, fun d H3 nd g3 e1 e2 => ⟨rfl, ?_⟩⟩
      have g23 : Gw (lawB K) [] H2 H3 := gx.fresh nx g3
      have g13 := g12.trans g23
      have nd2 : H2 d = none := gx.dom d nd
      have ndH : H d = none := g12.dom d nd2
      have nw3 := nw.gw g13
      obtain ⟨wx, us, rfl, ex, v0, _, rfl, n0, u1, _, rfl, n1, u2, _, rfl, n2, rfl⟩ := id nw3
      refine ⟨x, dx, _, rfl, e1, rfl, _, rfl, _, _, _, _, rfl, rfl, .of ex, atI_nat (j := 1) rfl, _, rfl, ?_⟩
      have p7 : 7 ^ m ≤ 7 ^ 6 := Nat.pow_le_pow_right (by decide) hm
      refine ⟨x, d, _, wk, ws, [], wk.vats, m, rfl, hm, by omega, ok, hw, ⟨⟨dx, _, _, e1, nw3, nws.gw g13⟩, ⟨[], e2, rfl, fun _ h => (nomatch h)⟩⟩, n1, StOk.of wk ok, by
        have : 7 ^ 6 ≤ 1000000 := by decide
        show 0 + 7 ^ m ≤ _
        omega, tb.gw g13, fun E' H4 g4 c4 l4 => ?_⟩
      have g14 : Gw (lawB K) [] H H4 := g13.fresh ndH g4
      obtain ⟨q, qs, rfl, eq, al⟩ := nws
      obtain rfl := NkAll.nums.mp al
      refine ⟨_, rfl, q, natI ws, rfl, .of (g14.tups _ _ eq), ?_⟩
      rw [sum_ints]
      refine ⟨_, rfl, ws.sum, m, rfl, by omega, by omega, ?_⟩
      obtain ⟨q1, q2⟩ := powS h0 (by omega : ws.sum ≤ 20) (by omega : m ≤ 12)
      exact ⟨_, _, rfl, q1, q2, fun v H5 g5 nv => hQ v _ (g14.trans g5) nv⟩
    · rcases hc with ⟨_, hE⟩ | ⟨m, hm, rfl, hQ⟩
      · exact hE _ g12
      · rw [numOk_int (by omega) (by omega)] at e
        cases e
end
end Dy
end
section
set_option Elab.async false
set_option linter.all false
set_option maxRecDepth 100000
set_option maxHeartbeats 4000000
set_option pp.maxSteps 1500
/-! random_chance. -/
namespace Dy
open PySem PySem.Spec PyProof.Rows L2
def randV (wk : Wks) (ws : List Nat) (m : Nat) : Nat × Nat := low (cntR wk ws (whl wk wk.kinds.length) m wk.vats) ((ws.sum * whl wk wk.kinds.length) ^ m)
theorem int_lcm {a b : Nat} : ((a : Int) * (b : Int)) / ((Nat.gcd a b : Nat) : Int) = ((Nat.lcm a b : Nat) : Int) := by
  rw [← Int.natCast_mul]
  rfl
theorem pow54 {i : Nat} (h : i ≤ 3) : 54 ^ i < 2 ^ 58 := Nat.lt_of_le_of_lt (Nat.pow_le_pow_right (by decide) h) (by decide)
theorem pow6 {i : Nat} (h : i ≤ 3) : 6 ^ i ≤ 216 := Nat.le_trans (Nat.pow_le_pow_right (by decide) h) (by decide)
section
variable {P : Program} {w : World} {K : PySem.W.Frag} {mg : Str → Option Value} {base : Heap}
abbrev nRandomChance : List Str := ["works", "weights", "many", "whole", "_", "routes", "found", "turn", "later", "stand", "top", "kind", "weight", "part", "number", "there", "good"]
theorem scRandomChance : FnScope nRandomChance ["works", "weights", "many"] (defScope sRandomChance) := ⟨rfl, rfl, rfl, by decide +kernel, rfl, by decide +kernel, by decide +kernel⟩
theorem ok_randomChance (T : Tx K mg base) : Cal P w K mg base (CX P w) "random_chance" 14 ["works", "weights", "many"] (spChance K 3 randV) := by
  refine T.cal (st := sRandomChance) 28 rfl T.glrandom_chance scRandomChance (fun _ _ _ _ _ _ us hl => match us, hl with | [_, _, _], _ => rfl) (fun vs H Q E h => ?_) (fun A outer s0 H vs Q E hr h => ?_)
  · obtain ⟨v1, v2, v3, a, rfl, _⟩ := h
    rfl
  · obtain ⟨v1, v2, v3, wk, rfl, nw, ok, tb, hc⟩ := h
    refine ⟨_, pss_cons (ps_expr (pe_cal (ok_needWorks T) hr rfl (pa_cons (pv 0) pa_nil)))
      (pss_cons (ps_expr (pe_calS (ok_needWeights T) hr rfl (fun σ => passAt (takes_of rfl rfl rfl rfl) σ) (pa_cons (pv 0) (pa_cons (pv 1) pa_nil))))
      (pss_cons (ps_expr (pe_calS (ok_needMany T) hr rfl (fun σ => passAt (takes_of rfl rfl rfl rfl) σ) (pa_cons (pv 2) pa_nil)))
      (pss_cons (ps_set (i := 3) scRandomChance.nd rfl (.inl rfl) pe_int)
      (pss_cons (ps_for (passes_of rfl) rfl (pi_tupK (pe_ix ix_tupK (pv 0) pe_int (fun _ _ => rfl))) (pg_tupK (n := 3) rfl (pgs_cons (pg_name (i := 4) scRandomChance.nd rfl (.inl rfl)) (pgs_cons (pg_name (i := 4) scRandomChance.nd rfl (.inl rfl)) (pgs_cons (pg_name (i := 5) scRandomChance.nd rfl (.inl rfl)) pgs_nil)))) (pss_one (ps_set (i := 3) scRandomChance.nd rfl (.inl rfl) (pe_op op_fdivW (pe_op op_mulW (pv 3) (pe_callB cr_lenK rfl T.frlen bLen (pa_cons (pv 5) pa_nil))) (pe_cal (ok_common T) hr rfl (pa_cons (pv 3) (pa_cons (pe_callB cr_lenK rfl T.frlen bLen (pa_cons (pv 5) pa_nil)) pa_nil)))))))
      (pss_cons (ps_set (i := 6) scRandomChance.nd rfl (.inl rfl) (pe_nd1 hr.units (pe_ix ix_tupK (pv 0) pe_int (fun _ _ => rfl)) pe_int))
      (pss_cons (ps_for (passes_of rfl) rfl (pi_range1 rfl T.frrange (pa_cons (pv 2) pa_nil)) (pg_name (i := 7) scRandomChance.nd rfl (.inl rfl)) (pss_cons (ps_set (i := 8) scRandomChance.nd rfl (.inl rfl) pe_ndnew)
      (pss_cons (ps_lock (ps_for (passes_of rfl) rfl (pi_nditems (pv 6)) (pg_tupK (n := 2) rfl (pgs_cons (pg_name (i := 9) scRandomChance.nd rfl (.inl rfl)) (pgs_cons (pg_name (i := 10) scRandomChance.nd rfl (.inl rfl)) pgs_nil))) (pss_one (ps_for (passes_of rfl) rfl (pi_enTK rfl T.frenumerate (pa_cons (pv 1) pa_nil)) (pg_tupK (n := 2) rfl (pgs_cons (pg_name (i := 11) scRandomChance.nd rfl (.inl rfl)) (pgs_cons (pg_name (i := 12) scRandomChance.nd rfl (.inl rfl)) pgs_nil))) (pss_cons (ps_set (i := 13) scRandomChance.nd rfl (.inl rfl) (pe_op op_fdivW (pe_op op_mulW (pv 12) (pv 3)) (pe_callB cr_lenK rfl T.frlen bLen (pa_cons (pe_ix ix_tupK (pe_ix ix_tupK (pe_ix ix_tupK (pv 0) pe_int (fun _ _ => rfl)) (pv 11) (fun _ _ => rfl)) pe_int (fun _ _ => rfl)) pa_nil))))
      (pss_one (ps_for (passes_of rfl) rfl (pi_range1 rfl T.frrange (pa_cons (pe_callB cr_lenK rfl T.frlen bLen (pa_cons (pe_ix ix_tupK (pe_ix ix_tupK (pe_ix ix_tupK (pv 0) pe_int (fun _ _ => rfl)) (pv 11) (fun _ _ => rfl)) pe_int (fun _ _ => rfl)) pa_nil)) pa_nil)) (pg_name (i := 14) scRandomChance.nd rfl (.inl rfl)) (pss_cons (ps_asg (pe_cal (ok_dyed T) hr rfl (pa_cons (pv 0) (pa_cons (pv 9) (pa_cons (pv 11) (pa_cons (pv 14) pa_nil))))) (pg_tupK (n := 2) rfl (pgs_cons (pg_name (i := 15) scRandomChance.nd rfl (.inl rfl)) (pgs_cons (pg_name (i := 16) scRandomChance.nd rfl (.inl rfl)) pgs_nil))))
      (pss_one (ps_if (PW.pt (pw_and (pt_val (pv 16)) (pw_and1 (pt_truthK (pv 13))))) (pss_one (ps_asg (pe_op op_add (pe_ndget2 hr.units (pv 8) (pv 15) pe_int ⟨rfl, rfl, rfl, rfl⟩) (pe_op op_mulW (pv 10) (pv 13))) (pg_sub (pv 8) (pv 15) (set_nd hr.units)))) (pss_nil)))))))))))
      (pss_one (ps_set (i := 6) scRandomChance.nd rfl (.inl rfl) (pv 8))))))
      (pss_one (ps_ret (pe_cal (ok_lowest T) hr rfl (pa_cons (pe_callB (cr_ndsum rfl) rfl T.frsum bSum (pa_cons (pe_ndvals (pv 6)) pa_nil)) (pa_cons (pe_cal (ok_power T) hr rfl (pa_cons (pe_op op_mulW (pe_callB (cr_sumTK rfl) rfl T.frsum bSum (pa_cons (pv 1) pa_nil)) (pv 3)) (pa_cons (pv 2) pa_nil))) pa_nil))))))))))), ?_⟩
    refine ⟨_, rfl, _, wk, rfl, nw, ok, tb, fun H1 g1 => ?_⟩
    rcases hc with ⟨wf, hE⟩ | ⟨ws, hw, h0, h10, nws, fl, hc⟩
    · exact ⟨_, rfl, _, rfl, _, _, wk, false, rfl, nw.gw g1, wf.gw g1, tb.gw g1, fun H2 g2 => ⟨fun z => (nomatch z), fun _ => hE _ (g1.trans g2)⟩⟩
    refine ⟨_, rfl, _, rfl, _, _, wk, true, rfl, nw.gw g1, .of hw h0 (nws.gw g1), tb.gw g1, fun H2 g2 => ⟨fun _ => ?_, fun z => (nomatch z)⟩⟩
    have g12 := g1.trans g2
    refine ⟨_, rfl, v3, rfl, fl, fun e => ?_, fun e => ?_⟩
    case refine_2 =>
      rcases hc with ⟨_, hE⟩ | ⟨m, hm, rfl, hQ⟩
      · exact hE _ g12
      · rw [numOk_int (by omega) (by omega)] at e
        cases e
    rcases hc with ⟨e2, _⟩ | ⟨m, hm, rfl, hQ⟩
    · rw [e] at e2
      cases e2
    replace nw := nw.gw g12
    replace nws := nws.gw g12
    replace tb := tb.gw g12
    replace hQ : ∀ v H', Gw (lawB K) [] H2 H' → NkV H' (kP (randV wk ws m)) v → Q v H' := fun v H' g n => hQ v H' (g12.trans g) n
    clear g12 g1 g2
    have k2 := ok.k2
    have nw0 := nw
    obtain ⟨wx, us, rfl, ex, v0, _, rfl, n0, u1, _, rfl, n1, u2, _, rfl, ⟨c, cs, rfl, ec, alc⟩, rfl⟩ := nw
    obtain ⟨wsx, wss, rfl, ews, alw⟩ := nws
    obtain rfl := NkAll.nums.mp alw
    have lc : cs.length = wk.kinds.length := by
      have := alc.length
      simpa using this.symm
    -- the kind's tuple
    have kindT : ∀ i, i < wk.kinds.length → ∃ e x0 x1 f fs, cs[i]? = some (.ref e) ∧ H2 e = some (.tup [x0, x1, .ref f]) ∧ H2 f = some (.tup fs) ∧ fs.length = (wk.knd i).routes.length := fun i hi => by
      obtain ⟨y, ey, ny⟩ := alc.get (i := i) (k := (wk.knd i).key) (by rw [List.getElem?_map, Wks.knd_at hi] <;> rfl)
      obtain ⟨e, ks, rfl, ee, x0, _, rfl, m0, x1, _, rfl, m1, x2, _, rfl, ⟨f, fs, rfl, ef, alf⟩, rfl⟩ := ny
      exact ⟨e, x0, x1, f, fs, ey, ee, ef, by
        have := alf.length
        simpa using this.symm⟩
    refine ⟨_, rfl, _, _, _, _, rfl, rfl, .of ex, atI_nat (j := 2) rfl, c, rfl, ⟨_, .of ec⟩, ?_⟩
    refine for_tup (xs := cs) (fun i σ H' => H' = H2 ∧ ∃ x4 x5, σ = [some (.ref wx), some (.ref wsx), some (.int m), some (.int (whl wk i : Nat)), x4, x5, none, none, none, none, none, none, none, none, none, none, none]) ?_ (fun i σ H' _ hP => ?_) (fun i x σ H' hx hP => ?_) fun σ H' hP => ?_
    · exact ⟨rfl, none, none, rfl⟩
    · obtain ⟨rfl, _⟩ := hP
      exact .of ec
    · obtain ⟨rfl, x4, x5, rfl⟩ := hP
      have hi : i < wk.kinds.length := lc ▸ (List.getElem?_eq_some_iff.mp hx).1
      obtain ⟨e, x0, x1, f, fs, ei, ee, ef, lf⟩ := kindT i hi
      rw [hx] at ei
      obtain rfl := Option.some.inj ei
      have r2 := (ok.at hi).r2
      have r1 := (ok.at hi).r1
      obtain ⟨p1, p2⟩ := whl_pos ok (Nat.le_of_lt hi)
      refine ⟨e, _, rfl, .of ee, rfl, _, _, rfl, _, _, rfl, _, _, rfl, rfl, ?_⟩
      refine ⟨_, rfl, _, rfl, f, _, rfl, .inr (.of ef), _, _, rfl, rfl, wide_mul (a := 8) (b := 8) (by rw [Int.natAbs_natCast]; omega) (by rw [Int.natAbs_natCast]; omega) (by decide) (by decide) (by decide), ?_⟩
      refine ⟨_, rfl, _, rfl, f, _, rfl, .inr (.of ef), whl wk i, fs.length, rfl, ?_⟩
      have gp : 0 < Nat.gcd (whl wk i) fs.length := Nat.gcd_pos_of_pos_left _ p1
      have gl : Nat.gcd (whl wk i) fs.length ≤ whl wk i := Nat.gcd_le_left _ p1
      refine ⟨_, _, rfl, rfl, wide_div (b := 8) (by omega) (by rw [Int.natAbs_natCast]; omega) (by decide) (by decide), rfl, some x1, some (.ref f), ?_⟩
      · show [some (V.ref wx), some (V.ref wsx), some (V.int m), some (V.int (((whl wk i : Nat) : Int) * (fs.length : Int) / ((Nat.gcd (whl wk i) fs.length : Nat) : Int))), some x1, some (V.ref f), none, none, none, none, none, none, none, none, none, none, none] = _
        rw [int_lcm, lf]
        rfl
    · obtain ⟨rfl, x4, x5, rfl⟩ := hP
      rw [lc]
      -- {works[1]: 1}
      obtain ⟨W1, W2⟩ := whl_pos ok (Nat.le_refl wk.kinds.length)
      have hW : ∀ k, k < wk.kinds.length → (wk.knd k).routes.length ∣ whl wk wk.kinds.length := fun k hk => whl_dvd hk
      have hWe : randV wk ws m = low (cntR wk ws (whl wk wk.kinds.length) m wk.vats) ((ws.sum * whl wk wk.kinds.length) ^ m) := rfl
      generalize whl wk wk.kinds.length = W at W1 W2 hW hWe
      have w27 := WtOk.sum hw ok
      intro d hd
      have gd : Gw (lawB K) [] H' (upd H' d (NdO w d [])) := .new hd
      refine ⟨_, rfl, _, _, _, _, rfl, rfl, .of (gd.tups _ _ ex), atI_nat (j := 1) rfl, upd_same, ?_⟩
      obtain ⟨vx, evx⟩ := (stKey n1).ref
      subst evx
      refine ⟨vx, kS wk.vats, rfl, stKey (n1.gw gd), ?_⟩
      have g1 : Gw (lawB K) [] H' (upd (upd H' d (NdO w d [])) d (NdO w d [(kS wk.vats, vx, .int 1)])) := gd.put (.inl hd) upd_same NdO.loose
      have D1 : DIs w (upd (upd H' d (NdO w d [])) d (NdO w d [(kS wk.vats, vx, .int 1)])) d wk.dyes wk.vats.length [(wk.vats, 1)] :=
        ⟨⟨[(kS wk.vats, vx, .int 1)], upd_same, rfl, fun x hx => by
          rw [List.mem_singleton.mp hx]
          exact ⟨n1.gw g1, (stKey n1).dep⟩⟩, by simp, fun x hx => by
          rw [List.mem_singleton.mp hx]
          exact StOk.of wk ok⟩
      refine ⟨_, rfl, m, rfl, by omega, by omega, ?_⟩
      refine for_range (lo := 0) (n := m) (fun i σ H2 => i ≤ m ∧ ∃ d D x7 x8 x9 x10 x11 x12 x13 x14 x15 x16, σ = [some (.ref wx), some (.ref wsx), some (.int m), some (.int (W : Nat)), x4, x5, some (.ref d), x7, x8, x9, x10, x11, x12, x13, x14, x15, x16] ∧ Gw (lawB K) [] H' H2 ∧ H' d = none ∧
        DIs w H2 d wk.dyes wk.vats.length D ∧ D.length ≤ 6 ^ i ∧ ∀ r, tot D (cntR wk ws W r) = cntR wk ws W (i + r) wk.vats) ?_ (fun i σ H2 hi hP => ?_) fun σ H2 hP => ?_
      · refine ⟨Nat.zero_le _, d, [(wk.vats, 1)], none, none, none, none, none, none, none, none, none, none, rfl, g1, hd, D1, Nat.le_refl _, fun r => ?_⟩
        rw [tot_cons, tot_nil, Nat.zero_add]
        show 1 * cntR wk ws W r wk.vats + 0 = _
        omega
      · clear D1 g1
        obtain ⟨_, d, D, x7, x8, x9, x10, x11, x12, x13, x14, x15, x16, rfl, g2, nd, DD, lD, hD⟩ := hP
        have i3 : i ≤ 3 := by omega
        have bD : ∀ x ∈ D, x.2 < 2 ^ 58 := fun x hx => by
          have h1 := tot_mem hx
          have h2 : tot D (fun _ => 1) = cntR wk ws W (i + 0) wk.vats := hD 0
          have h3 := cntR_le hW w27 i wk.vats
          have h5 : (27 * W) ^ i ≤ 54 ^ i := Nat.pow_le_pow_left (by omega) i
          have h4 := pow54 i3
          rw [Nat.add_zero] at h2
          omega
        have l3 := pow6 i3
        intro e he
        obtain ⟨xs, exs, em, ks⟩ := DD.nd
        have dne : d ≠ e := ne_of_none exs he
        have ne : H' e = none := g2.dom e he
        have g23 : Gw (lawB K) [] H2 (upd H2 e (NdO w e [])) := .new he
        have g3 := g2.trans g23
        have exs3 : upd H2 e (NdO w e []) d = some (NdO w d xs) := by
          rw [upd_ne dne]
          exact exs
        have L0 : DIs w (upd H2 e (NdO w e [])) e wk.dyes wk.vats.length [] := ⟨⟨[], upd_same, rfl, fun x hx => (nomatch hx)⟩, List.nodup_nil, fun x hx => (nomatch hx)⟩
        have lx := ent_len em
        -- for stand, top in found.items()
        refine ⟨d, NdO w d xs, exs3, trivial, fun od => ?_⟩
        have g34 : Gw (lawB K) [d] (upd H2 e (NdO w e [])) (upd (upd H2 e (NdO w e [])) d (.frz od (NdO w d xs))) := (Gw.refl _ _ _).put (.inr List.mem_cons_self) exs3 NdO.loose
        have g4 : Gw (lawB K) [] H' (upd (upd H2 e (NdO w e [])) d (.frz od (NdO w d xs))) := g3.put (.inl nd) exs3 NdO.loose
        refine ⟨_, rfl, d, od, xs, rfl, upd_same, ?_⟩
        refine for_nd (fun j σ H5 => ∃ L x9 x10 x11 x12 x13 x14 x15 x16, σ = [some (.ref wx), some (.ref wsx), some (.int m), some (.int (W : Nat)), x4, x5, some (.ref d), some (.int (0 + (i : Int))), some (.ref e), x9, x10, x11, x12, x13, x14, x15, x16] ∧ Gw (lawB K) [] H' H5 ∧ H5 d = some (.frz od (NdO w d xs)) ∧
          (∀ x ∈ xs, NkV H5 x.1 (.ref x.2.1)) ∧ DIs w H5 e wk.dyes wk.vats.length L ∧ j ≤ xs.length ∧ L.length ≤ j * 6 ∧ ∀ f, tot L f = tot (D.take j) (stepR wk ws W wk.kinds.length f)) ?_ (fun j σ H5 hP => ?_) (fun j k a v T' σ H5 hx hP hT => ?_) fun σ H5 hP => ?_
        · exact ⟨[], x9, x10, x11, x12, x13, x14, x15, x16, rfl, g4, upd_same, fun x hx => ((ks x hx).1.gw g23).gw g34, L0.gw g34 (by simpa using dne.symm), Nat.zero_le _, Nat.zero_le _, fun f => rfl⟩
        · obtain ⟨_, _, _, _, _, _, _, _, _, _, _, h, _⟩ := hP
          exact h
        · obtain ⟨L, y9, y10, y11, y12, y13, y14, y15, y16, rfl, g5, efz, ks5, LL, hj, ll, hL⟩ := hP
          obtain ⟨s, t, eD, rfl, rfl⟩ := ent_of em hx
          have hs : StOk wk.dyes wk.vats.length s := DD.ok _ (List.mem_of_getElem? eD)
          have ht : t < 2 ^ 58 := bD _ (List.mem_of_getElem? eD)
          have hj2 : j < xs.length := (List.getElem?_eq_some_iff.mp hx).1
          have g56 : Gw (lawB K) [] H5 (upd H5 T' (.tup [.ref a, .int (t : Nat)])) := .new hT
          refine ⟨T', _, rfl, .of upd_same, rfl, _, _, rfl, _, _, rfl, rfl, ?_⟩
          -- for kind, weight in enumerate(weights)
          refine ⟨_, rfl, wsx, _, rfl, .of ((g5.trans g56).tups _ _ ews), ?_⟩
          have lw : ((natI ws).map V.int).length = wk.kinds.length := by simpa using hw.len
          refine for_en (xs := (natI ws).map V.int) (fun k σ H6 => ∃ L x11 x12 x13 x14 x15 x16, σ = [some (.ref wx), some (.ref wsx), some (.int m), some (.int (W : Nat)), x4, x5, some (.ref d), some (.int (0 + (i : Int))), some (.ref e), some (.ref a), some (.int (t : Nat)), x11, x12, x13, x14, x15, x16] ∧ Gw (lawB K) [] H' H6 ∧ H6 d = some (.frz od (NdO w d xs)) ∧
            (∀ x ∈ xs, NkV H6 x.1 (.ref x.2.1)) ∧ DIs w H6 e wk.dyes wk.vats.length L ∧ k ≤ wk.kinds.length ∧ L.length ≤ j * 6 + k * 2 ∧ ∀ f, tot L f = tot (D.take j) (stepR wk ws W wk.kinds.length f) + t * stepR wk ws W k f s) ?_ (fun k σ H6 hP => ?_) (fun k x T2 σ H6 hx2 hP hT2 => ?_) fun σ H6 hP => ?_
          · exact ⟨L, y11, y12, y13, y14, y15, y16, rfl, g5.trans g56, g56.keep d _ (by simp) efz (fun _ z => nomatch z), fun x hx => (ks5 x hx).gw g56, LL.gw g56 (by simp), Nat.zero_le _, ll, fun f => hL f⟩
          · obtain ⟨_, _, _, _, _, _, _, _, g, _⟩ := hP
            exact .of (g.tups _ _ ews)
          · obtain ⟨L, z11, z12, z13, z14, z15, z16, rfl, g6, efz6, ks6, LL6, hk, ll6, hL6⟩ := hP
            have hk2 : k < wk.kinds.length := by
              rw [← lw]
              exact (List.getElem?_eq_some_iff.mp hx2).1
            have kw : k < ws.length := hw.len ▸ hk2
            have ew : x = .int (ws.getD k 0 : Nat) := by
              rw [List.getElem?_map, List.getElem?_map, List.getElem?_eq_getElem kw] at hx2
              rw [List.getD_eq_getElem?_getD, List.getElem?_eq_getElem kw]
              exact (Option.some.inj hx2).symm
            subst ew
            obtain ⟨q, q0, q1, f, fs, eq, ee, ef, lf⟩ := kindT k hk2
            have r1 := (ok.at hk2).r1
            have r2 := (ok.at hk2).r2
            have w9 := hw.le k
            have g67 : Gw (lawB K) [] H6 (upd H6 T2 (.tup [.int (k : Nat), .int (ws.getD k 0 : Nat)])) := .new hT2
            have g7 := g6.trans g67
            refine ⟨T2, _, rfl, .of upd_same, rfl, _, _, rfl, _, _, rfl, rfl, ?_⟩
            -- part
            refine ⟨_, rfl, _, rfl, _, _, rfl, rfl, wide_mul (a := 8) (b := 8) (by rw [Int.natAbs_natCast]; omega) (by rw [Int.natAbs_natCast]; omega) (by decide) (by decide) (by decide), ?_⟩
            refine ⟨_, rfl, _, _, _, _, rfl, rfl, .of (g7.tups _ _ ex), atI_nat (j := 2) rfl, _, rfl, _, _, _, _, rfl, rfl, .of (g7.tups _ _ ec), atI_nat eq, _, _, _, _, rfl, rfl, .of (g7.tups _ _ ee), atI_nat (j := 2) rfl, f, _, rfl, .inr (.of (g7.tups _ _ ef)), ?_⟩
            refine ⟨_, _, rfl, rfl, wide_div (b := 8) (by omega) (by rw [Int.natAbs_natCast]; omega) (by decide) (by decide), ?_⟩
            have epart : V.int (((ws.getD k 0 : Nat) : Int) * (W : Int) / (fs.length : Int)) = V.int (prt wk ws W k : Nat) := by
              rw [lf]
              unfold prt
              rw [Int.natCast_ediv, Int.natCast_mul]
            have b18 : prt wk ws W k ≤ 18 := by
              have h1 : prt wk ws W k ≤ ws.getD k 0 * W := Nat.div_le_self _ _
              have h2 : ws.getD k 0 * W ≤ 9 * 2 := Nat.mul_le_mul w9 W2
              omega
            -- for number in range(..)
            refine ⟨_, rfl, _, _, _, _, rfl, rfl, .of (g7.tups _ _ ex), atI_nat (j := 2) rfl, _, rfl, _, _, _, _, rfl, rfl, .of (g7.tups _ _ ec), atI_nat eq, _, _, _, _, rfl, rfl, .of (g7.tups _ _ ee), atI_nat (j := 2) rfl, f, _, rfl, .inr (.of (g7.tups _ _ ef)), ?_⟩
            refine ⟨_, rfl, by omega, by omega, ?_⟩
            refine for_range (lo := 0) (n := fs.length) (fun n σ H8 => n ≤ fs.length ∧ ∃ L x14 x15 x16, σ = [some (.ref wx), some (.ref wsx), some (.int m), some (.int (W : Nat)), x4, x5, some (.ref d), some (.int (0 + (i : Int))), some (.ref e), some (.ref a), some (.int (t : Nat)), some (.int (k : Nat)), some (.int (ws.getD k 0 : Nat)), some (.int (prt wk ws W k : Nat)), x14, x15, x16] ∧ Gw (lawB K) [] H' H8 ∧ H8 d = some (.frz od (NdO w d xs)) ∧
              (∀ x ∈ xs, NkV H8 x.1 (.ref x.2.1)) ∧ DIs w H8 e wk.dyes wk.vats.length L ∧ L.length ≤ j * 6 + k * 2 + n ∧ ∀ f, tot L f = tot (D.take j) (stepR wk ws W wk.kinds.length f) + t * (stepR wk ws W k f s + stepK wk (prt wk ws W k) k f s n)) ?_ (fun n σ H8 hn hP => ?_) fun σ H8 hP => ?_
            · refine ⟨Nat.zero_le _, L, z14, z15, z16, ?_, g7, g67.keep d _ (by simp) efz6 (fun _ z => nomatch z), fun x hx => (ks6 x hx).gw g67, LL6.gw g67 (by simp), by omega, fun f => hL6 f⟩
              show [some (V.ref wx), some (V.ref wsx), some (V.int m), some (V.int (W : Nat)), x4, x5, some (V.ref d), some (V.int (0 + (i : Int))), some (V.ref e), some (V.ref a), some (V.int (t : Nat)), some (V.int (k : Nat)), some (V.int (ws.getD k 0 : Nat)), some (V.int (((ws.getD k 0 : Nat) : Int) * (W : Int) / (fs.length : Int))), z14, z15, z16] = _
              rw [epart]
            · obtain ⟨_, L, z14, z15, z16, rfl, g8, efz8, ks8, LL8, ll8, hL8⟩ := hP
              have hn2 : n < (wk.knd k).routes.length := lf ▸ hn
              refine ⟨_, rfl, _, rfl, _, rfl, _, rfl, ?_⟩
              refine ⟨_, _, wk, s, k, n, by rw [Int.zero_add]; rfl, nw0.gw g8, ks8 _ (List.mem_of_getElem? hx), ok, hs, hk2, hn2, tb.gw g8, fun q l H9 g89 eq nl => ?_⟩
              refine ⟨q, _, rfl, .of eq, rfl, _, _, rfl, _, _, rfl, rfl, ?_⟩
              have g9 := g8.trans g89
              have efz9 := g89.keep d _ (by simp) efz8 (fun _ z => nomatch z)
              have ks9 : ∀ x ∈ xs, NkV H9 x.1 (.ref x.2.1) := fun x hx => (ks8 x hx).gw g89
              have LL9 := LL8.gw g89 (by simp)
              have hs2 := dy_ok hs k n (w := wk)
              have skip : ((dy wk s k n).2 = true → prt wk ws W k = 0) → ∀ f, tot L f = tot (D.take j) (stepR wk ws W wk.kinds.length f) + t * (stepR wk ws W k f s + stepK wk (prt wk ws W k) k f s (n + 1)) := fun h f => by
                rw [hL8 f]
                show _ = _ + t * (stepR wk ws W k f s + (stepK wk (prt wk ws W k) k f s n + if (dy wk s k n).2 = true then prt wk ws W k * f (dy wk s k n).1 else 0))
                split
                · rename_i c
                  rw [h c, Nat.zero_mul, Nat.add_zero]
                · rw [Nat.add_zero]
              refine ⟨_, rfl, _, rfl, ?_⟩
              cases eg : (dy wk s k n).2 with
              | false => exact iteF (iteF ⟨hn, L, some (.int (0 + (n : Int))), some l, some (.bl false), rfl, g9, efz9, ks9, LL9, by omega, skip fun z => by rw [eg] at z; cases z⟩)
              | true =>
                refine iteT ⟨_, rfl, _, rfl, ?_⟩
                by_cases wz : prt wk ws W k = 0
                · rw [show (((prt wk ws W k : Nat) : Int) != 0) = false by rw [wz] <;> rfl]
                  exact iteF ⟨hn, L, some (.int (0 + (n : Int))), some l, some (.bl true), rfl, g9, efz9, ks9, LL9, by omega, skip fun _ => wz⟩
                · rw [show (((prt wk ws W k : Nat) : Int) != 0) = true from bne_iff_ne.mpr (by omega)]
                  refine iteT ?_
                  refine ⟨_, rfl, e, _, rfl, LL9.nd.nd, _, rfl, _, kS (dy wk s k n).1, LL9.nd.nd, stKey nl, ?_⟩
                  rw [kvs_getD]
                  have mulOk : CMulW (t : Nat) (prt wk ws W k : Nat) := wide_mul (a := 58) (b := 8) (by rw [Int.natAbs_natCast]; exact ht) (by rw [Int.natAbs_natCast]; omega) (by decide) (by decide) (by decide)
                  refine ⟨_, rfl, _, rfl, _, _, rfl, rfl, mulOk, _, _, rfl, rfl, ?_⟩
                  refine ⟨_, rfl, _, rfl, e, rfl, a_put (t := dget L (dy wk s k n).1 + t * prt wk ws W k) (congrArg V.int (by rw [Int.natCast_add, Int.natCast_mul])) LL9 ne g9 hs2 nl (by rw [lx] at hj2; omega) fun H10 g10 g90 LL10 => ?_⟩
                  refine ⟨hn, _, some (.int (0 + (n : Int))), some l, some (.bl true), rfl, g10, g90.keep d _ (by simpa using dne) efz9 (fun _ z => nomatch z), fun x hx => (ks9 x hx).gw g90, LL10, by have := len_put (D := L) (s := (dy wk s k n).1) (t := dget L (dy wk s k n).1 + t * prt wk ws W k); omega, fun f => ?_⟩
                  rw [tot_put LL9.un, hL8 f]
                  show _ = _ + t * (stepR wk ws W k f s + (stepK wk (prt wk ws W k) k f s n + if (dy wk s k n).2 = true then prt wk ws W k * f (dy wk s k n).1 else 0))
                  rw [if_pos eg, ← Nat.add_assoc (stepR wk ws W k f s), Nat.mul_add t (stepR wk ws W k f s + _), Nat.mul_assoc]
                  omega
            · obtain ⟨_, L, z14, z15, z16, rfl, g8, efz8, ks8, LL8, ll8, hL8⟩ := hP
              rw [lf] at ll8 hL8
              exact ⟨L, _, _, _, _, _, _, rfl, g8, efz8, ks8, LL8, hk2, by omega, hL8⟩
          · obtain ⟨L, z11, z12, z13, z14, z15, z16, rfl, g6, efz6, ks6, LL6, hk, ll6, hL6⟩ := hP
            rw [lw] at ll6 hL6
            refine ⟨L, _, _, _, _, _, _, _, _, rfl, g6, efz6, ks6, LL6, hj2, by omega, fun f => ?_⟩
            rw [hL6 f, tot_take eD]
        · obtain ⟨L, y9, y10, y11, y12, y13, y14, y15, y16, rfl, g5, efz, ks5, LL, hj, ll, hL⟩ := hP
          refine ⟨efz, ?_⟩
          have g6 : Gw (lawB K) [] H' (upd H5 d (NdO w d xs)) := g5.put (.inl nd) efz NdO.frz_loose
          have g56 : Gw (lawB K) [d] H5 (upd H5 d (NdO w d xs)) := (Gw.refl _ _ _).put (.inr List.mem_cons_self) efz NdO.frz_loose
          refine ⟨_, rfl, hi, e, L, _, _, _, _, _, _, _, _, _, _, rfl, g6, ne, LL.gw g56 (by simpa using dne.symm), by rw [Nat.pow_succ]; rw [lx] at ll; omega, fun r => ?_⟩
          rw [hL, lx, List.take_length]
          have := hD (r + 1)
          rw [show i + 1 + r = i + (r + 1) by omega, ← this]
          rfl
      · obtain ⟨_, d, D, x7, x8, x9, x10, x11, x12, x13, x14, x15, x16, rfl, g2, nd, DD, lD, hD⟩ := hP
        refine ⟨_, rfl, d, _, rfl, DD.nd.nd, fun q nq => ?_⟩
        have g3 := g2.add (o := viewO "dict_values" q d) nq
        refine ⟨q, d, kvsOf D, _, rfl, upd_same, (DD.nd.gw (Gw.new (B := lawB K) (M := []) nq) (by simp)).nd, kvs_ints, ?_⟩
        rw [sum_ints, ← tot_one]
        have hh := hD 0
        rw [Nat.add_zero] at hh
        rw [show tot D (fun _ => 1) = cntR wk ws W m wk.vats from hh]
        refine ⟨_, rfl, wsx, natI ws, rfl, .of (g3.tups _ _ ews), ?_⟩
        rw [sum_ints]
        have sW : ws.sum * W ≤ 20 := Nat.le_trans (Nat.mul_le_mul h10 W2) (by decide)
        refine ⟨_, rfl, _, _, rfl, rfl, wide_mul (a := 8) (b := 8) (by rw [Int.natAbs_natCast]; omega) (by rw [Int.natAbs_natCast]; omega) (by decide) (by decide) (by decide), _, rfl, ws.sum * W, m, ?_, sW, by omega, ?_⟩
        · show [V.int (((ws.sum : Nat) : Int) * (W : Int)), V.int m] = _
          rw [← Int.natCast_mul]
        · obtain ⟨q1, q2⟩ := powS (Nat.mul_pos h0 W1) sW (by omega : m ≤ 12)
          refine ⟨_, _, rfl, q1, q2, fun v H5 g5 nv => hQ v _ (g3.trans g5) ?_⟩
          rw [hWe]
          exact nv
end
end Dy
end
section
set_option Elab.async false
set_option linter.all false
set_option maxRecDepth 100000
set_option maxHeartbeats 4000000
set_option pp.maxSteps 1500
/-! _law_taken, _law_alike, _law_lot. -/
namespace Dy
open PySem PySem.Spec PyProof.Rows L2
theorem SqL.gw {K : PySem.W.Frag} {B p : Addr} {M : List Addr} {H H' : Hp} {xs : List V} (h : SqL K H p xs) (g : Gw B M H H') (hp : p ∉ M) : SqL K H' p xs := by
  rcases h with (h | ⟨o, h⟩) | h
  · exact .inl (.inl (g.keep p _ hp h fun _ z => nomatch z))
  · exact .inl (.inr ⟨o, g.keep p _ hp h fun _ z => nomatch z⟩)
  · exact .inr h
/-- the row: the script at p, what was taken of it -/
structure RowI (K : PySem.W.Frag) (H : Hp) (r p : Addr) (ns : List Int) : Prop where
  row : ∃ i j c : Int, H r = some (.lst [.ref p, .int i, .int j, .int c]) ∧ 0 ≤ i ∧ 0 ≤ j ∧ j < 2147483647
  scr : SqL K H p (ns.map V.int)
  ne : p ≠ r ∨ ∀ H' : Hp, SqL K H' p (ns.map V.int)
theorem RowI.gw {K : PySem.W.Frag} {B r p : Addr} {M : List Addr} {H H' : Hp} {ns : List Int} (x : RowI K H r p ns) (g : Gw B M H H') (hr : r ∉ M) (hp : p ∉ M) : RowI K H' r p ns := by
  obtain ⟨i, j, c, e, q⟩ := x.row
  exact ⟨⟨i, j, c, g.keep r _ hr e (fun _ z => nomatch z), q⟩, SqL.gw x.scr g hp, x.ne⟩
/-- a list of our own was written -/
theorem RowI.put {K : PySem.W.Frag} {B r p D : Addr} {H H2 H3 : Hp} {ns : List Int} (x0 : RowI K H r p ns) (hD : H D = none) (x : RowI K H2 r p ns) (g : Gw B [D] H2 H3) : RowI K H3 r p ns := by
  obtain ⟨i, j, c, e, q⟩ := x.row
  obtain ⟨_, _, _, e0, _⟩ := x0.row
  have rD : r ≠ D := ne_of_none e0 hD
  refine ⟨⟨i, j, c, g.keep r _ (by simpa using rD) e (fun _ z => nomatch z), q⟩, ?_, x.ne⟩
  rcases x0.scr with (h | ⟨o, h⟩) | h
  · exact SqL.gw x.scr g (by simpa using ne_of_none h hD)
  · exact SqL.gw x.scr g (by simpa using ne_of_none h hD)
  · exact .inr h
theorem sq_keep {K : PySem.W.Frag} {B r p : Addr} {H H' : Hp} {ns : List Int} (ne : p ≠ r ∨ ∀ H' : Hp, SqL K H' p (ns.map V.int)) (s : SqL K H p (ns.map V.int)) (g : Gw B [r] H H') : SqL K H' p (ns.map V.int) :=
  ne.elim (fun n => SqL.gw s g (by simpa using n)) fun h => h H'
theorem RowI.set {K : PySem.W.Frag} {B r p : Addr} {H : Hp} {ns : List Int} {i j c : Int} {xs : List V} (s : SqL K H p (ns.map V.int)) (ne : p ≠ r ∨ ∀ H' : Hp, SqL K H' p (ns.map V.int)) (e : H r = some (.lst xs)) (h1 : 0 ≤ i) (h2 : 0 ≤ j) (h3 : j < 2147483647) : RowI K (upd H r (.lst [.ref p, .int i, .int j, .int c])) r p ns :=
  ⟨⟨i, j, c, upd_same, h1, h2, h3⟩, sq_keep ne s (Gw.lst (B := B) e), ne⟩
theorem fmod_lt {a : Int} {n : Nat} (h : 1 ≤ n) : ∃ r : Nat, r < n ∧ a.fmod (n : Int) = r := by
  have h1 : (0 : Int) < n := by omega
  have e : a.fmod (n : Int) = a % (n : Int) := Int.fmod_eq_emod_of_nonneg _ (by omega)
  have h2 := Int.emod_nonneg a (show (n : Int) ≠ 0 by omega)
  have h3 := Int.emod_lt_of_pos a h1
  exact ⟨(a % (n : Int)).toNat, by omega, by rw [e]; omega⟩
section
variable {P : Program} {w : World} {K : PySem.W.Frag} {mg : Str → Option Value} {base : Heap}
def spTaken (K : PySem.W.Frag) : Sp := fun vs H Q _ => ∃ r p ns, ∃ n : Nat, vs = [.ref r, .int n] ∧ 1 ≤ n ∧ n ≤ 100 ∧ RowI K H r p ns ∧ ∀ (t : Nat) H', t < n → Gw (lawB K) [r] H H' → RowI K H' r p ns → Q (.int t) H'
abbrev nTaken : List Str := ["_law_row", "_law_many", "_law_found", "_law_cell"]
theorem scTaken : FnScope nTaken ["_law_row", "_law_many"] (defScope sTaken) := ⟨rfl, rfl, rfl, by decide +kernel, rfl, by decide +kernel, by decide +kernel⟩
theorem ok_lawTaken (T : Tx K mg base) : Cal P w K mg base CX0 "_law_taken" 1 ["_law_row", "_law_many"] (spTaken K) := by
  refine T.cal (st := sTaken) 29 rfl T.gllaw_taken scTaken (fun _ _ _ _ _ _ us hl => match us, hl with | [_, _], _ => rfl) (fun vs H Q E h => ?_) (fun A outer s0 H vs Q E hr h => ?_)
  · obtain ⟨a, b, c, d, rfl, _⟩ := h
    rfl
  · obtain ⟨r, p, ns, n, rfl, n1, n2, ri, hQ⟩ := h
    refine ⟨_, PSs.nox (pss_cons (ps_if (pt_cmpR op_gt (pe_ix ix_listK (pv 0) pe_int (fun _ _ => rfl)) pe_int (nomark _)) (pss_cons (ps_set (i := 2) scTaken.nd rfl (.inl rfl) (pe_op op_modN (pe_callTy call_int1 rfl T.frint bInt (pa_cons (pe_ix ix_listK (pv 0) pe_int (fun _ _ => rfl)) pa_nil)) (pv 1)))
      (pss_cons (ps_asg (pe_op op_fdivW (pe_ix ix_listK (pv 0) pe_int (fun _ _ => rfl)) (pv 1)) (pg_sub (pv 0) pe_int set_list))
      (pss_one (ps_ret (pv 2))))) (pss_nil))
      (pss_cons (ps_asg (pe_op op_add (pe_ix ix_listK (pv 0) pe_int (fun _ _ => rfl)) pe_int) (pg_sub (pv 0) pe_int set_list))
      (pss_cons (ps_if (pt_cmpR op_gt (pe_ix ix_listK (pv 0) pe_int (fun _ _ => rfl)) (pe_callB cr_lenK rfl T.frlen bLen (pa_cons (pe_ix ix_listK (pv 0) pe_int (fun _ _ => rfl)) pa_nil)) (nomark _)) (pss_cons (ps_asg (pe_op op_modN (pe_callTy call_int1 rfl T.frint bInt (pa_cons (pe_op op_add (pe_op op_mulW (pe_ix ix_listK (pv 0) pe_int (fun _ _ => rfl)) pe_int) pe_int) pa_nil)) pe_int) (pg_sub (pv 0) pe_int set_list))
      (pss_one (ps_ret (pe_op op_modN (pe_callTy call_int1 rfl T.frint bInt (pa_cons (pe_op op_fdivW (pe_ix ix_listK (pv 0) pe_int (fun _ _ => rfl)) pe_int) pa_nil)) (pv 1))))) (pss_nil))
      (pss_cons (ps_set (i := 3) scTaken.nd rfl (.inl rfl) (pe_ix ix_listK (pe_ix ix_listK (pv 0) pe_int (fun _ _ => rfl)) (pe_op op_sub (pe_ix ix_listK (pv 0) pe_int (fun _ _ => rfl)) pe_int) (fun _ _ => rfl)))
      (pss_cons (ps_asg (pe_op op_modN (pe_callTy call_int1 rfl T.frint bInt (pa_cons (pe_op op_add (pe_op op_add (pe_op op_mulW (pe_ix ix_listK (pv 0) pe_int (fun _ _ => rfl)) pe_int) (pv 3)) pe_int) pa_nil)) pe_int) (pg_sub (pv 0) pe_int set_list))
      (pss_cons (ps_if (pt_cmpR op_ge (pv 3) (pe_op op_pow pe_int pe_int) (nomark _)) (pss_one (ps_asg (pe_op op_fdivW (pv 3) (pv 1)) (pg_sub (pv 0) pe_int set_list))) (pss_nil))
      (pss_one (ps_ret (pe_op op_modN (pe_callTy call_int1 rfl T.frint bInt (pa_cons (pv 3) pa_nil)) (pv 1)))))))))), ?_⟩
    obtain ⟨i, j, c, er, i0, j0, j1⟩ := ri.row
    have nz : (n : Int) ≠ 0 := by omega
    have cdv : ∀ x : Int, CDivW x (n : Int) := fun x => wide_div (b := 8) (by omega) (by rw [Int.natAbs_natCast]; omega) (by decide) (by decide)
    refine ⟨_, rfl, r, _, 3, _, rfl, rfl, .of er, atI_nat (j := 3) rfl, _, _, rfl, rfl, _, rfl, ?_⟩
    by_cases hc : (0 : Int) < c
    · rw [decide_eq_true hc]
      refine iteT ?_
      obtain ⟨t, ht, et⟩ := fmod_lt (a := c) n1
      refine ⟨_, rfl, r, _, 3, _, rfl, rfl, .of er, atI_nat (j := 3) rfl, .inl ⟨_, rfl, _, rfl, _, _, rfl, rfl, nz, ?_⟩⟩
      refine ⟨_, rfl, r, _, 3, _, rfl, rfl, .of er, atI_nat (j := 3) rfl, _, rfl, _, _, rfl, rfl, cdv _, ?_⟩
      refine ⟨_, rfl, r, _, 3, 3, rfl, rfl, er, rfl, ?_⟩
      refine ⟨_, rfl, ?_⟩
      refine vk (hQ t _ ht (Gw.lst er) (RowI.set (B := lawB K) ri.scr ri.ne er i0 j0 j1)) ?_
      show V.int (t : Int) = V.int (c.fmod n)
      rw [et]
    · rw [decide_eq_false hc]
      refine iteF ?_
      refine ⟨_, rfl, r, _, 1, _, rfl, rfl, .of er, atI_nat (j := 1) rfl, _, _, rfl, rfl, _, rfl, r, _, 1, 1, rfl, rfl, er, rfl, ?_⟩
      have g1 : Gw (lawB K) [r] H (upd H r (.lst [.ref p, .int (i + 1), .int j, .int c])) := .lst er
      have s1 := sq_keep ri.ne ri.scr g1
      refine ⟨_, rfl, r, _, 1, _, rfl, rfl, .of upd_same, atI_nat (j := 1) rfl, _, rfl, r, _, 0, _, rfl, rfl, .of upd_same, atI_nat (j := 0) rfl, p, _, rfl, .inl s1, _, _, rfl, rfl, _, rfl, ?_⟩
      have m48 : ∀ x : Int, 0 ≤ x → x < 2147483647 → CMulW x 48271 := fun x h1 h2 => wide_mul (a := 32) (b := 17) (by omega) (by decide) (by decide) (by decide) (by decide)
      have p47 : (2147483647 : Int) ≠ 0 := by decide
      obtain ⟨j2, hj2, ej2⟩ := fmod_lt (a := j * 48271 + 11) (n := 2147483647) (by decide)
      by_cases hl : ((ns.map V.int).length : Int) < i + 1
      · rw [decide_eq_true hl]
        refine iteT ?_
        refine ⟨_, rfl, r, _, 2, _, rfl, rfl, .of upd_same, atI_nat (j := 2) rfl, _, _, rfl, rfl, m48 j j0 j1, _, _, rfl, rfl, .inl ⟨_, rfl, _, _, rfl, rfl, p47, ?_⟩⟩
        refine ⟨_, rfl, r, _, 2, 2, rfl, rfl, upd_same, rfl, ?_⟩
        have g2 : Gw (lawB K) [r] H _ := g1.trans (.lst (ys := [.ref p, .int (i + 1), .int ((j * 48271 + 11).fmod 2147483647), .int c]) upd_same)
        obtain ⟨t, ht, et⟩ := fmod_lt (a := (j * 48271 + 11).fmod 2147483647 / 7) n1
        refine ⟨_, rfl, r, _, 2, _, rfl, rfl, .of upd_same, atI_nat (j := 2) rfl, _, _, rfl, rfl, wide_div (b := 8) (by decide) (by decide) (by decide) (by decide), .inl ⟨_, rfl, _, rfl, _, _, rfl, rfl, nz, ?_⟩⟩
        have ej3 : (j * 48271 + 11).fmod 2147483647 = (j2 : Int) := ej2
        refine vk (hQ t _ ht g2 (RowI.set (B := lawB K) s1 ri.ne upd_same (by omega) (by rw [ej3]; omega) (by rw [ej3]; omega))) ?_
        show V.int (t : Int) = V.int (((j * 48271 + 11).fmod 2147483647 / 7).fmod n)
        rw [et]
      · rw [decide_eq_false hl]
        refine iteF ?_
        rw [List.length_map] at hl
        obtain ⟨i', rfl⟩ := Int.eq_ofNat_of_zero_le i0
        have hi : i' < ns.length := by omega
        have ecell : (ns.map V.int)[i']? = some (.int ns[i']) := by
          rw [List.getElem?_map, List.getElem?_eq_getElem hi] <;> rfl
        generalize ns[i'] = cell at ecell
        have ecell2 : atI (ns.map V.int) ((i' : Int) + 1 - 1) = some (.int cell) := by
          rw [show (i' : Int) + 1 - 1 = (i' : Int) by omega]
          exact atI_nat ecell
        -- the cell
        refine ⟨_, rfl, r, _, 0, _, rfl, rfl, .of upd_same, atI_nat (j := 0) rfl, _, rfl, r, _, 1, _, rfl, rfl, .of upd_same, atI_nat (j := 1) rfl, _, _, rfl, rfl, p, _, _, .int cell, rfl, rfl, s1, ecell2, ?_⟩
        obtain ⟨j3, hj3, ej3⟩ := fmod_lt (a := j * 48271 + cell + 11) (n := 2147483647) (by decide)
        have ej3 : (j * 48271 + cell + 11).fmod 2147483647 = (j3 : Int) := ej3
        refine ⟨_, rfl, r, _, 2, _, rfl, rfl, .of upd_same, atI_nat (j := 2) rfl, _, _, rfl, rfl, m48 j j0 j1, _, rfl, _, _, rfl, rfl, _, _, rfl, rfl, .inl ⟨_, rfl, _, _, rfl, rfl, p47, ?_⟩⟩
        refine ⟨_, rfl, r, _, 2, 2, rfl, rfl, upd_same, rfl, ?_⟩
        have g2 : Gw (lawB K) [r] H _ := g1.trans (.lst (ys := [.ref p, .int ((i' : Int) + 1), .int ((j * 48271 + cell + 11).fmod 2147483647), .int c]) upd_same)
        have s2 := sq_keep ri.ne ri.scr g2
        obtain ⟨t, ht, et⟩ := fmod_lt (a := cell) n1
        have ee : V.int (t : Int) = V.int (cell.fmod n) := by rw [et]
        refine ⟨_, rfl, _, _, rfl, rfl, ⟨by decide, by decide, by decide⟩, _, _, rfl, rfl, _, rfl, ?_⟩
        by_cases hb : (10 : Int) ^ Int.toNat 18 ≤ cell
        · rw [decide_eq_true hb]
          refine iteT ?_
          refine ⟨_, rfl, _, rfl, _, _, rfl, rfl, cdv _, _, rfl, r, _, 3, 3, rfl, rfl, upd_same, rfl, ?_⟩
          refine ⟨_, rfl, .inl ⟨_, rfl, _, rfl, _, _, rfl, rfl, nz, ?_⟩⟩
          exact vk (hQ t _ ht (g2.trans (.lst (ys := [.ref p, .int ((i' : Int) + 1), .int ((j * 48271 + cell + 11).fmod 2147483647), .int (cell / n)]) upd_same)) (RowI.set (B := lawB K) s2 ri.ne upd_same (by omega) (by rw [ej3]; omega) (by rw [ej3]; omega))) ee
        · rw [decide_eq_false hb]
          refine iteF ?_
          refine ⟨_, rfl, .inl ⟨_, rfl, _, rfl, _, _, rfl, rfl, nz, ?_⟩⟩
          exact vk (hQ t _ ht g2 (RowI.set (B := lawB K) s1 ri.ne upd_same (by omega) (by rw [ej3]; omega) (by rw [ej3]; omega))) ee
/-! ### _law_alike -/
def spAlike (K : PySem.W.Frag) (pairs : Bool) : Sp := fun vs H Q _ => ∃ v1 v2, vs = [v1, v2] ∧ ((∃ a b : Int, v1 = .int a ∧ v2 = .int b ∧ ∀ H', Gw (lawB K) [] H H' → Q (.bl (decide (a = b))) H') ∨
  (pairs = true ∧ ∃ p q : Nat × Nat, NkV H (kP p) v1 ∧ NkV H (kP q) v2 ∧ ∀ H', Gw (lawB K) [] H H' → Q (.bl (decide (p = q))) H'))
abbrev nAlike : List Str := ["_law_found", "_law_due", "_law_k"]
theorem scAlike : FnScope nAlike ["_law_found", "_law_due"] (defScope sAlike) := ⟨rfl, rfl, rfl, by decide +kernel, rfl, by decide +kernel, by decide +kernel⟩
theorem kitTL {K : PySem.W.Frag} {t : String} {r : Bool} (h : (kitB t "tuple", kitB t "list") = (some r, some false) := by decide +kernel) : PySem.W.kitAny K (.type t) [.type "tuple", .type "list"] = some r := by
  have h1 : kitB t "tuple" = some r := congrArg Prod.fst h
  have h2 : kitB t "list" = some false := congrArg Prod.snd h
  unfold PySem.W.kitAny
  rw [kit_ty h1]
  cases r with
  | true => rfl
  | false =>
    show PySem.W.kitAny K _ _ = _
    unfold PySem.W.kitAny
    rw [kit_ty h2] <;> rfl
theorem paired2 : Paired ClsV [V.ty "tuple", V.ty "list"] [.type "tuple", .type "list"] := .cons (.ty _) (.cons (.ty _) .nil)
theorem ints_dp {K : PySem.W.Frag} {H : Hp} : ∀ {L : List Int}, DpAll K H (L.map V.int) (L.map PyData.int)
  | [] => .nil
  | x :: L => .cons (.int x) ints_dp
theorem ints_lay : ∀ {L : List Int}, PyData.canLayAll0 (L.map PyData.int) = true ∧ PyData.depthAll (L.map PyData.int) = 0
  | [] => ⟨rfl, rfl⟩
  | x :: L => by
    obtain ⟨h1, h2⟩ := ints_lay (L := L)
    refine ⟨?_, ?_⟩
    · show ((PyData.int x).canLay0 && PyData.canLayAll0 (L.map PyData.int)) = true
      rw [h1] <;> rfl
    · show max (PyData.int x).depth (PyData.depthAll (L.map PyData.int)) = 0
      rw [h2] <;> rfl
theorem ints_shaped {L : List Int} : SeqAt.shaped (.list (L.map PyData.int)) = true := by
  unfold SeqAt.shaped
  obtain ⟨h1, h2⟩ := ints_lay (L := L)
  show (PyData.canLayAll0 (L.map PyData.int) && decide (PyData.depthAll (L.map PyData.int) + 1 ≤ 64)) = true
  rw [h1, h2] <;> rfl
theorem ints_nil {L : List Int} : PyData.eqv (.list (L.map PyData.int)) (.list []) = decide (L = []) := by
  cases L with
  | nil => rfl
  | cons x L => rfl
/-- xs == [] -/
theorem a_nil {K : PySem.W.Frag} {H : Hp} {a b : Addr} {L : List Int} {Q : VK} (h1 : SqL K H a (L.map V.int)) (h2 : SqL K H b []) (q : Q (.bl (decide (L = []))) H) : rEqD K (.ref a) (.ref b) H Q :=
  ⟨.list (L.map PyData.int), .list [], .lst h1 ints_dp, .lst h2 .nil, ints_shaped, ints_shaped (L := []), by rw [ints_nil]; exact q⟩
theorem ok_alikeG (T : Tx K mg base) {pairs : Bool} {j : Nat} {spI : Sp} (inner : Cal P w K mg base CX0 "_law_alike" j ["_law_found", "_law_due"] spI) (hin : pairs = true → ∀ vs H Q E, spAlike K false vs H Q E → spI vs H Q E) :
    Cal P w K mg base CX0 "_law_alike" (j + 1) ["_law_found", "_law_due"] (spAlike K pairs) := by
  refine T.cal (st := sAlike) 30 rfl T.gllaw_alike scAlike (fun _ _ _ _ _ _ us hl => match us, hl with | [_, _], _ => rfl) (fun vs H Q E h => ?_) (fun A outer s0 H vs Q E hr h => ?_)
  · obtain ⟨a, b, rfl, _⟩ := h
    rfl
  · obtain ⟨v1, v2, rfl, h⟩ := h
    have hjk : j ≤ j := Nat.le_refl j
    refine ⟨_, PSs.nox (pss_cons (ps_if (pt_val (pe_callB cr_isiTK rfl T.frisinstance bIsi (pa_cons (pv 1) (pa_cons (pe_tup (pa_cons (pe_ty rfl T.frtuple bTuple) (pa_cons (pe_ty rfl T.frlist bList) pa_nil))) pa_nil)))) (pss_cons (ps_if (PW.pt (pw_or (pt_not (pt_val (pe_callB cr_isiTK rfl T.frisinstance bIsi (pa_cons (pv 0) (pa_cons (pe_tup (pa_cons (pe_ty rfl T.frtuple bTuple) (pa_cons (pe_ty rfl T.frlist bList) pa_nil))) pa_nil))))) (pw_or1 (pt_cmpR op_ne (pe_callB cr_isiK rfl T.frisinstance bIsi (pa_cons (pv 0) (pa_cons (pe_ty rfl T.frlist bList) pa_nil))) (pe_callB cr_isiK rfl T.frisinstance bIsi (pa_cons (pv 1) (pa_cons (pe_ty rfl T.frlist bList) pa_nil))) (nomark _))))) (pss_one (ps_ret pe_bl)) (pss_nil))
      (pss_cons (ps_if (pt_cmpR op_ne (pe_callB cr_lenK rfl T.frlen bLen (pa_cons (pv 0) pa_nil)) (pe_callB cr_lenK rfl T.frlen bLen (pa_cons (pv 1) pa_nil)) (nomark _)) (pss_one (ps_ret pe_bl)) (pss_nil))
      (pss_one (ps_ret (pe_cmpR (op_eqK hr.units) (pe_lc (own := [("_law_k", 2)]) (g := (gName 2)) rfl scAlike.nd (pi_range1 rfl T.frrange (pa_cons (pe_callB cr_lenK rfl T.frlen bLen (pa_cons (pv 1) pa_nil)) pa_nil)) (blkOk_by (N := nAlike) (sc := defScope sAlike) (by decide +kernel)) (fun _ _ _ _ _ => pg_name (i := 2) scAlike.nd rfl (.inl rfl) (.inr rfl)) (fun _ _ _ _ _ => pts_one (pt_not (pt_val (pe_cal inner hr rfl (pa_cons (pe_ix ix_tupK (pv 0) (pv 2) (fun _ _ => rfl)) (pa_cons (pe_ix ix_tupK (pv 1) (pv 2) (fun _ _ => rfl)) pa_nil)) hjk)))) (fun _ _ _ _ _ => pv 2)) (pe_lst pa_nil) (nomark _)))))) (pss_nil))
      (pss_cons (ps_if (PW.pt (pw_or (pt_cmpR op_isN (pv 1) pe_non (nomark _)) (pw_or1 (pt_val (pe_callB cr_isiK rfl T.frisinstance bIsi (pa_cons (pv 1) (pa_cons (pe_ty rfl T.frstr bStr) pa_nil))))))) (pss_one (ps_ret (pe_and (pe_cmpR op_eq (pv 0) (pv 1) (nomark _)) (pe_one (pe_cmpR op_eq (pe_callB cr_isiK rfl T.frisinstance bIsi (pa_cons (pv 0) (pa_cons (pe_ty rfl T.frstr bStr) pa_nil))) (pe_callB cr_isiK rfl T.frisinstance bIsi (pa_cons (pv 1) (pa_cons (pe_ty rfl T.frstr bStr) pa_nil))) (nomark _)))))) (pss_nil))
      (pss_one (ps_ret (pe_and (pe_callB cr_isiK rfl T.frisinstance bIsi (pa_cons (pv 0) (pa_cons (pe_ty rfl T.frint bInt) pa_nil))) (pe_and (pe_cmpR op_eq (pe_callB cr_isiK rfl T.frisinstance bIsi (pa_cons (pv 0) (pa_cons (pe_ty rfl T.frbool bBool) pa_nil))) (pe_callB cr_isiK rfl T.frisinstance bIsi (pa_cons (pv 1) (pa_cons (pe_ty rfl T.frbool bBool) pa_nil))) (nomark _)) (pe_one (pe_cmpR op_eq (pv 0) (pv 1) (nomark _))))))))), ?_⟩
    rcases h with ⟨a, b, rfl, rfl, hQ⟩ | ⟨hp, p, q, n1, n2, hQ⟩
    · refine ⟨_, rfl, by show 2 ≤ sizeLine; decide, fun t nt => ?_⟩
      refine ⟨_, t, _, _, _, _, rfl, upd_same, paired2, .base (.int b), kitTL (r := false), false, rfl, iteF ?_⟩
      refine ⟨_, rfl, rfl, false, rfl, iteF ⟨_, rfl, _, _, _, _, _, rfl, .ty _, .base (.int b), kit (r := false), false, rfl, iteF ?_⟩⟩
      refine ⟨_, rfl, _, _, _, _, _, rfl, .ty _, .base (.int a), kit (r := true), true, rfl, iteT ?_⟩
      refine ⟨_, rfl, _, _, _, _, _, rfl, .ty _, .base (.int a), kit (r := false), _, rfl, _, _, _, _, _, rfl, .ty _, .base (.int b), kit (r := false), rfl, true, rfl, iteT ?_⟩
      refine ⟨_, rfl, _, rfl, rfl, ?_⟩
      refine vk (hQ _ (.new nt)) (congrArg V.bl (decide_eq_decide.mpr ⟨fun z => by rw [z], fun z => by injection z⟩))
    · obtain ⟨x, xs, rfl, ex, y0, _, rfl, ny0, y1, _, rfl, ny1, rfl⟩ := n1
      obtain ⟨z, zs, rfl, ez, u0, _, rfl, nu0, u1, _, rfl, nu1, rfl⟩ := n2
      obtain rfl : y0 = .int p.1 := ny0
      obtain rfl : y1 = .int p.2 := ny1
      obtain rfl : u0 = .int q.1 := nu0
      obtain rfl : u1 = .int q.2 := nu1
      refine ⟨_, rfl, by show 2 ≤ sizeLine; decide, fun t nt => ?_⟩
      have g1 : Gw (lawB K) [] H (upd H t (.tup [.ty "tuple", .ty "list"])) := .new nt
      refine ⟨_, t, _, _, _, _, rfl, upd_same, paired2, .base (.tup (g1.tups _ _ ez)), kitTL (r := true), true, rfl, iteT ?_⟩
      refine ⟨_, rfl, by show 2 ≤ sizeLine; decide, fun t2 nt2 => ?_⟩
      have g2 := g1.add (o := .tup [.ty "tuple", .ty "list"]) nt2
      refine ⟨_, t2, _, _, _, _, rfl, upd_same, paired2, .base (.tup (g2.tups _ _ ex)), kitTL (r := true), true, rfl, iteF ?_⟩
      refine ⟨_, rfl, _, _, _, _, _, rfl, .ty _, .base (.tup (g2.tups _ _ ex)), kit (r := false), _, rfl, _, _, _, _, _, rfl, .ty _, .base (.tup (g2.tups _ _ ez)), kit (r := false), rfl, false, rfl, iteF ?_⟩
      refine ⟨_, rfl, x, _, rfl, .inr (.of (g2.tups _ _ ex)), _, rfl, z, _, rfl, .inr (.of (g2.tups _ _ ez)), rfl, false, rfl, iteF ?_⟩
      refine ⟨_, rfl, z, _, rfl, .inr (.of (g2.tups _ _ ez)), 2, rfl, by decide, by decide, fun D hD => ?_⟩
      refine lc_range (lo := 0) (n := 2) (fun i H' => ∃ L : List Int, H' D = some (.lst (L.map V.int)) ∧ (L = [] ↔ (0 < i → p.1 = q.1) ∧ (1 < i → p.2 = q.2)) ∧ L.length ≤ i ∧ Gw (lawB K) [] H H') ?_ (fun i H' hi hP => ?_) fun H' hP => ?_
      · exact ⟨[], upd_same, ⟨fun _ => ⟨fun z => (nomatch z), fun z => (nomatch z)⟩, fun _ => rfl⟩, Nat.le_refl _, g2.add hD⟩
      · obtain ⟨L, eD, hL, lL, g⟩ := hP
        refine ⟨wipe1, ?_⟩
        have go : ∀ (m n : Nat), [V.int p.1, V.int p.2][i]? = some (.int m) → [V.int q.1, V.int q.2][i]? = some (.int n) → (m = n ↔ ((i = 0 → p.1 = q.1) ∧ (i = 1 → p.2 = q.2))) → tNot (tTest (tCall spI [] E0 (tCons (tOp (rIxT K) (tVar 0) (tVar 2)) (tCons (tOp (rIxT K) (tVar 1) (tVar 2)) tNil)))) ((wipe (start nAlike [.ref x, .ref z]) [2]).set 2 (some (.int (0 + (i : Int))))) H' fun b H3 =>
            if b = true then tVar 2 ((wipe (start nAlike [.ref x, .ref z]) [2]).set 2 (some (.int (0 + (i : Int))))) H3 fun y H4 => ∃ acc, H4 D = some (.lst acc) ∧ acc.length < sizeLine ∧ ∃ L : List Int, upd H4 D (.lst (acc ++ [y])) D = some (.lst (L.map V.int)) ∧ (L = [] ↔ (0 < i + 1 → p.1 = q.1) ∧ (1 < i + 1 → p.2 = q.2)) ∧ L.length ≤ i + 1 ∧ Gw (lawB K) [] H (upd H4 D (.lst (acc ++ [y])))
            else ∃ L : List Int, H3 D = some (.lst (L.map V.int)) ∧ (L = [] ↔ (0 < i + 1 → p.1 = q.1) ∧ (1 < i + 1 → p.2 = q.2)) ∧ L.length ≤ i + 1 ∧ Gw (lawB K) [] H H3 := fun m n e1 e2 e3 => by
          refine ⟨_, rfl, _, rfl, _, _, _, _, rfl, rfl, .of (g.tups _ _ ex), by rw [Int.zero_add]; exact atI_nat e1, ?_⟩
          refine ⟨_, rfl, _, rfl, _, _, _, _, rfl, rfl, .of (g.tups _ _ ez), by rw [Int.zero_add]; exact atI_nat e2, ?_⟩
          refine hin hp _ _ _ _ ⟨_, _, rfl, .inl ⟨m, n, rfl, rfl, fun H3 g3 => ⟨_, rfl, ?_⟩⟩⟩
          have eD3 := g3.keep D _ (by simp) eD (fun _ z => nomatch z)
          by_cases hmn : m = n
          · rw [decide_eq_true (by rw [hmn])]
            refine iteF ⟨L, eD3, ?_, by omega, g.trans g3⟩
            obtain ⟨c1, c2⟩ := e3.mp hmn
            rw [hL]
            constructor
            · rintro ⟨h1, h2⟩
              refine ⟨fun _ => ?_, fun _ => ?_⟩
              · by_cases z : i = 0
                · exact c1 z
                · exact h1 (by omega)
              · by_cases z : i = 1
                · exact c2 z
                · exact h2 (by omega)
            · rintro ⟨h1, h2⟩
              exact ⟨fun _ => h1 (by omega), fun _ => h2 (by omega)⟩
          · rw [decide_eq_false fun z => hmn (by omega)]
            refine iteT ⟨_, rfl, _, eD3, by rw [sizeLine_eq]; simp; omega, L ++ [0 + (i : Int)], by rw [upd_same, List.map_append]; rfl, ?_, by rw [List.length_append]; exact Nat.succ_le_succ lL, (g.trans g3).put (.inl (g2.dom D hD)) eD3 .lst⟩
            refine ⟨fun z => (by simp at z), fun ⟨h1, h2⟩ => absurd (e3.mpr ⟨fun z => h1 (by omega), fun z => h2 (by omega)⟩) hmn⟩
        have i01 : i = 0 ∨ i = 1 := by omega
        rcases i01 with rfl | rfl
        · exact go p.1 q.1 rfl rfl ⟨fun e => ⟨fun _ => e, fun z => (nomatch z)⟩, fun h => h.1 rfl⟩
        · exact go p.2 q.2 rfl rfl ⟨fun e => ⟨fun z => (nomatch z), fun _ => e⟩, fun h => h.2 rfl⟩
      · obtain ⟨L, eD, hL, lL, g⟩ := hP
        refine ⟨by show 0 ≤ sizeLine; exact Nat.zero_le _, fun e he => ?_⟩
        have g3 := g.add (o := .lst []) he
        have eD3 : upd H' e (.lst []) D = some (.lst (L.map V.int)) := by
          rw [upd_ne (ne_of_none eD he)]
          exact eD
        refine a_nil (.of eD3) (.of upd_same) (vk (hQ _ g3) (congrArg V.bl (decide_eq_decide.mpr ?_)))
        rw [hL]
        exact ⟨fun h => by rw [h]; exact ⟨fun _ => rfl, fun _ => rfl⟩, fun ⟨h1, h2⟩ => Prod.ext (h1 (by decide)) (h2 (by decide))⟩
/-- a def, of arguments that are never given -/
theorem Tx.cal0 (T : Tx K mg base) {CX : CXT} {x : Str} {st : Stmt} {ps : List Str} {k : Nat} {sp : Sp} (i : Nat) (hd : fn[i]? = some (dd x st)) (hg : mg x = some (.ref (He.ga K x)))
    (hb : ∀ (kV doc pm : Value) (an : Option Addr) (cdv ct : Value) (us : List Value), us.length = ps.length → bindArgs (PySem.W.fnOf x x (defArgs st) (defBody st) (defScope st) .none kV doc pm an cdv ct) ⟨us, []⟩ = pure (ps.zip us))
    (no : ∀ vs H Q E, ¬ sp vs H Q E) : Cal P w K mg base CX x k ps sp := by
  obtain ⟨fd, F⟩ := T.sd.def_ i hd
  exact ⟨⟨fd, ⟨fun vs H Q E h => (no _ _ _ _ h).elim, fun A outer s H args us vs Q E _ _ _ _ h => (no _ _ _ _ h).elim⟩, FunD.bindsN F hb⟩, hg, F.kp⟩
theorem ok_lawAlike0 (T : Tx K mg base) : Cal P w K mg base CX0 "_law_alike" 2 ["_law_found", "_law_due"] (spAlike K false) :=
  ok_alikeG T (spI := fun _ _ _ _ => False) (T.cal0 (st := sAlike) 30 rfl T.gllaw_alike (fun _ _ _ _ _ _ us hl => match us, hl with | [_, _], _ => rfl) fun _ _ _ _ h => h) fun h => nomatch h
theorem ok_lawAlike (T : Tx K mg base) : Cal P w K mg base CX0 "_law_alike" 3 ["_law_found", "_law_due"] (spAlike K true) := ok_alikeG T (ok_lawAlike0 T) fun _ _ _ _ _ h => h
end
end Dy
end
section
set_option Elab.async false
set_option linter.all false
set_option maxRecDepth 100000
set_option maxHeartbeats 4000000
set_option pp.maxSteps 1500
/-! _law_lot, _law_works. -/
namespace Dy
open PySem PySem.Spec PyProof.Rows L2
section
variable {P : Program} {w : World} {K : PySem.W.Frag} {mg : Str → Option Value} {base : Heap}
def spLLot (K : PySem.W.Frag) : Sp := fun vs H Q _ => ∃ r p ns, ∃ n : Nat, vs = [.ref r, .int n] ∧ n ≤ 20 ∧ RowI K H r p ns ∧ ∀ xs v H', LotOk n xs → Gw (lawB K) [r] H H' → RowI K H' r p ns → NkV H' (kI xs) v → Q v H'
abbrev nLLot : List Str := ["_law_row", "_law_many", "_law_k"]
theorem scLLot : FnScope nLLot ["_law_row", "_law_many"] (defScope sLot) := ⟨rfl, rfl, rfl, by decide +kernel, rfl, by decide +kernel, by decide +kernel⟩
/-- picked numbers of a range, so far -/
structure Pick (K : PySem.W.Frag) (H : Hp) (H' : Hp) (r p : Addr) (ns : List Int) (D : Addr) (n : Nat) (L : List Int) : Prop where
  lst : H' D = some (.lst (L.map V.int))
  lot : LotOk n L
  len : L.length ≤ n
  gw : Gw (lawB K) [r] H H'
  row : RowI K H' r p ns
theorem lot_snoc {n : Nat} {L : List Int} (h : LotOk n L) : LotOk (n + 1) (L ++ [(n : Int)]) := by
  refine ⟨List.pairwise_append.mpr ⟨h.up, List.pairwise_singleton _ _, fun a ha b hb => ?_⟩, fun x hx => ?_, fun x hx => ?_⟩
  · rw [List.mem_singleton.mp hb]
    exact h.hi a ha
  · rcases List.mem_append.mp hx with z | z
    · exact h.lo x z
    · rw [List.mem_singleton.mp z]
      omega
  · rcases List.mem_append.mp hx with z | z
    · have := h.hi x z
      omega
    · rw [List.mem_singleton.mp z]
      omega
theorem lot_up {n m : Nat} {L : List Int} (h : LotOk n L) (hm : n ≤ m) : LotOk m L := ⟨h.up, h.lo, fun x hx => by have := h.hi x hx; omega⟩
/-- the reading of [k for k in range(n) if taken(row, m) == 0] -/
theorem pick_lc {r p : Addr} {ns : List Int} {mi : Int} {σ : L2.St} {H : Hp} {Qd : Hp → Prop} {D : Addr} (m n s : Nat) (hmi : mi = (m : Int)) (hs : s ≠ 0) (hl : s < σ.length) (h0 : σ[0]? = some (some (.ref r))) (m1 : 1 ≤ m) (m2 : m ≤ 100) (n2 : n ≤ 20) (ri : RowI K H r p ns) (hD : H D = none) (hQ : ∀ L H', Pick K H H' r p ns D n L → Qd H') :
    ∃ W : Nat → Nat → Hp → Prop, (∃ k, W 0 k (upd H D (.lst []))) ∧ ∀ i k H', W i k H' →
      ((Itr 0 n).stop i H' ∧ Qd H') ∨ ((Itr 0 n).go i H' ∧ ∃ Nx : Hp → Prop, (∀ H'', Nx H'' → ∃ k', k' < k ∧ W (i + 1) k' H'') ∧ ∀ x H'', (Itr 0 n).yld i H' x H'' → (gName s) x (wipe σ [s]) H'' fun σ2 H2 => wipe σ2 [s] = wipe σ [s] ∧ (tTest (tOp rEq (tCall (spTaken K) [] E0 (tCons (tVar 0) (tCons (tC (.int mi)) tNil))) (tC (.int 0)))) σ2 H2 fun b H3 =>
        if b = true then (tVar s) σ2 H3 fun y H4 => ∃ acc, H4 D = some (.lst acc) ∧ acc.length < sizeLine ∧ Nx (upd H4 D (.lst (acc ++ [y]))) else Nx H3) := by
  subst hmi
  have Dr : D ≠ r := fun z => by
    obtain ⟨_, _, _, e, _⟩ := ri.row
    rw [z, e] at hD
    cases hD
  refine lc_range (lo := 0) (n := n) (fun i H' => i ≤ n ∧ ∃ L, Pick K H H' r p ns D i L) ?_ (fun i H' hi hP => ?_) fun H' hP => ?_
  · have g : Gw (lawB K) [] H (upd H D (.lst [])) := .new hD
    refine ⟨Nat.zero_le _, [], upd_same, lot_nil, Nat.le_refl _, g.weak fun b hb => (nomatch hb), ri.put hD ri (g.weak fun b hb => (nomatch hb))⟩
  · obtain ⟨_, L, pk⟩ := hP
    refine ⟨wipe1, ?_⟩
    have z0 : ((wipe σ [s]).set s (some (.int (0 + (i : Int)))))[0]? = some (some (.ref r)) := by
      show ((σ.set s none).set s _)[0]? = _
      rw [List.getElem?_set_ne hs, List.getElem?_set_ne hs]
      exact h0
    have zs : ((wipe σ [s]).set s (some (.int (0 + (i : Int)))))[s]? = some (some (.int (0 + (i : Int)))) := by
      show ((σ.set s none).set s _)[s]? = _
      rw [List.getElem?_set_self (by rw [List.length_set]; exact hl)]
    refine ⟨_, z0, _, _, _, m, rfl, m1, m2, pk.row, fun t H2 ht g2 r2 => ⟨rfl, _, rfl, ?_⟩⟩
    have e2 := g2.keep D _ (by simpa using Dr) pk.lst (fun _ z => nomatch z)
    by_cases hz : V.int (t : Int) = V.int 0
    · rw [decide_eq_true hz]
      have lL := pk.len
      have g3 : Gw (lawB K) [D] H2 (upd H2 D (.lst (L.map V.int ++ [.int (0 + (i : Int))]))) := .lst e2
      refine iteT ⟨_, zs, _, e2, by rw [sizeLine_eq]; simp; omega, hi, L ++ [(i : Int)], ?_, lot_snoc pk.lot, by rw [List.length_append]; exact Nat.succ_le_succ lL, (pk.gw.trans g2).put (.inl hD) e2 .lst, ri.put hD r2 g3⟩
      rw [upd_same, List.map_append, Int.zero_add]
      rfl
    · rw [decide_eq_false hz]
      exact iteF ⟨hi, L, e2, lot_up pk.lot (Nat.le_succ i), by have := pk.len; omega, pk.gw.trans g2, r2⟩
  · obtain ⟨_, L, pk⟩ := hP
    exact hQ L H' pk
theorem ok_lawLot (T : Tx K mg base) : Cal P w K mg base CX0 "_law_lot" 2 ["_law_row", "_law_many"] (spLLot K) := by
  refine T.cal (st := sLot) 31 rfl T.gllaw_lot scLLot (fun _ _ _ _ _ _ us hl => match us, hl with | [_, _], _ => rfl) (fun vs H Q E h => ?_) (fun A outer s0 H vs Q E hr h => ?_)
  · obtain ⟨a, b, c, d, rfl, _⟩ := h
    rfl
  · obtain ⟨r, p, ns, n, rfl, n2, ri, hQ⟩ := h
    refine ⟨_, PSs.nox (pss_one (ps_ret (pe_callTy cr_tupleK rfl T.frtuple bTuple (pa_cons (pe_lc (own := [("_law_k", 2)]) (g := (gName 2)) rfl scLLot.nd (pi_range1 rfl T.frrange (pa_cons (pv 1) pa_nil)) (blkOk_by (N := nLLot) (sc := defScope sLot) (by decide +kernel)) (fun _ _ _ _ _ => pg_name (i := 2) scLLot.nd rfl (.inl rfl) (.inr rfl)) (fun _ _ _ _ _ => pts_one (pt_cmpR op_eq (pe_cal (ok_lawTaken T) hr rfl (pa_cons (pv 0) (pa_cons pe_int pa_nil))) pe_int (nomark _))) (fun _ _ _ _ _ => pv 2)) pa_nil)))), ?_⟩
    refine ⟨_, rfl, n, rfl, by omega, by omega, fun D hD => pick_lc (σ := start nLLot [.ref r, .int n]) 2 n 2 rfl (by decide) (show 2 < 3 by decide) rfl (by decide) (by decide) n2 ri hD fun L H' pk => ?_⟩
    refine ⟨D, _, rfl, .inl ⟨.of pk.lst, fun t nt => ?_⟩⟩
    have g : Gw (lawB K) [] H' (upd H' t (.tup (L.map V.int))) := .new nt
    exact hQ L _ _ pk.lot (pk.gw.trans (g.weak fun b hb => (nomatch hb))) (pk.row.gw g (by simp) (by simp)) ⟨t, _, rfl, upd_same, NkAll.nums.mpr rfl⟩
/-- the reading of [taken(row, n) for j in range(c)] -/
theorem rows_lc {r p : Addr} {ns : List Int} {σ : L2.St} {H : Hp} {Qd : Hp → Prop} {D : Addr} (c n s : Nat) (hs : s ≠ 0) (hs4 : s ≠ 4) (h0 : σ[0]? = some (some (.ref r))) (h4 : σ[4]? = some (some (.int n))) (c2 : c ≤ 100) (n1 : 1 ≤ n) (n2 : n ≤ 100) (ri : RowI K H r p ns) (hD : H D = none)
    (hQ : ∀ (L : List Nat) H', H' D = some (.lst ((natI L).map V.int)) → L.length = c → (∀ y ∈ L, y < n) → Gw (lawB K) [r] H H' → RowI K H' r p ns → Qd H') :
    ∃ W : Nat → Nat → Hp → Prop, (∃ k, W 0 k (upd H D (.lst []))) ∧ ∀ i k H', W i k H' →
      ((Itr 0 c).stop i H' ∧ Qd H') ∨ ((Itr 0 c).go i H' ∧ ∃ Nx : Hp → Prop, (∀ H'', Nx H'' → ∃ k', k' < k ∧ W (i + 1) k' H'') ∧ ∀ x H'', (Itr 0 c).yld i H' x H'' → (gName s) x (wipe σ [s]) H'' fun σ2 H2 => wipe σ2 [s] = wipe σ [s] ∧ tYes σ2 H2 fun b H3 =>
        if b = true then (tCall (spTaken K) [] E0 (tCons (tVar 0) (tCons (tVar 4) tNil))) σ2 H3 fun y H4 => ∃ acc, H4 D = some (.lst acc) ∧ acc.length < sizeLine ∧ Nx (upd H4 D (.lst (acc ++ [y]))) else Nx H3) := by
  have D2r : D ≠ r := fun z => by
    obtain ⟨_, _, _, e, _⟩ := ri.row
    rw [z, e] at hD
    cases hD
  refine lc_range (lo := 0) (n := c) (fun l H' => l ≤ c ∧ ∃ L : List Nat, H' D = some (.lst ((natI L).map V.int)) ∧ L.length = l ∧ (∀ y ∈ L, y < n) ∧ Gw (lawB K) [r] H H' ∧ RowI K H' r p ns) ?_ (fun l H11 hl hP => ?_) fun H11 hP => ?_
  · have g : Gw (lawB K) [] H (upd H D (.lst [])) := .new hD
    exact ⟨Nat.zero_le _, [], upd_same, rfl, fun x hx => (nomatch hx), g.weak fun b hb => (nomatch hb), ri.put hD ri (g.weak fun b hb => (nomatch hb))⟩
  · obtain ⟨_, L, eD2, lL, okL, g11, ri11⟩ := hP
    refine ⟨wipe1, ?_⟩
    have z0 : ((wipe σ [s]).set s (some (.int (0 + (l : Int)))))[0]? = some (some (.ref r)) := by
      show ((σ.set s none).set s _)[0]? = _
      rw [List.getElem?_set_ne hs, List.getElem?_set_ne hs]
      exact h0
    have z4 : ((wipe σ [s]).set s (some (.int (0 + (l : Int)))))[4]? = some (some (.int n)) := by
      show ((σ.set s none).set s _)[4]? = _
      rw [List.getElem?_set_ne hs4, List.getElem?_set_ne hs4]
      exact h4
    unfold tYes
    refine iteT ?_
    refine ⟨_, z0, _, z4, r, p, ns, n, rfl, n1, n2, ri11, fun t6 H12 h12 g12 ri12 => ?_⟩
    have e12 := g12.keep D _ (by simpa using D2r) eD2 (fun _ z => nomatch z)
    refine ⟨_, e12, by rw [sizeLine_eq]; unfold natI; simp; omega, hl, L ++ [t6], ?_, by rw [List.length_append, lL]; rfl, fun y hy => ?_, (g11.trans g12).put (.inl hD) e12 .lst, ri.put hD ri12 (Gw.lst (B := lawB K) e12)⟩
    · rw [upd_same]
      unfold natI
      rw [List.map_append, List.map_append]
      rfl
    · rcases List.mem_append.mp hy with z | z
      · exact okL y z
      · rw [List.mem_singleton.mp z]
        exact h12
  · obtain ⟨_, L, eD2, lL, okL, g11, ri11⟩ := hP
    exact hQ L H11 eD2 lL okL g11 ri11
/-! ### _law_works -/
abbrev nLWorks : List Str := ["_law_row", "_law_most_vats", "_law_most_routes", "_law_dyes", "_law_many", "_law_vats", "_law_kinds", "_law_k", "_law_routes", "_law_wants", "_law_bars", "_law_own", "_law_vat", "_law_kind", "_law_j", "_law_r", "_law_dye"]
theorem scLWorks : FnScope nLWorks ["_law_row", "_law_most_vats", "_law_most_routes"] (defScope sWorks) := ⟨rfl, rfl, rfl, by decide +kernel, rfl, by decide +kernel, by decide +kernel⟩
def scRoutesIn : Scope := match defBody sWorks with
  | [_, _, .For _ _ (.Assign _ (.Call _ [.ListComp _ _ sc _] _ _) _ :: _) _ _, _] => sc
  | _ => defScope sWorks
/-- a scope of a comprehension, as it stands in a def's own -/
def relE (sc : Scope) : Env := { scope := sc, locals := 0, globals := 0, cells := [], qual := "", func := none, code := .none, frame := none, builtins := 0 }
def scRoutesR : Scope := relabel scRoutesIn (relE (defScope sWorks))
/-- the reading of [x for x in t if x in own], .. not in own -/
theorem filt_lc {B a o : Addr} {WL OL : List Int} {neg : Bool} {σ : L2.St} {H : Hp} {Qd : Hp → Prop} {D : Addr} (s so : Nat) (hs : s ≠ so) (hl : s < σ.length) (h0 : σ[so]? = some (some (.ref o))) (ha : H a = some (.tup (WL.map V.int))) (ho : H o = some (.lst (OL.map V.int))) (hD : H D = none) (hw : WL.length ≤ 1000)
    (hQ : ∀ H', H' D = some (.lst ((WL.filter fun x => if neg then !OL.contains x else OL.contains x).map V.int)) → Gw B [] H H' → Qd H') :
    ∃ W : Nat → Nat → Hp → Prop, (∃ m, W 0 m (upd H D (.lst []))) ∧ ∀ i m H, W i m H →
      ((Itt K a).stop i H ∧ Qd H) ∨ ((Itt K a).go i H ∧ ∃ Nx : Hp → Prop, (∀ H', Nx H' → ∃ m', m' < m ∧ W (i + 1) m' H') ∧ ∀ x H', (Itt K a).yld i H x H' → (gName s) x (wipe σ [s]) H' fun σ2 H2 => wipe σ2 [s] = wipe σ [s] ∧ (tTest (tOp (rIn K neg) (tVar s) (tVar so))) σ2 H2 fun b H3 =>
        if b = true then (tVar s) σ2 H3 fun y H4 => ∃ acc, H4 D = some (.lst acc) ∧ acc.length < sizeLine ∧ Nx (upd H4 D (.lst (acc ++ [y]))) else Nx H3) := by
  have oD : o ≠ D := ne_of_none ho hD
  refine lc_tup (xs := WL.map V.int) (fun i H' => H' D = some (.lst (((WL.take i).filter fun x => if neg then !OL.contains x else OL.contains x).map V.int)) ∧ Gw B [] H H') ?_ (fun i H' _ hP => ?_) (fun i x H' hx hP => ?_) fun H' hP => ?_
  · exact ⟨upd_same, .new hD⟩
  · exact .of (hP.2.tups _ _ ha)
  · obtain ⟨eD, g⟩ := hP
    refine ⟨wipe1, ?_⟩
    rw [List.getElem?_map] at hx
    obtain ⟨y, ey, rfl⟩ := Option.map_eq_some_iff.mp hx
    have z0 : ((wipe σ [s]).set s (some (.int y)))[so]? = some (some (.ref o)) := by
      show ((σ.set s none).set s _)[so]? = _
      rw [List.getElem?_set_ne hs, List.getElem?_set_ne hs]
      exact h0
    have zs : ((wipe σ [s]).set s (some (.int y)))[s]? = some (some (.int y)) := by
      show ((σ.set s none).set s _)[s]? = _
      rw [List.getElem?_set_self (by rw [List.length_set]; exact hl)]
    have eo := g.keep o _ (by simp) ho (fun _ z => nomatch z)
    have et : WL.take (i + 1) = WL.take i ++ [y] := by rw [List.take_add_one, ey] <;> rfl
    have ll : ((WL.take i).filter fun x => if neg then !OL.contains x else OL.contains x).length ≤ 1000 := Nat.le_trans (List.length_filter_le _ _) (Nat.le_trans (by rw [List.length_take]; exact Nat.min_le_right _ _) hw)
    refine ⟨_, zs, _, z0, o, _, rfl, .inl (.of eo), rfl, flat_ints, _, rfl, ?_⟩
    rw [inV_int, et]
    cases e : (if neg = true then !OL.contains y else OL.contains y) with
    | true =>
      refine iteT ⟨_, zs, _, eD, by rw [sizeLine_eq, List.length_map]; omega, ?_, g.put (.inl hD) eD .lst⟩
      rw [upd_same, List.filter_append, List.map_append]
      rw [show [y].filter (fun x => if neg then !OL.contains x else OL.contains x) = [y] by rw [List.filter_cons, e]; rfl]
      rfl
    | false =>
      refine iteF ⟨?_, g⟩
      rw [eD, List.filter_append, show [y].filter (fun x => if neg then !OL.contains x else OL.contains x) = [] by rw [List.filter_cons, e]; rfl, List.append_nil]
  · obtain ⟨eD, g⟩ := hP
    rw [List.length_map, List.take_length] at eD
    exact hQ H' eD g
theorem lot_filter {d : Nat} {xs : List Int} (h : LotOk d xs) (f : Int → Bool) : LotOk d (xs.filter f) := ⟨h.up.filter _, fun x hx => h.lo x (List.mem_filter.mp hx).1, fun x hx => h.hi x (List.mem_filter.mp hx).1⟩
def spLWorks (K : PySem.W.Frag) : Sp := fun vs H Q _ => ∃ r p ns, vs = [.ref r, .int 3, .int 2] ∧ RowI K H r p ns ∧ ∀ wk v H', WksOk wk → Gw (lawB K) [r] H H' → RowI K H' r p ns → NkV H' (Wks.key wk) v → Q v H'
theorem ok_lawWorks (T : Tx K mg base) : Cal P w K mg base CX0 "_law_works" 3 ["_law_row", "_law_most_vats", "_law_most_routes"] (spLWorks K) := by
  refine T.cal (st := sWorks) 32 rfl T.gllaw_works scLWorks (fun _ _ _ _ _ _ us hl => match us, hl with | [_, _, _], _ => rfl) (fun vs H Q E h => ?_) (fun A outer s0 H vs Q E hr h => ?_)
  · obtain ⟨a, b, c, rfl, _⟩ := h
    rfl
  · obtain ⟨r, p, ns, rfl, ri, hQ⟩ := h
    refine ⟨_, PSs.nox (pss_cons (ps_asg (pe_tup (pa_cons (pe_op op_add pe_int (pe_cal (ok_lawTaken T) hr rfl (pa_cons (pv 0) (pa_cons pe_int pa_nil)))) (pa_cons (pe_op op_add pe_int (pe_cal (ok_lawTaken T) hr rfl (pa_cons (pv 0) (pa_cons (pv 1) pa_nil)))) pa_nil))) (pg_tupK (n := 2) rfl (pgs_cons (pg_name (i := 3) scLWorks.nd rfl (.inr rfl)) (pgs_cons (pg_name (i := 4) scLWorks.nd rfl (.inr rfl)) pgs_nil))))
      (pss_cons (ps_par (i := 5) (j := 6) rfl scLWorks.nd rfl rfl (by decide) rfl rfl (pa_cons (pe_callTy cr_tupleK rfl T.frtuple bTuple (pa_cons (pe_lc (own := [("_law_k", 7)]) (g := (gName 7)) rfl scLWorks.nd (pi_range1 rfl T.frrange (pa_cons (pv 4) pa_nil)) (blkOk_by (N := nLWorks) (sc := defScope sWorks) (by decide +kernel)) (fun _ _ _ _ _ => pg_name (i := 7) scLWorks.nd rfl (.inl rfl) (.inr rfl)) (fun _ _ _ _ _ => pts_nil) (fun _ _ _ _ _ => pe_cal (ok_lawLot T) hr rfl (pa_cons (pv 0) (pa_cons (pv 3) pa_nil)))) pa_nil)) (pa_cons (pe_lst pa_nil) pa_nil)) rfl)
      (pss_cons (ps_for PassesOwn.never rfl (pi_range1 rfl T.frrange (pa_cons (pe_op op_add pe_int (pe_cal (ok_lawTaken T) hr rfl (pa_cons (pv 0) (pa_cons pe_int pa_nil)))) pa_nil)) (pg_name (i := 7) scLWorks.nd rfl (.inl rfl)) (pss_cons (ps_set (i := 8) scLWorks.nd rfl (.inl rfl) (pe_callTy cr_tupleK rfl T.frtuple bTuple (pa_cons (pe_lc (own := [("_law_r", 15)]) (g := (gName 15)) rfl scLWorks.nd (pi_range1 rfl T.frrange (pa_cons (pe_op op_add pe_int (pe_cal (ok_lawTaken T) hr rfl (pa_cons (pv 0) (pa_cons (pv 2) pa_nil)))) pa_nil)) (blkOk_by (N := nLWorks) (sc := defScope sWorks) (by decide +kernel)) (fun _ _ _ _ _ => pg_name (i := 15) scLWorks.nd rfl (.inl rfl) (.inr rfl)) (fun _ _ _ _ _ => pts_nil) (fun _ _ _ _ _ => pe_callTy cr_tupleK rfl T.frtuple bTuple (pa_cons (pe_lc (own := [("_law_j", 14)]) (g := (gName 14)) rfl scLWorks.nd (pi_range1 rfl T.frrange (pa_cons (pe_op op_add pe_int (pe_cal (ok_lawTaken T) hr rfl (pa_cons (pv 0) (pa_cons pe_int pa_nil)))) pa_nil)) (blkOk_by (N := nLWorks) (sc := scRoutesR) (by decide +kernel)) (fun _ _ _ _ _ => pg_name (i := 14) scLWorks.nd rfl (.inl rfl) (.inr rfl)) (fun _ _ _ _ _ => pts_nil) (fun _ _ _ _ _ => pe_cal (ok_lawTaken T) hr rfl (pa_cons (pv 0) (pa_cons (pv 4) pa_nil)))) pa_nil))) pa_nil)))
      (pss_cons (ps_set (i := 9) scLWorks.nd rfl (.inl rfl) (pe_callTy cr_tupleK rfl T.frtuple bTuple (pa_cons (pe_lc (own := [("_law_dye", 16)]) (g := (gName 16)) rfl scLWorks.nd (pi_range1 rfl T.frrange (pa_cons (pv 3) pa_nil)) (blkOk_by (N := nLWorks) (sc := defScope sWorks) (by decide +kernel)) (fun _ _ _ _ _ => pg_name (i := 16) scLWorks.nd rfl (.inl rfl) (.inr rfl)) (fun _ _ _ _ _ => pts_one (pt_cmpR op_eq (pe_cal (ok_lawTaken T) hr rfl (pa_cons (pv 0) (pa_cons pe_int pa_nil))) pe_int (nomark _))) (fun _ _ _ _ _ => pv 16)) pa_nil)))
      (pss_cons (ps_set (i := 10) scLWorks.nd rfl (.inl rfl) (pe_callTy cr_tupleK rfl T.frtuple bTuple (pa_cons (pe_lc (own := [("_law_dye", 16)]) (g := (gName 16)) rfl scLWorks.nd (pi_range1 rfl T.frrange (pa_cons (pv 3) pa_nil)) (blkOk_by (N := nLWorks) (sc := defScope sWorks) (by decide +kernel)) (fun _ _ _ _ _ => pg_name (i := 16) scLWorks.nd rfl (.inl rfl) (.inr rfl)) (fun _ _ _ _ _ => pts_one (pt_cmpR op_eq (pe_cal (ok_lawTaken T) hr rfl (pa_cons (pv 0) (pa_cons pe_int pa_nil))) pe_int (nomark _))) (fun _ _ _ _ _ => pv 16)) pa_nil)))
      (pss_cons (ps_set (i := 11) scLWorks.nd rfl (.inr rfl) (pe_lst pa_nil))
      (pss_cons (ps_for PassesOwn.never rfl (pi_tupK (pe_ix ix_tupK (pv 8) pe_int (fun _ _ => rfl))) (pg_name (i := 12) scLWorks.nd rfl (.inl rfl)) (pss_one (ps_set (i := 11) scLWorks.nd rfl (.inr rfl) (pe_op op_cat (pv 11) (pe_callTy cr_listK rfl T.frlist bList (pa_cons (pe_ix ix_tupK (pv 5) (pv 12) (fun _ _ => rfl)) pa_nil))))))
      (pss_cons (ps_set (i := 13) scLWorks.nd rfl (.inl rfl) (pe_cal (ok_lawTaken T) hr rfl (pa_cons (pv 0) (pa_cons pe_int pa_nil))))
      (pss_cons (ps_if (pt_cmpR op_gt (pv 13) pe_int (nomark _)) (pss_one (ps_par (i := 9) (j := 10) rfl scLWorks.nd rfl rfl (by decide) rfl rfl (pa_cons (pe_callTy cr_tupleK rfl T.frtuple bTuple (pa_cons (pe_lc (own := [("_law_dye", 16)]) (g := (gName 16)) rfl scLWorks.nd (pi_tupK (pv 9)) (blkOk_by (N := nLWorks) (sc := defScope sWorks) (by decide +kernel)) (fun _ _ _ _ _ => pg_name (i := 16) scLWorks.nd rfl (.inl rfl) (.inr rfl)) (fun _ _ _ _ _ => pts_one (pt_cmpR op_inK (pv 16) (pv 11) rfl)) (fun _ _ _ _ _ => pv 16)) pa_nil)) (pa_cons (pe_callTy cr_tupleK rfl T.frtuple bTuple (pa_cons (pe_lc (own := [("_law_dye", 16)]) (g := (gName 16)) rfl scLWorks.nd (pi_tupK (pv 10)) (blkOk_by (N := nLWorks) (sc := defScope sWorks) (by decide +kernel)) (fun _ _ _ _ _ => pg_name (i := 16) scLWorks.nd rfl (.inl rfl) (.inr rfl)) (fun _ _ _ _ _ => pts_one (pt_cmpR op_notInK (pv 16) (pv 11) rfl)) (fun _ _ _ _ _ => pv 16)) pa_nil)) pa_nil)) rfl)) (pss_nil))
      (pss_one (ps_expr (pe_bm PySem.F.plainAttrs_list PySem.F.slot_list_append PySem.F.type_list_append mt_append (pv 6) (pa_cons (pe_tup (pa_cons (pv 9) (pa_cons (pv 10) (pa_cons (pv 8) pa_nil)))) pa_nil))))))))))))
      (pss_one (ps_ret (pe_tup (pa_cons (pv 3) (pa_cons (pv 5) (pa_cons (pe_callTy cr_tupleK rfl T.frtuple bTuple (pa_cons (pv 6) pa_nil)) pa_nil))))))))), ?_⟩
    have gone : ∀ {D : Addr} {H1 : Hp}, Gw (lawB K) [r] H H1 → H1 D = none → H D = none := fun g h => g.dom _ h
    -- dyes, many
    refine ⟨_, rfl, r, p, ns, 3, rfl, by decide, by decide, ri, fun t1 H1 h1 g1 r1 => ⟨_, _, rfl, rfl, ?_⟩⟩
    refine ⟨_, rfl, _, rfl, r, p, ns, 3, rfl, by decide, by decide, r1, fun t2 H2 h2 g2 r2 => ⟨_, _, rfl, rfl, by show 2 ≤ sizeLine; decide, fun q nq => ?_⟩⟩
    obtain ⟨d, hd⟩ : ∃ d : Nat, d = 1 + t1 := ⟨_, rfl⟩
    obtain ⟨n, hn⟩ : ∃ n : Nat, n = 1 + t2 := ⟨_, rfl⟩
    have ed : (1 : Int) + (t1 : Int) = (d : Int) := by omega
    have en : (1 : Int) + (t2 : Int) = (n : Int) := by omega
    show gTup K 2 _ _ _ (upd H2 q (.tup [.int ((1 : Int) + (t1 : Int)), .int ((1 : Int) + (t2 : Int))])) _
    rw [ed, en]
    have g3 : Gw (lawB K) [] H2 (upd H2 q (.tup [.int d, .int n])) := .new nq
    have gw3 : Gw (lawB K) [r] H (upd H2 q (.tup [.int d, .int n])) := (g1.trans g2).trans (g3.weak fun b hb => (nomatch hb))
    have ri3 : RowI K (upd H2 q (.tup [.int d, .int n])) r p ns := r2.put nq r2 (g3.weak fun b hb => (nomatch hb))
    refine ⟨q, _, rfl, .of upd_same, rfl, _, _, rfl, _, _, rfl, rfl, ?_⟩
    generalize upd H2 q (.tup [.int d, .int n]) = H3 at gw3 ri3
    clear g3 g1 g2 r1 r2 nq
    -- vats
    refine ⟨_, rfl, n, rfl, by omega, by omega, fun D hD => ?_⟩
    have Dr : D ≠ r := fun z => by
      obtain ⟨_, _, _, e, _⟩ := ri3.row
      rw [z, e] at hD
      cases hD
    refine lc_range (lo := 0) (n := n) (fun i H' => i ≤ n ∧ ∃ (VL : List (List Int)) (vs : List V), H' D = some (.lst vs) ∧ NkAll H' (VL.map kI) vs ∧ VL.length = i ∧ (∀ x ∈ VL, LotOk d x) ∧ Gw (lawB K) [r] H H' ∧ RowI K H' r p ns) ?_ (fun i H4 hi hP => ?_) fun H4 hP => ?_
    · have g : Gw (lawB K) [] H3 (upd H3 D (.lst [])) := .new hD
      have gr : Gw (lawB K) [r] H3 (upd H3 D (.lst [])) := g.weak fun b hb => (nomatch hb)
      exact ⟨Nat.zero_le _, [], [], upd_same, rfl, rfl, fun x hx => (nomatch hx), gw3.trans gr, ri3.put hD ri3 (g.weak fun b hb => (nomatch hb))⟩
    · obtain ⟨_, VL, vs, eD, al, lV, okV, g4, ri4⟩ := hP
      have lvs : vs.length = i := by
        have := al.length
        rw [List.length_map, lV] at this
        exact this.symm
      refine ⟨wipe1, ?_⟩
      unfold tYes
      refine iteT ?_
      refine ⟨_, rfl, _, rfl, r, p, ns, d, rfl, by omega, ri4, fun xs v H5 ox g5 ri5 nx => ?_⟩
      have e5 := g5.keep D _ (by simpa using Dr) eD (fun _ z => nomatch z)
      have g56 : Gw (lawB K) [D] H5 (upd H5 D (.lst (vs ++ [v]))) := .lst e5
      refine ⟨vs, e5, by rw [sizeLine_eq]; omega, hi, VL ++ [xs], vs ++ [v], upd_same, ?_, by rw [List.length_append, lV]; rfl, fun x hx => ?_, (g4.trans g5).put (.inl (gone gw3 hD)) e5 .lst, ri3.put hD ri5 g56⟩
      · rw [List.map_append]
        exact ((al.gw g5).gw g56).snoc (nx.gw g56)
      · rcases List.mem_append.mp hx with z | z
        · exact okV x z
        · rw [List.mem_singleton.mp z]
          exact ox
    obtain ⟨_, VL, vs, eD, al, lV, okV, g4, ri4⟩ := hP
    refine ⟨D, vs, rfl, .inl ⟨.of eD, fun vt nvt => ⟨by show 0 ≤ sizeLine; exact Nat.zero_le _, fun kd nkd => ⟨_, _, rfl, ?_⟩⟩⟩⟩
    have g5 : Gw (lawB K) [] H4 (upd (upd H4 vt (.tup vs)) kd (.lst [])) := (Gw.new nvt).add nkd
    have g5r : Gw (lawB K) [r] H4 (upd (upd H4 vt (.tup vs)) kd (.lst [])) := g5.weak fun b hb => (nomatch hb)
    have kvt : kd ≠ vt := fun z => by
      rw [z, upd_same] at nkd
      cases nkd
    have nV : NkV (upd (upd H4 vt (.tup vs)) kd (.lst [])) (kS VL) (.ref vt) := ⟨vt, vs, rfl, by rw [upd_ne kvt.symm]; exact upd_same, al.gw g5⟩
    have nkd4 : H4 kd = none := by
      rw [upd_ne kvt] at nkd
      exact nkd
    have ri5 : RowI K (upd (upd H4 vt (.tup vs)) kd (.lst [])) r p ns := ri4.put nkd4 (ri4.put nvt ri4 ((Gw.new (B := lawB K) (M := []) nvt).weak fun b hb => (nomatch hb))) ((Gw.new (B := lawB K) (M := []) nkd).weak fun b hb => (nomatch hb))
    have nkdH : H kd = none := gone g4 nkd4
    have ekd : upd (upd H4 vt (.tup vs)) kd (.lst []) kd = some (.lst []) := upd_same
    have g5w := g4.trans g5r
    have kdr : kd ≠ r := fun z => by
      obtain ⟨_, _, _, e, _⟩ := ri4.row
      rw [z, e] at nkd4
      cases nkd4
    generalize upd (upd H4 vt (.tup vs)) kd (.lst []) = H5 at g5 g5r nV ri5 ekd g5w
    clear g5 g5r al eD ri4 g4
    have okW : ∀ x ∈ VL, LotOk d x := okV
    -- kinds
    refine ⟨_, rfl, r, p, ns, 3, rfl, by decide, by decide, ri5, fun t3 H6 h6 g6 r6 => ⟨_, _, rfl, rfl, _, rfl, by omega, by omega, ?_⟩⟩
    refine for_range (lo := 0) (n := ((1 : Int) + (t3 : Int)).toNat) (fun i σ H' => i ≤ ((1 : Int) + (t3 : Int)).toNat ∧ ∃ (KL : List Knd) (kvs : List V) (x7 x8 x9 x10 x11 x12 x13 : Option V), σ = [some (.ref r), some (.int 3), some (.int 2), some (.int d), some (.int n), some (.ref vt), some (.ref kd), x7, x8, x9, x10, x11, x12, x13, none, none, none] ∧ Gw (lawB K) [r] H H' ∧ RowI K H' r p ns ∧ NkV H' (kS VL) (.ref vt) ∧ H' kd = some (.lst kvs) ∧
      NkAll H' (KL.map Knd.key) kvs ∧ KL.length = i ∧ ∀ k ∈ KL, KndOk d n k) ?_ (fun i σ H7 hi hP => ?_) fun σ H7 hP => ?_
    · exact ⟨Nat.zero_le _, [], [], none, none, none, none, none, none, none, rfl, g5w.trans g6, r6, nV.gw g6, g6.keep kd _ (by simpa using kdr) ekd (fun _ z => nomatch z), rfl, rfl, fun k hk => (nomatch hk)⟩
    · obtain ⟨_, KL, kvs, x7, x8, x9, x10, x11, x12, x13, rfl, g7, ri7, nV7, ek7, al7, lK, okK⟩ := hP
      have kd7 : ∀ {H' : Hp}, Gw (lawB K) [r] H7 H' → H' kd = some (.lst kvs) := fun g => g.keep kd _ (by simpa using kdr) ek7 (fun _ z => nomatch z)
      -- routes
      refine ⟨_, rfl, _, rfl, r, p, ns, 2, rfl, by decide, by decide, ri7, fun t4 H8 h8 g8 ri8 => ⟨_, _, rfl, rfl, _, rfl, by omega, by omega, fun D hD => ?_⟩⟩
      have Dr : D ≠ r := fun z => by
        obtain ⟨_, _, _, e, _⟩ := ri8.row
        rw [z, e] at hD
        cases hD
      refine lc_range (lo := 0) (n := ((1 : Int) + (t4 : Int)).toNat) (fun j H' => j ≤ ((1 : Int) + (t4 : Int)).toNat ∧ ∃ (RL : List (List Nat)) (rs : List V), H' D = some (.lst rs) ∧ NkAll H' (kR RL) rs ∧ RL.length = j ∧ (∀ x ∈ RL, 1 ≤ x.length ∧ x.length ≤ 3 ∧ ∀ y ∈ x, y < n) ∧ Gw (lawB K) [r] H8 H' ∧ RowI K H' r p ns) ?_ (fun j H9 hj hP => ?_) fun H9 hP => ?_
      · have g : Gw (lawB K) [] H8 (upd H8 D (.lst [])) := .new hD
        exact ⟨Nat.zero_le _, [], [], upd_same, rfl, rfl, fun x hx => (nomatch hx), g.weak fun b hb => (nomatch hb), ri8.put hD ri8 (g.weak fun b hb => (nomatch hb))⟩
      · obtain ⟨_, RL, rs, eD, alR, lR, okR, g9, ri9⟩ := hP
        have lrs : rs.length = j := by
          have := alR.length
          rw [List.length_map, lR] at this
          exact this.symm
        refine ⟨wipe1, ?_⟩
        unfold tYes
        refine iteT ?_
        refine ⟨_, rfl, r, p, ns, 3, rfl, by decide, by decide, ri9, fun t5 H10 h10 g10 ri10 => ⟨_, _, rfl, rfl, _, rfl, by omega, by omega, fun D2 hD2 => ?_⟩⟩
        refine rows_lc ((1 : Int) + (t5 : Int)).toNat n 14 (by decide) (by decide) rfl rfl (by omega) (by omega) (by omega) ri10 hD2 fun L H11 eD2 lL okL g11 ri11 => ?_
        · refine ⟨D2, _, rfl, .inl ⟨.of eD2, fun tt ntt => ?_⟩⟩
          have g12 : Gw (lawB K) [] H11 (upd H11 tt (.tup ((natI L).map V.int))) := .new ntt
          have g12r : Gw (lawB K) [r] H11 (upd H11 tt (.tup ((natI L).map V.int))) := g12.weak fun b hb => (nomatch hb)
          have g9c := (g10.trans g11).trans g12r
          have e12 := g9c.keep D _ (by simpa using Dr) eD (fun _ z => nomatch z)
          have ri12 := ri11.put ntt ri11 ((Gw.new (B := lawB K) (M := []) (o := .tup ((natI L).map V.int)) ntt).weak fun b hb => (nomatch hb))
          have g13 : Gw (lawB K) [D] (upd H11 tt (.tup ((natI L).map V.int))) (upd (upd H11 tt (.tup ((natI L).map V.int))) D (.lst (rs ++ [.ref tt]))) := .lst e12
          refine ⟨rs, e12, by rw [sizeLine_eq]; omega, hj, RL ++ [L], rs ++ [.ref tt], upd_same, ?_, by rw [List.length_append, lR]; rfl, fun x hx => ?_, (g9.trans g9c).put (.inl hD) e12 .lst, ri8.put hD ri12 g13⟩
          · rw [kR, List.map_append]
            exact ((alR.gw g9c).gw g13).snoc (show NkV _ (kI (natI L)) (.ref tt) from ⟨tt, _, rfl, g13.tups _ _ upd_same, NkAll.nums.mpr rfl⟩)
          · rcases List.mem_append.mp hx with z | z
            · exact okR x z
            · rw [List.mem_singleton.mp z]
              exact ⟨by omega, by omega, okL⟩
      obtain ⟨_, RL, rs, eD, alR, lR, okR, g9, ri9⟩ := hP
      refine ⟨D, rs, rfl, .inl ⟨.of eD, fun rt nrt => ?_⟩⟩
      have g10 : Gw (lawB K) [r] H9 (upd H9 rt (.tup rs)) := (Gw.new (B := lawB K) (M := []) nrt).weak fun b hb => (nomatch hb)
      have ri10 : RowI K (upd H9 rt (.tup rs)) r p ns := ri9.put nrt ri9 ((Gw.new (B := lawB K) (M := []) nrt).weak fun b hb => (nomatch hb))
      have g7a := (g8.trans g9).trans g10
      have eR : upd H9 rt (.tup rs) rt = some (.tup rs) := upd_same
      replace alR := alR.gw g10
      generalize upd H9 rt (.tup rs) = H10 at g10 ri10 g7a eR alR
      clear g9 g10 g8 ri8 ri9 eD Dr hD
      -- wants
      refine ⟨_, rfl, d, rfl, by omega, by omega, fun D hD => pick_lc 3 d 16 rfl (by decide) (by show 16 < 17; decide) rfl (by decide) (by decide) (by omega) ri10 hD fun WL H11 pk => ⟨D, _, rfl, .inl ⟨.of pk.lst, fun wt nwt => ?_⟩⟩⟩
      have g11 : Gw (lawB K) [r] H11 (upd H11 wt (.tup (WL.map V.int))) := (Gw.new (B := lawB K) (M := []) nwt).weak fun b hb => (nomatch hb)
      have ri11 : RowI K (upd H11 wt (.tup (WL.map V.int))) r p ns := pk.row.put nwt pk.row ((Gw.new (B := lawB K) (M := []) nwt).weak fun b hb => (nomatch hb))
      have g7b := (g7a.trans pk.gw).trans g11
      have eW : upd H11 wt (.tup (WL.map V.int)) wt = some (.tup (WL.map V.int)) := upd_same
      replace eR := g11.tups _ _ (pk.gw.tups _ _ eR)
      replace alR := (alR.gw pk.gw).gw g11
      have okWL := pk.lot
      generalize upd H11 wt (.tup (WL.map V.int)) = H12 at g11 ri11 g7b eW eR alR
      clear g11 pk nwt g7a ri10 hD D
      -- bars
      refine ⟨_, rfl, d, rfl, by omega, by omega, fun D hD => pick_lc 3 d 16 rfl (by decide) (by show 16 < 17; decide) rfl (by decide) (by decide) (by omega) ri11 hD fun BL H13 pk => ⟨D, _, rfl, .inl ⟨.of pk.lst, fun bt nbt => ?_⟩⟩⟩
      have g13 : Gw (lawB K) [r] H13 (upd H13 bt (.tup (BL.map V.int))) := (Gw.new (B := lawB K) (M := []) nbt).weak fun b hb => (nomatch hb)
      have ri13 : RowI K (upd H13 bt (.tup (BL.map V.int))) r p ns := pk.row.put nbt pk.row ((Gw.new (B := lawB K) (M := []) nbt).weak fun b hb => (nomatch hb))
      have g7c := (g7b.trans pk.gw).trans g13
      have eB : upd H13 bt (.tup (BL.map V.int)) bt = some (.tup (BL.map V.int)) := upd_same
      replace eW := g13.tups _ _ (pk.gw.tups _ _ eW)
      replace eR := g13.tups _ _ (pk.gw.tups _ _ eR)
      replace alR := (alR.gw pk.gw).gw g13
      have okBL := pk.lot
      generalize upd H13 bt (.tup (BL.map V.int)) = H14 at g13 ri13 g7c eB eW eR alR
      clear g13 pk nbt g7b ri11 hD D
      -- own
      refine ⟨by show 0 ≤ sizeLine; exact Nat.zero_le _, fun ow now => ?_⟩
      obtain ⟨R0, RT, rfl⟩ : ∃ R0 RT, RL = R0 :: RT := by
        cases RL with
        | nil => exact absurd lR (by show ¬ 0 = _; omega)
        | cons a b => exact ⟨a, b, rfl⟩
      have fin : ∀ (WL' BL' : List Int) (a b e : Addr) (H' : Hp), LotOk d WL' → LotOk d BL' → Gw (lawB K) [r] H14 H' → RowI K H' r p ns → H' a = some (.tup (WL'.map V.int)) → H' b = some (.tup (BL'.map V.int)) → H' e = none →
          H' kd = some (.lst kvs) ∧ upd H' e (.tup [.ref a, .ref b, .ref rt]) kd = some (.lst kvs) ∧ (Gw (lawB K) [r] H (upd (upd H' e (.tup [.ref a, .ref b, .ref rt])) kd (.lst (kvs ++ [.ref e]))) ∧ RowI K (upd (upd H' e (.tup [.ref a, .ref b, .ref rt])) kd (.lst (kvs ++ [.ref e]))) r p ns ∧
          NkV (upd (upd H' e (.tup [.ref a, .ref b, .ref rt])) kd (.lst (kvs ++ [.ref e]))) (kS VL) (.ref vt) ∧ (upd (upd H' e (.tup [.ref a, .ref b, .ref rt])) kd (.lst (kvs ++ [.ref e]))) kd = some (.lst (kvs ++ [.ref e])) ∧ NkAll (upd (upd H' e (.tup [.ref a, .ref b, .ref rt])) kd (.lst (kvs ++ [.ref e]))) ((KL ++ [(Knd.mk WL' BL' (R0 :: RT))]).map Knd.key) (kvs ++ [.ref e]) ∧ (KL ++ [(Knd.mk WL' BL' (R0 :: RT))]).length = i + 1 ∧ ∀ k ∈ KL ++ [(Knd.mk WL' BL' (R0 :: RT))], KndOk d n k) := by
        intro WL' BL' a b e H' oW oB g ri' ea eb ne
        have g1 : Gw (lawB K) [] H' (upd H' e (.tup [.ref a, .ref b, .ref rt])) := .new ne
        have g1r : Gw (lawB K) [r] H' (upd H' e (.tup [.ref a, .ref b, .ref rt])) := g1.weak fun b hb => (nomatch hb)
        have ek : H' kd = some (.lst kvs) := kd7 (g7c.trans g)
        have ek1 := g1.keep kd _ (by simp) ek (fun _ z => nomatch z)
        have g2 : Gw (lawB K) [kd] (upd H' e (.tup [.ref a, .ref b, .ref rt])) (upd (upd H' e (.tup [.ref a, .ref b, .ref rt])) kd (.lst (kvs ++ [.ref e]))) := .lst ek1
        have gA := (g7c.trans g).trans g1r
        refine ⟨ek, ek1, (g7.trans gA).put (.inl nkdH) ek1 .lst, ?_, (nV7.gw gA).gw g2, upd_same, ?_, by rw [List.length_append, lK]; rfl, fun k hk => ?_⟩
        · have a1 := ri'.put ne ri' ((Gw.new (B := lawB K) (M := []) (o := .tup [.ref a, .ref b, .ref rt]) ne).weak fun b hb => (nomatch hb))
          exact ri.put nkdH a1 g2
        · rw [List.map_append]
          refine NkAll.snoc (k := Knd.key (Knd.mk WL' BL' (R0 :: RT))) ?_ ((al7.gw gA).gw g2)
          have t1 := g2.tups _ _ (g1.tups _ _ ea)
          have t2 := g2.tups _ _ (g1.tups _ _ eb)
          have t3 := g2.tups _ _ (g1.tups _ _ (g.tups _ _ eR))
          exact ⟨e, _, rfl, g2.tups _ _ upd_same, _, _, rfl, ⟨a, _, rfl, t1, NkAll.nums.mpr rfl⟩, _, _, rfl, ⟨b, _, rfl, t2, NkAll.nums.mpr rfl⟩, _, _, rfl, ⟨rt, _, rfl, t3, (((alR.gw g).gw g1).gw g2)⟩, rfl⟩
        · rcases List.mem_append.mp hk with z | z
          · exact okK k z
          · rw [List.mem_singleton.mp z]
            refine ⟨oW, oB, Nat.succ_le_succ (Nat.zero_le _), by show (R0 :: RT).length ≤ 2; omega, okR⟩
      obtain ⟨w0, ws, rfl, nR0, alRT⟩ := id alR
      obtain ⟨f, fs, rfl, ef, alf⟩ := nR0
      obtain rfl := NkAll.nums.mp alf
      have okR0 := okR R0 List.mem_cons_self
      have gO : Gw (lawB K) [] H14 (upd H14 ow (.lst [])) := .new now
      refine ⟨_, rfl, _, _, _, _, rfl, rfl, .of (gO.tups _ _ eR), atI_nat (j := 0) rfl, f, rfl, ⟨_, .of (gO.tups _ _ ef)⟩, ?_⟩
      refine for_tup (xs := (natI R0).map V.int) (fun m σ H' => ∃ (OL : List Int) (o : Addr) (y12 : Option V), σ = [some (.ref r), some (.int 3), some (.int 2), some (.int d), some (.int n), some (.ref vt), some (.ref kd), some (.int (0 + (i : Int))), some (.ref rt), some (.ref wt), some (.ref bt), some (.ref o), y12, x13, none, none, none] ∧ Gw (lawB K) [] H14 H' ∧ H' o = some (.lst (OL.map V.int)) ∧ H14 o = none ∧ OL.length ≤ 3 * m) ?_ (fun m σ H' _ hP => ?_) (fun m x σ H' hx hP => ?_) fun σ H' hP => ?_
      · exact ⟨[], ow, _, rfl, gO, upd_same, now, Nat.le_refl _⟩
      · obtain ⟨_, _, _, _, g, _⟩ := hP
        exact .of (g.tups _ _ ef)
      · obtain ⟨OL, o, y12, rfl, g, eo, no, lO⟩ := hP
        have hm : m < R0.length := by
          have := (List.getElem?_eq_some_iff.mp hx).1
          simpa using this
        rw [List.map_map, List.getElem?_map] at hx
        obtain ⟨v, ev, rfl⟩ := Option.map_eq_some_iff.mp hx
        have hv := okR0.2.2 v (List.mem_of_getElem? ev)
        obtain ⟨_, vs, e0, evt, alV⟩ := (nV7.gw g7c).gw g
        cases e0
        have hvl : v < VL.length := by omega
        obtain ⟨y, ey, ny⟩ := alV.get (i := v) (k := kI VL[v]) (by rw [List.getElem?_map, List.getElem?_eq_getElem hvl] <;> rfl)
        obtain ⟨q, qs, rfl, eq, alq⟩ := ny
        obtain rfl := NkAll.nums.mp alq
        have lq := (okW VL[v] (List.getElem_mem hvl)).len
        refine ⟨_, rfl, _, rfl, _, rfl, vt, _, _, _, rfl, rfl, .of evt, atI_nat ey, q, _, rfl, .inr (.of eq), fun l nl => ?_⟩
        have g1 : Gw (lawB K) [] H' (upd H' l (.lst (VL[v].map V.int))) := .new nl
        have eo1 := g1.keep o _ (by simp) eo (fun _ z => nomatch z)
        refine ⟨o, l, _, _, rfl, rfl, eo1, upd_same, by rw [sizeLine_eq]; simp; omega, fun u nu => ?_⟩
        have g2 : Gw (lawB K) [] H14 (upd (upd H' l (.lst (VL[v].map V.int))) u (.lst (OL.map V.int ++ VL[v].map V.int))) := (g.trans g1).add nu
        refine ⟨OL ++ VL[v], u, _, rfl, g2, by rw [upd_same, List.map_append], (g.trans g1).dom _ nu, by rw [List.length_append]; omega⟩
      · obtain ⟨OL, o, y12, rfl, g, eo, no, lO⟩ := hP
        have lO' : OL.length ≤ 9 := by
          have := okR0.2.1
          simp at lO
          omega
        have ri15 := ri13.gw g (by simp) (by simp)
        have gr : Gw (lawB K) [r] H14 H' := g.weak fun b hb => (nomatch hb)
        have or' : o ≠ r := fun z => by
          obtain ⟨_, _, _, e, _⟩ := ri13.row
          rw [z, e] at no
          cases no
        refine ⟨_, rfl, r, p, ns, 3, rfl, by decide, by decide, ri15, fun t7 H16 h16 g16 ri16 => ?_⟩
        have g17 := gr.trans g16
        refine ⟨_, rfl, _, _, rfl, rfl, _, rfl, ?_⟩
        by_cases hz : (0 : Int) < (t7 : Int)
        · rw [decide_eq_true hz]
          have eo16 := g16.keep o _ (by simpa using or') eo (fun _ z => nomatch z)
          have eW16 := g17.tups _ _ eW
          refine iteT ⟨_, rfl, wt, rfl, ⟨_, .of eW16⟩, fun D hD => filt_lc (B := lawB K) (neg := false) 16 11 (by decide) (by show 16 < 17; decide) rfl eW16 eo16 hD (by have := okWL.len; omega) fun H17 e17 g' => ⟨D, _, rfl, .inl ⟨.of e17, fun wt' nwt => ?_⟩⟩⟩
          have g18 : Gw (lawB K) [] H16 (upd H17 wt' (.tup ((WL.filter fun x => OL.contains x).map V.int))) := (g'.add nwt)
          have eo18 := g18.keep o _ (by simp) eo16 (fun _ z => nomatch z)
          have eB18 := g18.tups _ _ (g17.tups _ _ eB)
          refine ⟨_, rfl, bt, rfl, ⟨_, .of eB18⟩, fun D2 hD2 => filt_lc (B := lawB K) (neg := true) 16 11 (by decide) (by show 16 < 17; decide) rfl eB18 eo18 hD2 (by have := okBL.len; omega) fun H19 e19 g'' => ⟨D2, _, rfl, .inl ⟨.of e19, fun bt' nbt => ?_⟩⟩⟩
          have g20 : Gw (lawB K) [] H16 (upd H19 bt' (.tup ((BL.filter fun x => !OL.contains x).map V.int))) := (g18.trans g'').add nbt
          have ri20 : RowI K (upd H19 bt' (.tup ((BL.filter fun x => !OL.contains x).map V.int))) r p ns := ri16.gw g20 (by simp) (by simp)
          have eW20 : (upd H19 bt' (.tup ((BL.filter fun x => !OL.contains x).map V.int))) wt' = some (.tup ((WL.filter fun x => OL.contains x).map V.int)) := (g''.add nbt).tups wt' _ upd_same
          refine ⟨_, _, rfl, .ref kd, rfl, .inl ⟨rfl, _, .of (kd7 (g7c.trans (g17.trans (g20.weak fun b hb => (nomatch hb)))))⟩, ?_⟩
          refine ⟨_, rfl, _, rfl, _, rfl, by show 3 ≤ sizeLine; decide, fun e ne => ?_⟩
          obtain ⟨k1, k2, k3⟩ := fin _ _ wt' bt' e _ (lot_filter okWL _) (lot_filter okBL _) (g17.trans (g20.weak fun b hb => (nomatch hb))) ri20 eW20 upd_same ne
          obtain ⟨a1, a2, a3, a4, a5, a6, a7⟩ := k3
          have lkv := al7.length
          refine ⟨kd, kvs, _, rfl, rfl, k2, by rw [sizeLine_eq]; simp at lkv; omega, hi, _, _, _, _, _, _, _, _, _, rfl, a1, a2, a3, a4, a5, a6, a7⟩
        · rw [decide_eq_false hz]
          refine iteF ?_
          refine ⟨.ref kd, rfl, .inl ⟨rfl, _, .of (kd7 (g7c.trans g17))⟩, ?_⟩
          refine ⟨_, rfl, _, rfl, _, rfl, by show 3 ≤ sizeLine; decide, fun e ne => ?_⟩
          obtain ⟨k1, k2, k3⟩ := fin _ _ wt bt e _ okWL okBL g17 ri16 (g17.tups _ _ eW) (g17.tups _ _ eB) ne
          obtain ⟨a1, a2, a3, a4, a5, a6, a7⟩ := k3
          have lkv := al7.length
          refine ⟨kd, kvs, _, rfl, rfl, k2, by rw [sizeLine_eq]; simp at lkv; omega, hi, _, _, _, _, _, _, _, _, _, rfl, a1, a2, a3, a4, a5, a6, a7⟩
    · obtain ⟨_, KL, kvs, x7, x8, x9, x10, x11, x12, x13, rfl, g7, ri7, nV7, ek7, al7, lK, okK⟩ := hP
      refine ⟨_, rfl, _, rfl, _, rfl, kd, _, rfl, .inl ⟨.of ek7, fun kt nkt => ⟨by show 3 ≤ sizeLine; decide, fun u nu => ?_⟩⟩⟩
      have g8 : Gw (lawB K) [] H7 (upd (upd H7 kt (.tup kvs)) u (.tup [.int d, .ref vt, .ref kt])) := (Gw.new nkt).add nu
      have ukt : kt ≠ u := ne_of_none upd_same nu
      refine hQ ⟨d, VL, KL⟩ (.ref u) _ ⟨by show 1 ≤ d; omega, by show d ≤ 3; omega, by show 1 ≤ VL.length; omega, by show VL.length ≤ 3; omega, okW, by show 1 ≤ KL.length; omega, by show KL.length ≤ 3; omega, fun k hk => by show KndOk d VL.length k; rw [lV]; exact okK k hk⟩ (g7.trans (g8.weak fun b hb => (nomatch hb))) ?_ ?_
      · have a1 : RowI K (upd H7 kt (.tup kvs)) r p ns := ri7.put nkt ri7 ((Gw.new (B := lawB K) (M := []) nkt).weak fun b hb => (nomatch hb))
        exact a1.put nu a1 ((Gw.new (B := lawB K) (M := []) nu).weak fun b hb => (nomatch hb))
      · refine ⟨u, _, rfl, upd_same, _, _, rfl, rfl, _, _, rfl, nV7.gw g8, _, _, rfl, ⟨kt, kvs, rfl, ?_, al7.gw g8⟩, rfl⟩
        rw [upd_ne ukt]
        exact upd_same
end
end Dy
end
section
set_option Elab.async false
set_option linter.all false
set_option maxRecDepth 100000
set_option maxHeartbeats 4000000
set_option pp.maxSteps 1500
set_option exponentiation.threshold 20000
/-! _law_dyed, _law_lowest, _law_add. -/
namespace Dy
open PySem PySem.Spec PyProof.Rows L2
theorem filt_nil {p : Int → Bool} : ∀ {l : List Int}, decide (l.filter p = []) = l.all fun x => !p x
  | [] => rfl
  | x :: l => by
    rw [List.all_cons, List.filter_cons]
    cases e : p x with
    | true => simp
    | false =>
      rw [if_neg Bool.false_ne_true, filt_nil (l := l)]
      rfl
theorem any_swap {a b : List Int} : (a.any fun x => b.contains x) = b.any fun x => a.contains x := by
  rw [Bool.eq_iff_iff, List.any_eq_true, List.any_eq_true]
  constructor
  · rintro ⟨x, hx, h⟩
    exact ⟨x, List.contains_iff_mem.mp h, List.contains_iff_mem.mpr hx⟩
  · rintro ⟨x, hx, h⟩
    exact ⟨x, List.contains_iff_mem.mp h, List.contains_iff_mem.mpr hx⟩
theorem flat_has {f : Nat → List Int} {x : Int} : ∀ {r : List Nat}, (r.flatMap f).contains x = r.any fun v => (f v).contains x
  | [] => rfl
  | v :: r => by
    rw [List.flatMap_cons, List.any_cons, ← flat_has (r := r), Bool.eq_iff_iff, Bool.or_eq_true, List.contains_iff_mem, List.contains_iff_mem, List.contains_iff_mem, List.mem_append]
theorem hasW_eq {w : Wks} {k : Nat} {r : List Nat} : decide (((w.knd k).wants.filter fun x => if true = true then !(r.flatMap fun v => w.vats.getD v []).contains x else (r.flatMap fun v => w.vats.getD v []).contains x) = []) = hasW w k r := by
  rw [filt_nil]
  unfold hasW
  congr 1
  funext x
  rw [if_pos rfl, Bool.not_not, flat_has]
theorem isC_eq {w : Wks} {k : Nat} {c : List Int} : decide (((w.knd k).bars.filter fun x => if false = true then !c.contains x else c.contains x) = []) = isC w k c := by
  rw [filt_nil]
  unfold isC
  rw [any_swap, List.not_any_eq_all_not]
  rfl
theorem Gw.addS {B t : Addr} {M : List Addr} {H H' : Hp} {o : HO} (g : Gw B M H H') (n : H' t = none) : Gw B M H (upd H' t o) ∧ upd H' t o t = some o := ⟨g.add n, upd_same⟩
section
variable {P : Program} {w : World} {K : PySem.W.Frag} {mg : Str → Option Value} {base : Heap}
def spLDyed (K : PySem.W.Frag) : Sp := fun vs H Q _ => ∃ v1 v2 w s, ∃ k n : Nat, vs = [v1, v2, .int k, .int n] ∧ NkV H (Wks.key w) v1 ∧ NkV H (kS s) v2 ∧ WksOk w ∧ StOk w.dyes w.vats.length s ∧ k < w.kinds.length ∧ n < (w.knd k).routes.length ∧
  ∀ p l H', Gw (lawB K) [] H H' → H' p = some (.tup [l, .bl (dy w s k n).2]) → NkV H' (kS (dy w s k n).1) l → Q (.ref p) H'
abbrev nLDyed : List Str := ["_law_works_here", "_law_stand", "_law_kind", "_law_number", "_law_wants", "_law_bars", "_law_routes", "_law_traces", "_law_carried", "_law_own", "_law_vat", "_law_good", "_law_dye"]
theorem scLDyed : FnScope nLDyed ["_law_works_here", "_law_stand", "_law_kind", "_law_number"] (defScope sLDyed) := ⟨rfl, rfl, rfl, by decide +kernel, rfl, by decide +kernel, by decide +kernel⟩
theorem ok_lawDyed (T : Tx K mg base) : Cal P w K mg base CX0 "_law_dyed" 1 ["_law_works_here", "_law_stand", "_law_kind", "_law_number"] (spLDyed K) := by
  refine T.cal (st := sLDyed) 33 rfl T.gllaw_dyed scLDyed (fun _ _ _ _ _ _ us hl => match us, hl with | [_, _, _, _], _ => rfl) (fun vs H Q E h => ?_) (fun A outer s0 H vs Q E hr h => ?_)
  · obtain ⟨v1, v2, a, b, d, n, rfl, _⟩ := h
    rfl
  · obtain ⟨v1, v2, wk, s, k, n, rfl, nw, ns, ok, os, hk, hn, hQ⟩ := h
    refine ⟨_, PSs.nox (pss_cons (ps_asg (pe_ix ix_tupK (pe_ix ix_tupK (pv 0) pe_int (fun _ _ => rfl)) (pv 2) (fun _ _ => rfl)) (pg_tupK (n := 3) rfl (pgs_cons (pg_name (i := 4) scLDyed.nd rfl (.inl rfl)) (pgs_cons (pg_name (i := 5) scLDyed.nd rfl (.inl rfl)) (pgs_cons (pg_name (i := 6) scLDyed.nd rfl (.inl rfl)) pgs_nil)))))
      (pss_cons (ps_asg (pe_tup (pa_cons (pe_callTy cr_listK rfl T.frlist bList (pa_cons (pv 1) pa_nil)) (pa_cons (pe_lst pa_nil) (pa_cons (pe_lst pa_nil) pa_nil)))) (pg_tupK (n := 3) rfl (pgs_cons (pg_name (i := 7) scLDyed.nd rfl (.inl rfl)) (pgs_cons (pg_name (i := 8) scLDyed.nd rfl (.inr rfl)) (pgs_cons (pg_name (i := 9) scLDyed.nd rfl (.inr rfl)) pgs_nil)))))
      (pss_cons (ps_for PassesOwn.never rfl (pi_tupK (pe_ix ix_tupK (pv 6) (pv 3) (fun _ _ => rfl))) (pg_name (i := 10) scLDyed.nd rfl (.inl rfl)) (pss_cons (ps_set (i := 8) scLDyed.nd rfl (.inr rfl) (pe_callB (cr_sortedSet rfl) rfl T.frsorted bSorted (pa_cons (pe_callTy (cr_setI rfl) rfl T.frset bSet (pa_cons (pe_op op_cat (pv 8) (pe_callTy cr_listK rfl T.frlist bList (pa_cons (pe_ix ix_listK (pv 7) (pv 10) (fun _ _ => rfl)) pa_nil))) pa_nil)) pa_nil)))
      (pss_cons (ps_asg (pe_callTy cr_tupleK rfl T.frtuple bTuple (pa_cons (pv 8) pa_nil)) (pg_sub (pv 7) (pv 10) set_list))
      (pss_one (ps_set (i := 9) scLDyed.nd rfl (.inr rfl) (pe_op op_cat (pv 9) (pe_callTy cr_listK rfl T.frlist bList (pa_cons (pe_ix ix_tupK (pe_ix ix_tupK (pv 0) pe_int (fun _ _ => rfl)) (pv 10) (fun _ _ => rfl)) pa_nil))))))))
      (pss_cons (ps_set (i := 11) scLDyed.nd rfl (.inl rfl) (pe_and (pe_cmpR (op_eqK hr.units) (pe_lc (own := [("_law_dye", 12)]) (g := (gName 12)) rfl scLDyed.nd (pi_tupK (pv 4)) (blkOk_by (N := nLDyed) (sc := defScope sLDyed) (by decide +kernel)) (fun _ _ _ _ _ => pg_name (i := 12) scLDyed.nd rfl (.inl rfl) (.inr rfl)) (fun _ _ _ _ _ => pts_one (pt_cmpR op_notInK (pv 12) (pv 9) rfl)) (fun _ _ _ _ _ => pv 12)) (pe_lst pa_nil) (nomark _)) (pe_one (pe_cmpR (op_eqK hr.units) (pe_lc (own := [("_law_dye", 12)]) (g := (gName 12)) rfl scLDyed.nd (pi_tupK (pv 5)) (blkOk_by (N := nLDyed) (sc := defScope sLDyed) (by decide +kernel)) (fun _ _ _ _ _ => pg_name (i := 12) scLDyed.nd rfl (.inl rfl) (.inr rfl)) (fun _ _ _ _ _ => pts_one (pt_cmpR op_inK (pv 12) (pv 8) rfl)) (fun _ _ _ _ _ => pv 12)) (pe_lst pa_nil) (nomark _)))))
      (pss_one (ps_ret (pe_tup (pa_cons (pe_callTy cr_tupleK rfl T.frtuple bTuple (pa_cons (pv 7) pa_nil)) (pa_cons (pv 11) pa_nil))))))))), ?_⟩
    obtain ⟨a, v0, _, c, cs, e, x0, x1, x2, rfl, ea, ⟨b, bs, rfl, eb, alb⟩, ec, alc, ei, ee, m0, m1, m2⟩ := nw.knd hk
    obtain ⟨wa, ws, rfl, ew, alw⟩ := m0
    obtain rfl := NkAll.nums.mp alw
    obtain ⟨ba, bs', rfl, ebb, albb⟩ := m1
    obtain rfl := NkAll.nums.mp albb
    obtain ⟨f, fs, rfl, ef, alf⟩ := m2
    obtain ⟨y, ey, ny⟩ := alf.get (i := n) (k := kI (natI (wk.route k n))) (by rw [List.getElem?_map, Wks.route_at hn] <;> rfl)
    obtain ⟨ra, rs, rfl, er, alr⟩ := ny
    obtain rfl := NkAll.nums.mp alr
    obtain ⟨r1, r2, r3⟩ := (ok.at hk).at hn
    have hd := ok.d2
    have hv := ok.v2
    obtain ⟨st, ss, rfl, es, als⟩ := ns
    have okk := ok.at hk
    generalize hr0 : wk.route k n = r at *
    refine ⟨_, rfl, _, _, _, _, rfl, rfl, .of ea, atI_nat (j := 2) rfl, ?_⟩
    refine ⟨_, rfl, _, _, _, _, rfl, rfl, .of ec, atI_nat ei, ?_⟩
    refine ⟨e, _, rfl, .of ee, rfl, _, _, rfl, _, _, rfl, _, _, rfl, rfl, ?_⟩
    refine ⟨_, rfl, st, _, rfl, .inr (.of es), fun tr ntr => ⟨by show 0 ≤ sizeLine; exact Nat.zero_le _, fun ca nca => ⟨by show 0 ≤ sizeLine; exact Nat.zero_le _, fun ow now => ⟨by show 3 ≤ sizeLine; decide, fun q nq => ?_⟩⟩⟩⟩
    have g0 : Gw (lawB K) [] H (upd (upd (upd (upd H tr (.lst ss)) ca (.lst [])) ow (.lst [])) q (.tup [.ref tr, .ref ca, .ref ow])) := (((Gw.new ntr).add nca).add now).add nq
    have n1 : tr ≠ ca := ne_of_none upd_same nca
    have n2 : ca ≠ ow := ne_of_none upd_same now
    have n3 : tr ≠ ow := ne_of_none (by rw [upd_ne n1]; exact upd_same) now
    have n4 : ow ≠ q := ne_of_none upd_same nq
    have n5 : ca ≠ q := ne_of_none (by rw [upd_ne n2]; exact upd_same) nq
    have n6 : tr ≠ q := ne_of_none (by rw [upd_ne n3, upd_ne n1]; exact upd_same) nq
    have etr : (upd (upd (upd (upd H tr (.lst ss)) ca (.lst [])) ow (.lst [])) q (.tup [.ref tr, .ref ca, .ref ow])) tr = some (.lst ss) := by
      rw [upd_ne n6, upd_ne n3, upd_ne n1]; exact upd_same
    have eca : (upd (upd (upd (upd H tr (.lst ss)) ca (.lst [])) ow (.lst [])) q (.tup [.ref tr, .ref ca, .ref ow])) ca = some (.lst []) := by
      rw [upd_ne n5, upd_ne n2]; exact upd_same
    have eow : (upd (upd (upd (upd H tr (.lst ss)) ca (.lst [])) ow (.lst [])) q (.tup [.ref tr, .ref ca, .ref ow])) ow = some (.lst []) := by
      rw [upd_ne n4]; exact upd_same
    have nca0 : H ca = none := by
      rw [upd_ne n1.symm] at nca; exact nca
    have now0 : H ow = none := by
      rw [upd_ne n2.symm, upd_ne n3.symm] at now; exact now
    refine ⟨q, _, rfl, .of upd_same, rfl, _, _, rfl, _, _, rfl, _, _, rfl, rfl, ?_⟩
    generalize (upd (upd (upd (upd H tr (.lst ss)) ca (.lst [])) ow (.lst [])) q (.tup [.ref tr, .ref ca, .ref ow])) = H0 at *
    refine ⟨_, rfl, _, rfl, _, _, _, _, rfl, rfl, .of (g0.tups _ _ ef), atI_nat ey, ra, rfl, ⟨_, .of (g0.tups _ _ er)⟩, ?_⟩
    refine for_tup (xs := (natI r).map V.int) (fun i σ H' => ∃ (ts : List V) (c o : Addr) (x : Option V), σ = [some (.ref a), some (.ref st), some (.int k), some (.int n), some (.ref wa), some (.ref ba), some (.ref f), some (.ref tr), some (.ref c), some (.ref o), x, none, none] ∧ Gw (lawB K) [] H H' ∧ H' tr = some (.lst ts) ∧ NkAll H' (((r.take i).foldl bstep (s, [])).1.map kI) ts ∧
      H' c = some (.lst (((r.take i).foldl bstep (s, [])).2.map V.int)) ∧ H' o = some (.lst (((r.take i).flatMap fun v => wk.vats.getD v []).map V.int)) ∧ H c = none ∧ H o = none ∧ tr ≠ c ∧ tr ≠ o ∧ ((r.take i).flatMap fun v => wk.vats.getD v []).length ≤ 3 * i) ?_ (fun i σ H' _ hp => ?_) (fun i x σ H' hx hp => ?_) fun σ H' hp => ?_
    · exact ⟨ss, ca, ow, none, rfl, g0, etr, als.gw g0, eca, eow, nca0, now0, n1, n3, Nat.le_refl _⟩
    · obtain ⟨_, _, _, _, _, g, _⟩ := hp
      exact .of (g.tups _ _ er)
    · obtain ⟨ts, c, o, x0', rfl, g, ep, al, eC, eO, nC, nO, tc, tro, lO⟩ := hp
      have hi : i < r.length := by
        have := (List.getElem?_eq_some_iff.mp hx).1
        simpa using this
      rw [List.map_map, List.getElem?_map] at hx
      obtain ⟨v, ev, rfl⟩ := Option.map_eq_some_iff.mp hx
      have hv := r3 v (List.mem_of_getElem? ev)
      have okI : StOk wk.dyes wk.vats.length ((r.take i).foldl bstep (s, [])).1 ∧ LotOk wk.dyes ((r.take i).foldl bstep (s, [])).2 := foldl_ok _ os lot_nil
      have estep : (r.take (i + 1)).foldl bstep (s, []) = bstep ((r.take i).foldl bstep (s, [])) v := by
        rw [List.take_add_one, ev, Option.toList_some, List.foldl_append] <;> rfl
      have eflat : ((r.take (i + 1)).flatMap fun v => wk.vats.getD v []) = ((r.take i).flatMap fun v => wk.vats.getD v []) ++ wk.vats.getD v [] := by
        rw [List.take_add_one, ev, Option.toList_some, List.flatMap_append, List.flatMap_singleton]
      generalize (r.take i).flatMap (fun v => wk.vats.getD v []) = OL at *
      generalize (r.take i).foldl bstep (s, []) = cur at *
      have ltk : v < (cur.1.map kI).length := by rw [List.length_map, okI.1.len]; exact hv
      have lts : v < ts.length := al.length ▸ ltk
      obtain ⟨y, ey, ny⟩ := al.get (i := v) (List.getElem?_eq_getElem ltk)
      have ek : (cur.1.map kI)[v] = kI (cur.1.getD v []) := by
        rw [List.getElem_map, List.getD_eq_getElem?_getD, List.getElem?_eq_getElem (by simpa using ltk)] <;> rfl
      rw [ek] at ny
      obtain ⟨qa, qs, rfl, eqa, alq⟩ := ny
      obtain rfl := NkAll.nums.mp alq
      have ll := (getD_lot okI.1 v).len
      have lc := okI.2.len
      have estep : (r.take (i + 1)).foldl bstep (s, []) = (cur.1.set v (join cur.2 (cur.1.getD v [])), join cur.2 (cur.1.getD v [])) := estep
      have lV : (wk.vats.getD v []).length ≤ wk.dyes := (getD_lot (StOk.of wk ok) v).len
      clear ek
      generalize cur.1.getD v [] = G at *
      -- carried = sorted(set(carried + list(traces[vat])))
      refine ⟨_, rfl, _, rfl, _, rfl, tr, ts, _, _, rfl, rfl, .of ep, atI_nat ey, qa, _, rfl, .inr (.of eqa), fun l nl => ?_⟩
      have g1 : Gw (lawB K) [] H' (upd H' l (.lst (G.map V.int))) := .new nl
      refine ⟨c, l, _, _, rfl, rfl, g1.keep c _ (by simp) eC (fun _ z => nomatch z), upd_same, by rw [sizeLine_eq]; simp; omega, fun u nu => ?_⟩
      rw [← List.map_append]
      have g2 := g1.add (o := .lst ((cur.2 ++ G).map V.int)) nu
      refine ⟨u, cur.2 ++ G, rfl, .inr (.of upd_same), by simp; omega, fun p5 c5 np5 hc5 => ?_⟩
      refine ⟨p5, _, c5, rfl, upd_same, by simp at hc5; omega, fun ns r5 up mem ln nr5 => ?_⟩
      have ejoin : ns = join cur.2 G := join_eq up fun x => by rw [mem, decide_eq_true_eq, List.mem_append]
      subst ejoin
      have g3 := (g2.add np5).add (o := .lst ((join cur.2 G).map V.int)) nr5
      -- traces[vat] = tuple(carried)
      refine ⟨_, rfl, r5, _, rfl, .inl ⟨.of upd_same, fun t nt => ?_⟩⟩
      have er5 := (Gw.new (B := lawB K) (M := []) (o := .tup ((join cur.2 G).map V.int)) nt).keep r5 _ (by simp) upd_same (fun _ z => nomatch z)
      obtain ⟨g4, net⟩ := g3.addS (o := .tup ((join cur.2 G).map V.int)) nt
      have ep4 := g4.keep tr _ (by simp) ep (fun _ z => nomatch z)
      have eO4 := g4.keep o _ (by simp) eO (fun _ z => nomatch z)
      have gH4 := g.trans g4
      have nr50 : H r5 = none := (g.trans ((g2.add np5))).dom _ nr5
      refine ⟨_, rfl, _, rfl, tr, ts, _, v, rfl, rfl, ep4, ixN_nat lts, ?_⟩
      have al4 := al.gw g4
      have trr : tr ≠ r5 := ne_of_none ((g2.add np5).keep tr _ (by simp) ep (fun _ z => nomatch z)) nr5
      have g5 : Gw (lawB K) [tr] _ _ := .lst (ys := ts.set v (.ref t)) ep4
      have gH5 := gH4.put (o := .lst (ts.set v (.ref t))) (.inl ntr) ep4 .lst
      have nt5 : NkV _ (kI (join cur.2 G)) (.ref t) := ⟨t, _, rfl, g5.tups _ _ net, NkAll.nums.mpr rfl⟩
      have eO5 := g5.keep o _ (by simpa using tro.symm) eO4 (fun _ z => nomatch z)
      have er5' := g5.keep r5 _ (by simpa using trr.symm) er5 (fun _ z => nomatch z)
      have al5 := (al4.gw g5).set nt5 v
      -- own = own + list(works[1][vat])
      have eb5 := gH5.tups _ _ eb
      obtain ⟨yv, eyv, nyv⟩ := (alb.gw gH5).get (i := v) (k := kI (wk.vats.getD v [])) (by rw [List.getElem?_map, List.getD_eq_getElem?_getD, List.getElem?_eq_getElem hv] <;> rfl)
      obtain ⟨qv, qvs, rfl, eqv, alqv⟩ := nyv
      obtain rfl := NkAll.nums.mp alqv
      generalize wk.vats.getD v [] = V1 at *
      refine ⟨_, rfl, _, rfl, _, _, _, _, rfl, rfl, .of (gH5.tups _ _ ea), atI_nat (j := 1) rfl, ?_⟩
      refine ⟨_, rfl, _, _, _, _, rfl, rfl, .of eb5, atI_nat eyv, qv, _, rfl, .inr (.of eqv), fun l6 nl6 => ?_⟩
      obtain ⟨g6, e6⟩ := (Gw.refl (lawB K) [] _).addS (o := .lst (V1.map V.int)) nl6
      refine ⟨o, l6, _, _, rfl, rfl, g6.keep o _ (by simp) eO5 (fun _ z => nomatch z), e6, by rw [sizeLine_eq]; simp; omega, fun u7 nu7 => ?_⟩
      obtain ⟨g7, e7⟩ := g6.addS (o := .lst (OL.map V.int ++ V1.map V.int)) nu7
      rw [estep, eflat]
      refine ⟨ts.set v (.ref t), r5, u7, _, rfl, gH5.trans g7, g7.keep tr _ (by simp) upd_same (fun _ z => nomatch z), ?_, g7.keep r5 _ (by simp) er5' (fun _ z => nomatch z), ?_, nr50, (gH5.trans g6).dom _ nu7, trr, ?_, by rw [List.length_append]; omega⟩
      · show NkAll _ ((cur.1.set v (join cur.2 G)).map kI) _
        rw [List.map_set]
        exact al5.gw g7
      · rw [e7, List.map_append]
      · exact ne_of_none (g6.keep tr _ (by simp) upd_same (fun _ z => nomatch z)) nu7
    · obtain ⟨ts, c, o, x0', rfl, g, ep, al, eC, eO, nC, nO, tc, tro, lO⟩ := hp
      have et : r.take ((natI r).map V.int).length = r := List.take_of_length_le (by simp)
      rw [et] at al eC eO
      have okw := okk.wants.len
      have okb := okk.bars.len
      refine ⟨_, rfl, wa, rfl, ⟨_, .of (g.tups _ _ ew)⟩, fun D hD => filt_lc (B := lawB K) (neg := true) 12 9 (by decide) (by show 12 < 13; decide) rfl (g.tups _ _ ew) eO hD (by omega) fun H1 e1 g1 => ?_⟩
      refine ⟨by show 0 ≤ sizeLine; exact Nat.zero_le _, fun z1 nz1 => ?_⟩
      obtain ⟨g2, e2⟩ := g1.addS (o := .lst []) nz1
      refine a_nil (.of ((Gw.new (B := lawB K) (M := []) (o := .lst []) nz1).keep D _ (by simp) e1 (fun _ z => nomatch z))) (.of e2) ?_
      rw [hasW_eq]
      have fin : ∀ H3, Gw (lawB K) [] H' H3 → ∀ b : Bool, b = (dy wk s k n).2 → ∀ t, H3 t = none → [V.ref t, V.bl b].length ≤ sizeLine ∧ ∀ p2, (upd H3 t (.tup ts)) p2 = none → Q (.ref p2) (upd (upd H3 t (.tup ts)) p2 (.tup [.ref t, .bl b])) := fun H3 g3 b eb t nt => by
        subst eb
        refine ⟨by show 2 ≤ sizeLine; decide, fun p2 n2 => ?_⟩
        obtain ⟨g4, e4⟩ := (Gw.refl (lawB K) [] _).addS (o := .tup ts) nt
        obtain ⟨g5, e5⟩ := (Gw.refl (lawB K) [] _).addS (o := .tup [.ref t, .bl (dy wk s k n).2]) n2
        refine hQ p2 (.ref t) _ (((g.trans g3).trans g4).trans g5) e5 ⟨t, ts, rfl, g5.tups _ _ e4, ?_⟩
        have := ((al.gw g3).gw g4).gw g5
        show NkAll _ ((dy wk s k n).1.map kI) _
        rw [show (dy wk s k n).1 = (r.foldl bstep (s, [])).1 by show (beh s (wk.route k n)).1 = _; rw [hr0]; rfl]
        exact this
      have eC2 := g2.keep c _ (by simp) eC (fun _ z => nomatch z)
      have ed : (dy wk s k n).2 = (hasW wk k r && isC wk k (r.foldl bstep (s, [])).2) := by
        show (hasW wk k (wk.route k n) && isC wk k (beh s (wk.route k n)).2) = _
        rw [hr0]
        rfl
      cases eh : hasW wk k r with
      | false =>
        refine ⟨_, rfl, ?_⟩
        refine iteF ?_
        exact ⟨_, rfl, tr, ts, rfl, .inl ⟨.of (g2.keep tr _ (by simp) ep (fun _ z => nomatch z)), fun t nt => ⟨_, rfl, fin _ g2 false (by rw [ed, eh]; rfl) t nt⟩⟩⟩
      | true =>
        refine ⟨_, rfl, ?_⟩
        refine iteT ?_
        have gb := g.trans g2
        refine ⟨_, rfl, ba, rfl, ⟨_, .of (gb.tups _ _ ebb)⟩, fun D2 hD2 => filt_lc (B := lawB K) (neg := false) 12 8 (by decide) (by show 12 < 13; decide) rfl (gb.tups _ _ ebb) eC2 hD2 (by omega) fun H3 e3 g3 => ?_⟩
        refine ⟨by show 0 ≤ sizeLine; exact Nat.zero_le _, fun z2 nz2 => ?_⟩
        obtain ⟨g4, e4⟩ := g3.addS (o := .lst []) nz2
        refine a_nil (.of ((Gw.new (B := lawB K) (M := []) (o := .lst []) nz2).keep D2 _ (by simp) e3 (fun _ z => nomatch z))) (.of e4) ?_
        rw [isC_eq]
        have g6 := g2.trans g4
        exact ⟨_, rfl, tr, ts, rfl, .inl ⟨.of (g6.keep tr _ (by simp) ep (fun _ z => nomatch z)), fun t nt => ⟨_, rfl, fin _ g6 _ (by rw [ed, eh]; rfl) t nt⟩⟩⟩
/-! ### _law_lowest, _law_add -/
def spLLowest (K : PySem.W.Frag) : Sp := fun vs H Q _ => ∃ a b : Nat, vs = [.int a, .int b] ∧ 0 < b ∧ b < 2 ^ 8000 ∧ ∀ v H', Gw (lawB K) [] H H' → NkV H' (kP (low a b)) v → Q v H'
abbrev nLLowest : List Str := ["_law_top", "_law_bottom", "_law_one", "_law_other"]
theorem scLLowest : FnScope nLLowest ["_law_top", "_law_bottom"] (defScope sLLowest) := ⟨rfl, rfl, rfl, by decide +kernel, rfl, by decide +kernel, by decide +kernel⟩
theorem ok_lawLowest (T : Tx K mg base) : Cal P w K mg base CX0 "_law_lowest" 1 ["_law_top", "_law_bottom"] (spLLowest K) := by
  refine T.cal (st := sLLowest) 34 rfl T.gllaw_lowest scLLowest (fun _ _ _ _ _ _ us hl => match us, hl with | [_, _], _ => rfl) (fun vs H Q E h => ?_) (fun A outer s0 H vs Q E hr h => ?_)
  · obtain ⟨a, b, rfl, _⟩ := h
    rfl
  · obtain ⟨a, b, rfl, h0, hb, hQ⟩ := h
    refine ⟨_, PSs.nox (pss_cons (ps_par (i := 2) (j := 3) rfl scLLowest.nd rfl rfl (by decide) rfl rfl (pa_cons (pv 0) (pa_cons (pv 1) pa_nil)) rfl)
      (pss_cons (ps_while PassesOwn.never (pt_cmpR op_ne (pv 3) pe_int (nomark _)) (pss_one (ps_par (i := 2) (j := 3) rfl scLLowest.nd rfl rfl (by decide) rfl rfl (pa_cons (pv 3) (pa_cons (pe_op op_modN (pe_callTy call_int1 rfl T.frint bInt (pa_cons (pv 2) pa_nil)) (pv 3)) pa_nil)) rfl)))
      (pss_one (ps_ret (pe_tup (pa_cons (pe_op op_fdivW (pv 0) (pv 2)) (pa_cons (pe_op op_fdivW (pv 1) (pv 2)) pa_nil))))))), ?_⟩
    have g0 : 0 < Nat.gcd a b := Nat.gcd_pos_of_pos_right a h0
    have g1 : Nat.gcd a b ≤ b := Nat.gcd_le_right a h0
    have cd : ∀ i : Int, CDivW i (Nat.gcd a b : Nat) := fun i => wide_div (b := 8000) (by omega) (by rw [Int.natAbs_natCast]; omega) (by decide) (by decide)
    refine ⟨_, rfl, _, rfl, _, _, rfl, ?_⟩
    refine ⟨fun m σ H' => ∃ x : Nat, σ = [some (.int a), some (.int b), some (.int x), some (.int m)] ∧ H' = H ∧ Nat.gcd x m = Nat.gcd a b, ⟨b, a, rfl, rfl, rfl⟩, ?_⟩
    rintro m σ H' ⟨x, rfl, rfl, e⟩
    refine ⟨_, rfl, rfl, _, rfl, ?_⟩
    rw [dec_int]
    by_cases hm : m = 0
    · subst hm
      refine iteF ?_
      rw [Nat.gcd_zero_right] at e
      subst e
      refine ⟨_, rfl, _, rfl, _, _, rfl, rfl, cd _, _, rfl, _, rfl, _, _, rfl, rfl, cd _, by show 2 ≤ sizeLine; decide, fun p np => ?_⟩
      refine hQ _ _ (.new np) ⟨p, _, rfl, upd_same, _, _, rfl, ?_, _, _, rfl, ?_, rfl⟩
      · show V.int ((a : Int) / (Nat.gcd a b : Nat)) = V.int ((a / Nat.gcd a b : Nat) : Int)
        rfl
      · show V.int ((b : Int) / (Nat.gcd a b : Nat)) = V.int ((b / Nat.gcd a b : Nat) : Int)
        rfl
    · have t : (!(((m : Nat) : Int) == 0)) = true := by simp [hm]
      rw [t]
      refine iteT ⟨fun σ' H'' => ∃ x m' : Nat, m' < m ∧ σ' = [some (.int a), some (.int b), some (.int x), some (.int m')] ∧ H'' = H' ∧ Nat.gcd x m' = Nat.gcd a b, fun σ' H'' ⟨x, m', l, r⟩ => ⟨m', l, x, r⟩, ?_⟩
      refine ⟨_, rfl, _, rfl, .inl ⟨_, rfl, _, rfl, _, _, rfl, rfl, by omega, _, _, rfl, m, x % m, Nat.mod_lt _ (by omega), ?_, rfl, ?_⟩⟩
      · show [some (V.int (a : Nat)), some (V.int (b : Nat)), some (V.int (m : Nat)), some (V.int ((x : Int).fmod (m : Nat)))] = _
        rw [fmod_nat]
      · rw [← e, Nat.gcd_comm x m, Nat.gcd_rec m x, Nat.gcd_comm]
abbrev nLAdd : List Str := ["_law_one", "_law_other"]
theorem scLAdd : FnScope nLAdd ["_law_one", "_law_other"] (defScope sAdd) := ⟨rfl, rfl, rfl, by decide +kernel, rfl, by decide +kernel, by decide +kernel⟩
def spLAdd (K : PySem.W.Frag) : Sp := fun vs H Q _ => ∃ v1 v2 a b, vs = [v1, v2] ∧ NkV H (kP a) v1 ∧ NkV H (kP b) v2 ∧ 0 < a.2 ∧ 0 < b.2 ∧ a.1 < 2 ^ 2000 ∧ a.2 < 2 ^ 2000 ∧ b.1 < 2 ^ 2000 ∧ b.2 < 2 ^ 2000 ∧ ∀ v H', Gw (lawB K) [] H H' → NkV H' (kP (low (a.1 * b.2 + b.1 * a.2) (a.2 * b.2))) v → Q v H'
theorem ok_lawAdd (T : Tx K mg base) : Cal P w K mg base CX0 "_law_add" 2 ["_law_one", "_law_other"] (spLAdd K) := by
  refine T.cal (st := sAdd) 36 rfl T.gllaw_add scLAdd (fun _ _ _ _ _ _ us hl => match us, hl with | [_, _], _ => rfl) (fun vs H Q E h => ?_) (fun A outer s0 H vs Q E hr h => ?_)
  · obtain ⟨a, b, c, d, rfl, _⟩ := h
    rfl
  · obtain ⟨v1, v2, x, y, rfl, ⟨p1, us1, rfl, e1, a1, _, rfl, n1, a2, _, rfl, n2, rfl⟩, ⟨p2, us2, rfl, e2, b1, _, rfl, m1, b2, _, rfl, m2, rfl⟩, h1, h2, h3, h4, h5, h6, hQ⟩ := h
    obtain rfl : a1 = .int x.1 := n1
    obtain rfl : a2 = .int x.2 := n2
    obtain rfl : b1 = .int y.1 := m1
    obtain rfl : b2 = .int y.2 := m2
    refine ⟨_, PSs.nox (pss_one (ps_ret (pe_cal (ok_lawLowest T) hr rfl (pa_cons (pe_op op_add (pe_op op_mulW (pe_ix ix_tupK (pv 0) pe_int (fun _ _ => rfl)) (pe_ix ix_tupK (pv 1) pe_int (fun _ _ => rfl))) (pe_op op_mulW (pe_ix ix_tupK (pv 1) pe_int (fun _ _ => rfl)) (pe_ix ix_tupK (pv 0) pe_int (fun _ _ => rfl)))) (pa_cons (pe_op op_mulW (pe_ix ix_tupK (pv 0) pe_int (fun _ _ => rfl)) (pe_ix ix_tupK (pv 1) pe_int (fun _ _ => rfl))) pa_nil))))), ?_⟩
    have cm : ∀ i j : Nat, i < 2 ^ 2000 → j < 2 ^ 2000 → CMulW (i : Int) (j : Int) := fun i j hi hj => wide_mul (a := 2000) (b := 2000) (by rw [Int.natAbs_natCast]; exact hi) (by rw [Int.natAbs_natCast]; exact hj) (by decide) (by decide) (by decide)
    refine ⟨_, rfl, _, _, _, _, rfl, rfl, .of e1, atI_nat (j := 0) rfl, _, rfl, _, _, _, _, rfl, rfl, .of e2, atI_nat (j := 1) rfl, _, _, rfl, rfl, cm _ _ h3 h6, ?_⟩
    refine ⟨_, rfl, _, _, _, _, rfl, rfl, .of e2, atI_nat (j := 0) rfl, _, rfl, _, _, _, _, rfl, rfl, .of e1, atI_nat (j := 1) rfl, _, _, rfl, rfl, cm _ _ h5 h4, ?_⟩
    refine ⟨_, _, rfl, rfl, ?_⟩
    refine ⟨_, rfl, _, _, _, _, rfl, rfl, .of e1, atI_nat (j := 1) rfl, _, rfl, _, _, _, _, rfl, rfl, .of e2, atI_nat (j := 1) rfl, _, _, rfl, rfl, cm _ _ h4 h6, ?_⟩
    refine ⟨x.1 * y.2 + y.1 * x.2, x.2 * y.2, by simp, Nat.mul_pos h1 h2, ?_, hQ⟩
    refine Nat.lt_of_lt_of_le (Nat.mul_lt_mul'' h4 h6) ?_
    rw [← Nat.pow_add]
    exact Nat.pow_le_pow_right (by decide) (by decide)
end
end Dy
end
section
set_option Elab.async false
set_option linter.all false
set_option maxRecDepth 100000
set_option maxHeartbeats 4000000
set_option pp.maxSteps 1500
set_option exponentiation.threshold 20000
/-! _law_rows. -/
namespace Dy
open PySem PySem.Spec PyProof.Rows L2
/-- the rows that end well, each with its kinds and where it ends -/
def rowK (w : Wks) (p : List Nat) (x : List Nat × Stand) (k : Nat) : List (List Nat × Stand) := if (dy w x.2 k (p.getD k 0)).2 = true then [(x.1 ++ [k], (dy w x.2 k (p.getD k 0)).1)] else []
def rowX (w : Wks) (p : List Nat) (n : Nat) (x : List Nat × Stand) : List (List Nat × Stand) := (List.range n).flatMap (rowK w p x)
def rowsM (w : Wks) (p : List Nat) : Nat → List (List Nat × Stand)
  | 0 => [([], w.vats)]
  | m + 1 => (rowsM w p m).flatMap (rowX w p w.kinds.length)
theorem flatMap_len {α β : Type} {f : α → List β} {c : Nat} : ∀ {l : List α}, (∀ x ∈ l, (f x).length ≤ c) → (l.flatMap f).length ≤ l.length * c
  | [], _ => Nat.zero_le _
  | x :: l, h => by
    rw [List.flatMap_cons, List.length_append, List.length_cons, Nat.succ_mul]
    have a := h x List.mem_cons_self
    have b := flatMap_len (l := l) fun y hy => h y (List.mem_cons_of_mem _ hy)
    omega
theorem rowK_len {w : Wks} {p : List Nat} {x : List Nat × Stand} {k : Nat} : (rowK w p x k).length ≤ 1 := by
  unfold rowK
  split
  · exact Nat.le_refl _
  · exact Nat.zero_le _
theorem rowX_len {w : Wks} {p : List Nat} {n : Nat} {x : List Nat × Stand} : (rowX w p n x).length ≤ n := by
  have := flatMap_len (f := rowK w p x) (c := 1) (l := List.range n) fun y _ => rowK_len
  rw [List.length_range, Nat.mul_one] at this
  exact this
theorem rowX_succ {w : Wks} {p : List Nat} {n : Nat} {x : List Nat × Stand} : rowX w p (n + 1) x = rowX w p n x ++ rowK w p x n := by
  unfold rowX
  rw [List.range_succ, List.flatMap_append, List.flatMap_singleton]
theorem rowsM_len {w : Wks} {p : List Nat} (h : w.kinds.length ≤ 3) : ∀ {m : Nat}, (rowsM w p m).length ≤ 3 ^ m
  | 0 => Nat.le_refl _
  | m + 1 => by
    have a := flatMap_len (f := rowX w p w.kinds.length) (c := 3) (l := rowsM w p m) fun y _ => Nat.le_trans rowX_len h
    have b := rowsM_len (p := p) h (m := m)
    show ((rowsM w p m).flatMap _).length ≤ _
    rw [Nat.pow_succ]
    exact Nat.le_trans a (Nat.mul_le_mul_right _ b)
def RowOk (w : Wks) (m : Nat) (x : List Nat × Stand) : Prop := x.1.length = m ∧ (∀ k ∈ x.1, k < w.kinds.length) ∧ StOk w.dyes w.vats.length x.2
theorem rowK_ok {w : Wks} {p : List Nat} {m k : Nat} {x y : List Nat × Stand} (h : RowOk w m x) (hk : k < w.kinds.length) (hy : y ∈ rowK w p x k) : RowOk w (m + 1) y := by
  unfold rowK at hy
  split at hy
  · rw [List.mem_singleton.mp hy]
    refine ⟨by rw [List.length_append, h.1]; rfl, fun j hj => ?_, dy_ok h.2.2 _ _⟩
    rcases List.mem_append.mp hj with z | z
    · exact h.2.1 j z
    · rw [List.mem_singleton.mp z]
      exact hk
  · cases hy
theorem rowsM_ok {w : Wks} {p : List Nat} (ok : WksOk w) : ∀ {m : Nat}, ∀ x ∈ rowsM w p m, RowOk w m x
  | 0, x, hx => by
    rw [List.mem_singleton.mp hx]
    exact ⟨rfl, fun _ z => (nomatch z), StOk.of w ok⟩
  | m + 1, x, hx => by
    obtain ⟨y, hy, hx⟩ := List.mem_flatMap.mp hx
    obtain ⟨k, hk, hx⟩ := List.mem_flatMap.mp hx
    exact rowK_ok (rowsM_ok ok y hy) (List.mem_range.mp hk) hx
/-- a row as the law holds it -/
def kRow (x : List Nat × Stand) : NestedKey := .tup [kI (natI x.1), kS x.2]
section
variable {P : Program} {w : World} {K : PySem.W.Frag} {mg : Str → Option Value} {base : Heap}
def spLRows (K : PySem.W.Frag) : Sp := fun vs H Q _ => ∃ v1 v2 w p, ∃ m : Nat, vs = [v1, v2, .int m] ∧ NkV H (Wks.key w) v1 ∧ NkV H (kI (natI p)) v2 ∧ WksOk w ∧ PlanOk w p ∧ m ≤ 4 ∧
  ∀ l us H', Gw (lawB K) [] H H' → H l = none → H' l = some (.lst us) → NkAll H' ((rowsM w p m).map fun x => kI (natI x.1)) us → Q (.ref l) H'
abbrev nLRows : List Str := ["_law_works_here", "_law_plan", "_law_many", "_law_found", "_law_turn", "_law_longer", "_law_kinds", "_law_stand", "_law_kind", "_law_there", "_law_good"]
theorem scLRows : FnScope nLRows ["_law_works_here", "_law_plan", "_law_many"] (defScope sRows) := ⟨rfl, rfl, rfl, by decide +kernel, rfl, by decide +kernel, by decide +kernel⟩
theorem ok_lawRows (T : Tx K mg base) : Cal P w K mg base CX0 "_law_rows" 2 ["_law_works_here", "_law_plan", "_law_many"] (spLRows K) := by
  refine T.cal (st := sRows) 35 rfl T.gllaw_rows scLRows (fun _ _ _ _ _ _ us hl => match us, hl with | [_, _, _], _ => rfl) (fun vs H Q E h => ?_) (fun A outer s0 H vs Q E hr h => ?_)
  · obtain ⟨v1, v2, a, b, d, rfl, _⟩ := h
    rfl
  · obtain ⟨v1, v2, wk, p, m, rfl, nw, np, ok, hp, hm, hQ⟩ := h
    refine ⟨_, PSs.nox (pss_cons (ps_set (i := 3) scLRows.nd rfl (.inl rfl) (pe_lst (pa_cons (pe_tup (pa_cons (pe_tup pa_nil) (pa_cons (pe_ix ix_tupK (pv 0) pe_int (fun _ _ => rfl)) pa_nil))) pa_nil)))
      (pss_cons (ps_for PassesOwn.never rfl (pi_range1 rfl T.frrange (pa_cons (pv 2) pa_nil)) (pg_name (i := 4) scLRows.nd rfl (.inl rfl)) (pss_cons (ps_set (i := 5) scLRows.nd rfl (.inl rfl) (pe_lst pa_nil))
      (pss_cons (ps_for PassesOwn.never rfl (pi_listK (pv 3)) (pg_tupK (n := 2) rfl (pgs_cons (pg_name (i := 6) scLRows.nd rfl (.inl rfl)) (pgs_cons (pg_name (i := 7) scLRows.nd rfl (.inl rfl)) pgs_nil))) (pss_one (ps_for PassesOwn.never rfl (pi_range1 rfl T.frrange (pa_cons (pe_callB cr_lenK rfl T.frlen bLen (pa_cons (pe_ix ix_tupK (pv 0) pe_int (fun _ _ => rfl)) pa_nil)) pa_nil)) (pg_name (i := 8) scLRows.nd rfl (.inl rfl)) (pss_cons (ps_asg (pe_cal (ok_lawDyed T) hr rfl (pa_cons (pv 0) (pa_cons (pv 7) (pa_cons (pv 8) (pa_cons (pe_ix ix_tupK (pv 1) (pv 8) (fun _ _ => rfl)) pa_nil))))) (pg_tupK (n := 2) rfl (pgs_cons (pg_name (i := 9) scLRows.nd rfl (.inl rfl)) (pgs_cons (pg_name (i := 10) scLRows.nd rfl (.inl rfl)) pgs_nil))))
      (pss_one (ps_set (i := 5) scLRows.nd rfl (.inl rfl) (pe_ifExp (pt_val (pv 10)) (pe_op op_cat (pv 5) (pe_lst (pa_cons (pe_tup (pa_cons (pe_op op_catK (pv 6) (pe_tup (pa_cons (pv 8) pa_nil))) (pa_cons (pv 9) pa_nil))) pa_nil))) (pv 5))))))))
      (pss_one (ps_set (i := 3) scLRows.nd rfl (.inl rfl) (pv 5))))))
      (pss_one (ps_ret (pe_lc (own := [("_law_kinds", 6), ("_law_stand", 7)]) (g := (gTup K 2 (gCons (gName 6) (gCons (gName 7) gNil)))) rfl scLRows.nd (pi_listK (pv 3)) (blkOk_by (N := nLRows) (sc := defScope sRows) (by decide +kernel)) (fun _ _ _ _ _ => pg_tupK (n := 2) rfl (pgs_cons (pg_name (i := 6) scLRows.nd rfl (.inl rfl) (.inr rfl)) (pgs_cons (pg_name (i := 7) scLRows.nd rfl (.inl rfl) (.inr rfl)) pgs_nil))) (fun _ _ _ _ _ => pts_nil) (fun _ _ _ _ _ => pv 6)))))), ?_⟩
    have nw0 := nw
    have np0 := np
    obtain ⟨wx, us, rfl, ex, v0, _, rfl, n0, u1, _, rfl, n1, u2, _, rfl, n2, rfl⟩ := nw
    obtain ⟨px, ps, rfl, epx, alp⟩ := np
    obtain rfl := NkAll.nums.mp alp
    obtain ⟨ka, kvs, rfl, eka, alk⟩ := n2
    have lk : kvs.length = wk.kinds.length := by
      have := alk.length
      simpa using this.symm
    have k2 := ok.k2
    refine ⟨by show 0 ≤ sizeLine; exact Nat.zero_le _, fun t nt => ?_⟩
    obtain ⟨gt, et⟩ := (Gw.refl (lawB K) [] H).addS (o := .tup []) nt
    refine ⟨_, rfl, _, _, _, _, rfl, rfl, .of (gt.tups _ _ ex), atI_nat (j := 1) rfl, by show 2 ≤ sizeLine; decide, fun q nq => ⟨by show 1 ≤ sizeLine; decide, fun fo nfo => ?_⟩⟩
    obtain ⟨gq, eq⟩ := gt.addS (o := .tup [.ref t, u1]) nq
    obtain ⟨gf, ef⟩ := gq.addS (o := .lst [.ref q]) nfo
    have gqf := (Gw.refl (lawB K) [] _).add (o := .lst [.ref q]) nfo
    have gtq := (Gw.refl (lawB K) [] _).add (o := .tup [.ref t, u1]) nq
    have nfoH : H fo = none := gq.dom _ nfo
    have hb : ∀ i, (rowsM wk p i).length ≤ 3 ^ i := fun i => rowsM_len k2
    refine ⟨_, rfl, m, rfl, by omega, by omega, ?_⟩
    refine for_range (lo := 0) (n := m) (fun i σ H' => i ≤ m ∧ ∃ (fo : Addr) (us : List V) (x4 x5 x6 x7 x8 x9 x10 : Option V), σ = [some (.ref wx), some (.ref px), some (.int m), some (.ref fo), x4, x5, x6, x7, x8, x9, x10] ∧ Gw (lawB K) [] H H' ∧ H fo = none ∧ H' fo = some (.lst us) ∧ NkAll H' ((rowsM wk p i).map kRow) us) ?_ (fun i σ H' hi hP => ?_) fun σ H' hP => ?_
    · exact ⟨Nat.zero_le _, fo, _, none, none, none, none, none, none, none, rfl, gf, nfoH, ef, ⟨_, _, rfl, ⟨q, _, rfl, gqf.tups _ _ eq, _, _, rfl, ⟨t, _, rfl, (gtq.trans gqf).tups _ _ et, rfl⟩, _, _, rfl, n1.gw gf, rfl⟩, rfl⟩⟩
    · obtain ⟨_, fo, fs, x4, x5, x6, x7, x8, x9, x10, rfl, g, nfo, ef, al⟩ := hP
      rw [Int.zero_add]
      have lR := hb i
      have p4 : 3 ^ i ≤ 27 := Nat.le_trans (Nat.pow_le_pow_right (by decide) (show i ≤ 3 by omega)) (by decide)
      have lfs : fs.length = (rowsM wk p i).length := by
        have := al.length
        rw [List.length_map] at this
        exact this.symm
      have okR := rowsM_ok (p := p) ok (m := i)
      have eRs : rowsM wk p (i + 1) = (rowsM wk p i).flatMap (rowX wk p wk.kinds.length) := rfl
      rw [eRs]
      generalize rowsM wk p i = R at *
      refine ⟨by show 0 ≤ sizeLine; exact Nat.zero_le _, fun lo nlo => ?_⟩
      obtain ⟨gl, el⟩ := g.addS (o := .lst []) nlo
      have gl1 := (Gw.refl (lawB K) [] _).add (o := .lst []) nlo
      refine ⟨_, rfl, fo, rfl, ⟨_, .of (gl1.keep fo _ (by simp) ef (fun _ z => nomatch z))⟩, ?_⟩
      refine for_list (xs := fs) (fun j σ H2 => ∃ (lo : Addr) (ls : List V) (y6 y7 y8 y9 y10 : Option V), σ = [some (.ref wx), some (.ref px), some (.int m), some (.ref fo), some (.int i), some (.ref lo), y6, y7, y8, y9, y10] ∧ Gw (lawB K) [] H' H2 ∧ H lo = none ∧ H2 lo = some (.lst ls) ∧ NkAll H2 (((R.take j).flatMap (rowX wk p wk.kinds.length)).map kRow) ls) ?_ (fun j σ H2 _ hP => ?_) (fun j x σ H2 hx hP => ?_) fun σ H2 hP => ?_
      · exact ⟨lo, [], _, _, _, _, _, rfl, gl1, g.dom _ nlo, el, rfl⟩
      · obtain ⟨_, _, _, _, _, _, _, _, g2, _⟩ := hP
        exact .of (g2.keep fo _ (by simp) ef (fun _ z => nomatch z))
      · obtain ⟨lo, ls, y6, y7, y8, y9, y10, rfl, g2, nlo2, elo, als⟩ := hP
        have hj : j < R.length := lfs ▸ (List.getElem?_eq_some_iff.mp hx).1
        obtain ⟨x', ex', nx'⟩ := al.get (i := j) (k := kRow R[j]) (by rw [List.getElem?_map, List.getElem?_eq_getElem hj] <;> rfl)
        obtain rfl : x' = x := by
          rw [ex'] at hx
          exact Option.some.inj hx
        have nx := nx'.gw g2
        obtain ⟨e, es, rfl, ee, y0, _, rfl, m0, y1, _, rfl, m1, rfl⟩ := nx
        have okx := okR R[j] (List.getElem_mem hj)
        have etk : R.take (j + 1) = R.take j ++ [R[j]] := by rw [List.take_add_one, List.getElem?_eq_getElem hj] <;> rfl
        have lT : ((R.take j).flatMap (rowX wk p wk.kinds.length)).length ≤ 100 := by
          have := flatMap_len (f := rowX wk p wk.kinds.length) (c := 3) (l := R.take j) fun y _ => Nat.le_trans rowX_len k2
          have := List.length_take_le j R
          omega
        rw [etk, List.flatMap_append, List.flatMap_singleton]
        generalize (R.take j).flatMap (rowX wk p wk.kinds.length) = L0 at *
        generalize R[j] = rx at *
        have ga := g.trans g2
        refine ⟨e, _, rfl, .of ee, rfl, _, _, rfl, _, _, rfl, rfl, ?_⟩
        refine ⟨_, rfl, _, _, _, _, rfl, rfl, .of (ga.tups _ _ ex), atI_nat (j := 2) rfl, ka, _, rfl, .inr (.of (ga.tups _ _ eka)), ?_⟩
        refine ⟨_, rfl, by omega, by omega, ?_⟩
        refine for_range (lo := 0) (n := kvs.length) (fun k σ H3 => k ≤ kvs.length ∧ ∃ (lo : Addr) (ls : List V) (z8 z9 z10 : Option V), σ = [some (.ref wx), some (.ref px), some (.int m), some (.ref fo), some (.int i), some (.ref lo), some y0, some y1, z8, z9, z10] ∧ Gw (lawB K) [] H2 H3 ∧ H lo = none ∧ H3 lo = some (.lst ls) ∧ NkAll H3 ((L0 ++ rowX wk p k rx).map kRow) ls) ?_ (fun k σ H3 hk hP => ?_) fun σ H3 hP => ?_
        · exact ⟨Nat.zero_le _, lo, ls, _, _, _, rfl, .refl _ _ _, nlo2, elo, by rw [show rowX wk p 0 rx = [] from rfl, List.append_nil]; exact als⟩
        · obtain ⟨_, lo, ls, z8, z9, z10, rfl, g3, nlo3, elo, als⟩ := hP
          rw [Int.zero_add]
          have gb := ga.trans g3
          have hkk : k < wk.kinds.length := lk ▸ hk
          have epk : ((natI p).map V.int)[k]? = some (.int (p.getD k 0 : Nat)) := by
            have : k < p.length := by rw [hp.len]; exact hkk
            unfold natI
            rw [List.getElem?_map, List.getElem?_map, List.getElem?_eq_getElem this, List.getD_eq_getElem?_getD, List.getElem?_eq_getElem this]
            rfl
          refine ⟨_, rfl, _, rfl, _, rfl, _, rfl, _, rfl, _, _, _, _, rfl, rfl, .of (gb.tups _ _ epx), atI_nat epk, ?_⟩
          refine ⟨_, _, wk, rx.2, k, p.getD k 0, rfl, nw0.gw gb, m1.gw g3, ok, okx.2.2, hkk, hp.lt k hkk, fun q2 l2 H4 g4 eq2 nl2 => ?_⟩
          refine ⟨q2, _, rfl, .of eq2, rfl, _, _, rfl, _, _, rfl, rfl, ?_⟩
          have gc := gb.trans g4
          have ll : (L0 ++ rowX wk p k rx).length ≤ 103 := by
            rw [List.length_append]
            have := rowX_len (w := wk) (p := p) (n := k) (x := rx)
            omega
          have lls : ls.length = (L0 ++ rowX wk p k rx).length := by
            have := als.length
            rw [List.length_map] at this
            exact this.symm
          rw [rowX_succ, ← List.append_assoc]
          generalize L0 ++ rowX wk p k rx = L1 at *
          have elo4 := g4.keep lo _ (by simp) elo (fun _ z => nomatch z)
          refine ⟨_, rfl, _, rfl, ?_⟩
          unfold rowK
          cases eg : (dy wk rx.2 k (p.getD k 0)).2 with
          | false =>
            refine iteF ⟨_, rfl, hk, lo, ls, _, _, _, rfl, g3.trans g4, nlo3, elo4, ?_⟩
            rw [if_neg Bool.false_ne_true, List.append_nil]
            exact als.gw g4
          | true =>
            refine iteT ?_
            obtain ⟨ya, yas, rfl, eya, aly⟩ := (m0.gw g3).gw g4
            obtain rfl := NkAll.nums.mp aly
            refine ⟨_, rfl, _, rfl, _, rfl, by show 1 ≤ sizeLine; decide, fun z nz => ?_⟩
            obtain ⟨g5, e5⟩ := (Gw.refl (lawB K) [] _).addS (o := .tup [.int k]) nz
            refine a_cat (B := lawB K) (g5.tups _ _ eya) e5 (by simp; have := okx.1; omega) fun p6 H6 g6 ep6 => ?_
            refine ⟨_, rfl, by show 2 ≤ sizeLine; decide, fun q7 nq7 => ⟨by show 1 ≤ sizeLine; decide, fun l8 nl8 => ?_⟩⟩
            obtain ⟨g7, e7⟩ := (g5.trans g6).addS (o := .tup [.ref p6, l2]) nq7
            obtain ⟨g8, e8⟩ := g7.addS (o := .lst [.ref q7]) nl8
            have g78 := (Gw.refl (lawB K) [] _).add (o := .lst [.ref q7]) nl8
            have g67 := (Gw.refl (lawB K) [] _).add (o := .tup [.ref p6, l2]) nq7
            refine ⟨lo, l8, _, _, rfl, rfl, g8.keep lo _ (by simp) elo4 (fun _ z => nomatch z), e8, by rw [sizeLine_eq, lls]; show _ + 1 ≤ _; omega, fun u9 nu9 => ?_⟩
            obtain ⟨g9, e9⟩ := g8.addS (o := .lst (ls ++ [.ref q7])) nu9
            have g89 := (Gw.refl (lawB K) [] _).add (o := .lst (ls ++ [.ref q7])) nu9
            refine ⟨hk, u9, _, _, _, _, rfl, (g3.trans g4).trans g9, (gc.trans g8).dom _ nu9, e9, ?_⟩
            rw [if_pos rfl, List.map_append]
            refine NkAll.snoc (k := kRow (rx.1 ++ [k], (dy wk rx.2 k (p.getD k 0)).1)) ?_ ((als.gw g4).gw g9)
            refine ⟨q7, _, rfl, (g78.trans g89).tups _ _ e7, _, _, rfl, ⟨p6, _, rfl, ((g67.trans g78).trans g89).tups _ _ ep6, ?_⟩, _, _, rfl, nl2.gw g9, rfl⟩
            refine NkAll.nums.mpr ?_
            unfold natI
            rw [List.map_append, List.map_append]
            rfl
        · obtain ⟨_, lo, ls, z8, z9, z10, rfl, g3, nlo3, elo, als⟩ := hP
          rw [lk] at als
          exact ⟨lo, ls, _, _, _, _, _, rfl, g2.trans g3, nlo3, elo, als⟩
      · obtain ⟨lo, ls, y6, y7, y8, y9, y10, rfl, g2, nlo2, elo, als⟩ := hP
        rw [lfs, List.take_length] at als
        exact ⟨_, rfl, hi, lo, ls, _, _, _, _, _, _, _, rfl, g.trans g2, nlo2, elo, als⟩
    · obtain ⟨_, fo, fs, x4, x5, x6, x7, x8, x9, x10, rfl, g, nfo, ef, al⟩ := hP
      have lfs : fs.length = (rowsM wk p m).length := by
        have := al.length
        rw [List.length_map] at this
        exact this.symm
      have lR := hb m
      have p4 : 3 ^ m ≤ 81 := Nat.le_trans (Nat.pow_le_pow_right (by decide) (show m ≤ 4 by omega)) (by decide)
      refine ⟨_, rfl, fo, rfl, ⟨_, .of ef⟩, fun D hD => ?_⟩
      refine lc_list (K := K) (a := fo) (xs := fs) (Qd := fun H => Q (.ref D) H) (fun j H2 => ∃ ys, H2 D = some (.lst ys) ∧ NkAll H2 (((rowsM wk p m).take j).map fun x => kI (natI x.1)) ys ∧ Gw (lawB K) [] H' H2) ?_ (fun j H2 _ hP => ?_) (fun j x H2 hx hP => ?_) fun H2 hP => ?_
      · exact ⟨[], upd_same, rfl, .new hD⟩
      · obtain ⟨_, _, _, g2⟩ := hP
        exact .of (g2.keep fo _ (by simp) ef (fun _ z => nomatch z))
      · obtain ⟨ys, eD, aly, g2⟩ := hP
        have hj : j < (rowsM wk p m).length := lfs ▸ (List.getElem?_eq_some_iff.mp hx).1
        obtain ⟨x', ex', nx'⟩ := al.get (i := j) (k := kRow (rowsM wk p m)[j]) (by rw [List.getElem?_map, List.getElem?_eq_getElem hj] <;> rfl)
        obtain rfl : x' = x := by
          rw [ex'] at hx
          exact Option.some.inj hx
        have nx := nx'.gw g2
        obtain ⟨e, es, rfl, ee, y0, _, rfl, m0, y1, _, rfl, m1, rfl⟩ := nx
        have etk : (rowsM wk p m).take (j + 1) = (rowsM wk p m).take j ++ [(rowsM wk p m)[j]] := by rw [List.take_add_one, List.getElem?_eq_getElem hj] <;> rfl
        have lys : ys.length = j := by
          have := aly.length
          rw [List.length_map, List.length_take] at this
          omega
        refine ⟨e, _, rfl, .of ee, rfl, _, _, rfl, _, _, rfl, rfl, rfl, ?_⟩
        unfold tYes
        refine iteT ⟨_, rfl, ys, eD, by rw [sizeLine_eq]; omega, ?_⟩
        have g3 : Gw (lawB K) [D] H2 (upd H2 D (.lst (ys ++ [y0]))) := .lst eD
        refine ⟨ys ++ [y0], upd_same, ?_, g2.put (.inl hD) eD .lst⟩
        rw [etk, List.map_append]
        exact NkAll.snoc (k := kI (natI (rowsM wk p m)[j].1)) (m0.gw g3) (aly.gw g3)
      · obtain ⟨ys, eD, aly, g2⟩ := hP
        rw [lfs, List.take_length] at aly
        exact hQ D ys H2 (g.trans g2) (g.dom _ hD) eD aly
end
end Dy
end
section
set_option Elab.async false
set_option linter.all false
set_option maxRecDepth 100000
/-! Fractions in lowest terms, in plain Lean. -/
namespace Dy
open PySem PySem.Spec PyProof.Rows L2
theorem low_scale {a b k : Nat} (hk : 0 < k) : low (a * k) (b * k) = low a b := by
  unfold low
  rw [Nat.gcd_mul_right, Nat.mul_div_mul_right _ _ hk, Nat.mul_div_mul_right _ _ hk]
theorem low_eq {a b c d : Nat} (hb : 0 < b) (hd : 0 < d) (h : a * d = c * b) : low a b = low c d := by
  rw [← low_scale (a := a) (b := b) hd, ← low_scale (a := c) (b := d) hb, h, Nat.mul_comm b d]
theorem low_rep {a b : Nat} : (low a b).1 * b = a * (low a b).2 := by
  show a / Nat.gcd a b * b = a * (b / Nat.gcd a b)
  obtain ⟨x, hx⟩ := Nat.gcd_dvd_left a b
  obtain ⟨y, hy⟩ := Nat.gcd_dvd_right a b
  rcases Nat.eq_zero_or_pos (Nat.gcd a b) with e | e
  · rw [e] at hx hy
    rw [e, hx, hy]
    simp
  · have h1 : a / Nat.gcd a b = x := Nat.div_eq_of_eq_mul_right e hx
    have h2 : b / Nat.gcd a b = y := Nat.div_eq_of_eq_mul_right e hy
    rw [h1, h2]
    generalize Nat.gcd a b = g at *
    subst hx
    subst hy
    ac_rfl
theorem low_pos {a b : Nat} (h : 0 < b) : 0 < (low a b).2 := Nat.div_pos (Nat.gcd_le_right a h) (Nat.gcd_pos_of_pos_right a h)
theorem low_le1 {a b : Nat} : (low a b).1 ≤ a := Nat.div_le_self _ _
theorem low_le2 {a b : Nat} : (low a b).2 ≤ b := Nat.div_le_self _ _
theorem low_zero {b : Nat} (h : 0 < b) : low 0 b = (0, 1) := by
  unfold low
  rw [Nat.gcd_zero_left, Nat.zero_div, Nat.div_self h]
theorem low_self {b : Nat} (h : 0 < b) : low b b = (1, 1) := by
  unfold low
  rw [Nat.gcd_self, Nat.div_self h]
def addL (a b : Nat × Nat) : Nat × Nat := low (a.1 * b.2 + b.1 * a.2) (a.2 * b.2)
theorem add_low {x y d : Nat} (hd : 0 < d) : addL (low x d) (low y d) = low (x + y) d := by
  unfold addL
  have h1 := low_rep (a := x) (b := d)
  have h2 := low_rep (a := y) (b := d)
  have p1 := low_pos (a := x) hd
  have p2 := low_pos (a := y) hd
  generalize low x d = u at *
  generalize low y d = v at *
  refine low_eq (Nat.mul_pos p1 p2) hd ?_
  rw [Nat.add_mul, Nat.add_mul, show u.1 * v.2 * d = u.1 * d * v.2 by ac_rfl, show v.1 * u.2 * d = v.1 * d * u.2 by ac_rfl, h1, h2]
  congr 1 <;> ac_rfl
/-- part + one / n -/
theorem add_part {x y d n : Nat} (hd : 0 < d) (hn : 0 < n) : addL (low x (n * d)) ((low y d).1, (low y d).2 * n) = low (x + y) (n * d) := by
  unfold addL
  have h1 := low_rep (a := x) (b := n * d)
  have h2 := low_rep (a := y) (b := d)
  have p1 := low_pos (a := x) (Nat.mul_pos hn hd)
  have p2 := low_pos (a := y) hd
  generalize low x (n * d) = u at *
  generalize low y d = v at *
  refine low_eq (Nat.mul_pos p1 (Nat.mul_pos p2 hn)) (Nat.mul_pos hn hd) ?_
  show (u.1 * (v.2 * n) + v.1 * u.2) * (n * d) = (x + y) * (u.2 * (v.2 * n))
  rw [Nat.add_mul, Nat.add_mul, show u.1 * (v.2 * n) * (n * d) = u.1 * (n * d) * (v.2 * n) by ac_rfl, show v.1 * u.2 * (n * d) = v.1 * d * (u.2 * n) by ac_rfl, h1, h2]
  congr 1 <;> ac_rfl
theorem low_gt {x y d : Nat} (hd : 0 < d) : (low y d).1 * (low x d).2 < (low x d).1 * (low y d).2 ↔ y < x := by
  have h1 := low_rep (a := x) (b := d)
  have h2 := low_rep (a := y) (b := d)
  have p1 := low_pos (a := x) hd
  have p2 := low_pos (a := y) hd
  generalize low x d = u at *
  generalize low y d = v at *
  have e1 : v.1 * u.2 * d = y * (u.2 * v.2) := by rw [show v.1 * u.2 * d = v.1 * d * u.2 by ac_rfl, h2]; ac_rfl
  have e2 : u.1 * v.2 * d = x * (u.2 * v.2) := by rw [show u.1 * v.2 * d = u.1 * d * v.2 by ac_rfl, h1]; ac_rfl
  rw [← Nat.mul_lt_mul_right hd, e1, e2, Nat.mul_lt_mul_right (Nat.mul_pos p1 p2)]
theorem low_le {x y d e : Nat} (hd : 0 < d) (he : 0 < e) : (low y e).1 * (low x d).2 ≤ (low x d).1 * (low y e).2 ↔ y * d ≤ x * e := by
  have h1 := low_rep (a := x) (b := d)
  have h2 := low_rep (a := y) (b := e)
  have p1 := low_pos (a := x) hd
  have p2 := low_pos (a := y) he
  generalize low x d = u at *
  generalize low y e = v at *
  have e1 : v.1 * u.2 * (d * e) = y * d * (u.2 * v.2) := by rw [show v.1 * u.2 * (d * e) = v.1 * e * (u.2 * d) by ac_rfl, h2]; ac_rfl
  have e2 : u.1 * v.2 * (d * e) = x * e * (u.2 * v.2) := by rw [show u.1 * v.2 * (d * e) = u.1 * d * (v.2 * e) by ac_rfl, h1]; ac_rfl
  rw [← Nat.mul_le_mul_right_iff (Nat.mul_pos hd he), e1, e2, Nat.mul_le_mul_right_iff (Nat.mul_pos p1 p2)]
/-! ### the law's own best and random chances -/
def numB (rnd : Bool) (w : Wks) (ws : List Nat) (m : Nat) (s : Stand) : Nat := if rnd = true then cntR w ws (whl w w.kinds.length) m s else bestN w ws m s
def bsB (rnd : Bool) (w : Wks) (ws : List Nat) : Nat := if rnd = true then ws.sum * whl w w.kinds.length else ws.sum
def lbV (rnd : Bool) (w : Wks) (ws : List Nat) (m : Nat) (s : Stand) : Nat × Nat := low (numB rnd w ws m s) (bsB rnd w ws ^ m)
def sN (rnd : Bool) (w : Wks) (ws : List Nat) (m : Nat) (s : Stand) (k i : Nat) : Nat := if (dy w s k i).2 = true ∧ 0 < ws.getD k 0 then numB rnd w ws m (dy w s k i).1 else 0
def pN (rnd : Bool) (w : Wks) (ws : List Nat) (m : Nat) (s : Stand) (k i : Nat) : Nat := if rnd = true then sm i (sN rnd w ws m s k) else mx i (sN rnd w ws m s k)
def pD (rnd : Bool) (w : Wks) (ws : List Nat) (m k : Nat) : Nat := if rnd = true then (w.knd k).routes.length * bsB rnd w ws ^ m else bsB rnd w ws ^ m
def cN (rnd : Bool) (w : Wks) (ws : List Nat) (m : Nat) (s : Stand) (k : Nat) : Nat := (if rnd = true then prt w ws (whl w w.kinds.length) k else ws.getD k 0) * pN rnd w ws m s k (w.knd k).routes.length
theorem mx_congr {f g : Nat → Nat} : ∀ {n : Nat}, (∀ i, i < n → f i = g i) → mx n f = mx n g
  | 0, _ => rfl
  | n + 1, h => by
    show max (mx n f) (f n) = max (mx n g) (g n)
    rw [mx_congr fun i hi => h i (by omega), h n (by omega)]
theorem num_succ {rnd : Bool} {w : Wks} {ws : List Nat} {m : Nat} {s : Stand} : numB rnd w ws (m + 1) s = sm w.kinds.length (cN rnd w ws m s) := by
  cases rnd with
  | true =>
    refine sm_congr fun k _ => ?_
    unfold cN pN stepK
    rw [if_pos rfl, if_pos rfl, ← sm_mul_left]
    refine sm_congr fun i _ => ?_
    unfold sN
    cases e : (dy w s k i).2 with
    | false => rw [if_neg (by simp), if_neg (by simp), Nat.mul_zero]
    | true =>
      rw [if_pos rfl]
      by_cases z : 0 < ws.getD k 0
      · rw [if_pos ⟨rfl, z⟩]
        rfl
      · have : prt w ws (whl w w.kinds.length) k = 0 := by
          unfold prt
          rw [show ws.getD k 0 = 0 by omega, Nat.zero_mul, Nat.zero_div]
        rw [this, Nat.zero_mul, Nat.zero_mul]
  | false =>
    refine sm_congr fun k _ => ?_
    unfold cN pN kbN
    rw [if_neg (by simp), if_neg (by simp)]
    by_cases z : 0 < ws.getD k 0
    · congr 1
      refine mx_congr fun i _ => ?_
      unfold sN
      cases e : (dy w s k i).2 with
      | false => rw [if_neg (by simp), if_neg (by simp)]
      | true =>
        rw [if_pos rfl, if_pos ⟨rfl, z⟩]
        rfl
    · rw [show ws.getD k 0 = 0 by omega, Nat.zero_mul, Nat.zero_mul]
theorem sum_ws {w : Wks} {ws : List Nat} (h : WtOk w ws) : sm w.kinds.length (fun k => ws.getD k 0) = ws.sum := by
  rw [← sm_list, h.len]
theorem sum_le {w : Wks} {ws : List Nat} (ok : WksOk w) (h : WtOk w ws) : ws.sum ≤ 27 := by
  rw [← sum_ws h]
  exact h.sum ok
theorem whl_all {w : Wks} (k : Nat) (h : k < w.kinds.length) : (w.knd k).routes.length ∣ whl w w.kinds.length := whl_dvd h
theorem bs_le {rnd : Bool} {w : Wks} {ws : List Nat} (ok : WksOk w) (h : WtOk w ws) : bsB rnd w ws ≤ 54 := by
  have a := sum_le ok h
  have b := (whl_pos ok (Nat.le_refl _)).2
  unfold bsB
  split
  · exact Nat.mul_le_mul a b
  · omega
theorem bs_pos {rnd : Bool} {w : Wks} {ws : List Nat} (ok : WksOk w) (h : 0 < ws.sum) : 0 < bsB rnd w ws := by
  have b := (whl_pos ok (Nat.le_refl _)).1
  unfold bsB
  split
  · exact Nat.mul_pos h b
  · exact h
theorem num_le {rnd : Bool} {w : Wks} {ws : List Nat} (h : WtOk w ws) {m : Nat} {s : Stand} : numB rnd w ws m s ≤ bsB rnd w ws ^ m := by
  have e := Nat.le_of_eq (sum_ws h)
  unfold numB bsB
  split
  · exact cntR_le whl_all e m s
  · exact bestN_le e m s
theorem sN_le {rnd : Bool} {w : Wks} {ws : List Nat} (h : WtOk w ws) {m k i : Nat} {s : Stand} : sN rnd w ws m s k i ≤ bsB rnd w ws ^ m := by
  unfold sN
  split
  · exact num_le h
  · exact Nat.zero_le _
theorem pN_le {rnd : Bool} {w : Wks} {ws : List Nat} (h : WtOk w ws) {m k i : Nat} {s : Stand} (hi : i ≤ (w.knd k).routes.length) : pN rnd w ws m s k i ≤ pD rnd w ws m k := by
  unfold pN pD
  split
  · have : sm i (sN rnd w ws m s k) ≤ sm i (fun _ => bsB rnd w ws ^ m) := sm_le fun j _ => sN_le h
    rw [sm_const] at this
    exact Nat.le_trans this (Nat.mul_le_mul_right _ hi)
  · exact mx_le fun j _ => sN_le h
theorem pD_pos {rnd : Bool} {w : Wks} {ws : List Nat} (ok : WksOk w) (h : 0 < ws.sum) {m k : Nat} (hk : k < w.kinds.length) : 0 < pD rnd w ws m k := by
  have := (ok.at hk).r1
  have := Nat.pow_pos (n := m) (bs_pos (rnd := rnd) ok h)
  unfold pD
  split
  · exact Nat.mul_pos (by omega) this
  · exact this
/-- a kind's share, over the whole -/
theorem low_kind {rnd : Bool} {w : Wks} {ws : List Nat} (ok : WksOk w) (h : 0 < ws.sum) {m k : Nat} {s : Stand} (hk : k < w.kinds.length) :
    low ((low (pN rnd w ws m s k (w.knd k).routes.length) (pD rnd w ws m k)).1 * ws.getD k 0) ((low (pN rnd w ws m s k (w.knd k).routes.length) (pD rnd w ws m k)).2 * ws.sum) = low (cN rnd w ws m s k) (bsB rnd w ws ^ (m + 1)) := by
  have hp := pD_pos (rnd := rnd) ok h (m := m) hk
  have hb := Nat.pow_pos (n := m + 1) (bs_pos (rnd := rnd) ok h)
  have r := low_rep (a := pN rnd w ws m s k (w.knd k).routes.length) (b := pD rnd w ws m k)
  have q := low_pos (a := pN rnd w ws m s k (w.knd k).routes.length) hp
  generalize hc : low (pN rnd w ws m s k (w.knd k).routes.length) (pD rnd w ws m k) = c at *
  refine low_eq (Nat.mul_pos q h) hb ?_
  unfold cN
  generalize hN : pN rnd w ws m s k (w.knd k).routes.length = N at *
  refine Nat.eq_of_mul_eq_mul_right hp ?_
  cases rnd with
  | true =>
    have e := prt_mul (w := w) (ws := ws) (whl_all k hk)
    rw [if_pos rfl]
    generalize prt w ws (whl w w.kinds.length) k = p at *
    have hD : pD true w ws m k = (w.knd k).routes.length * bsB true w ws ^ m := rfl
    have hB : bsB true w ws = ws.sum * whl w w.kinds.length := rfl
    have e1 : c.1 * ws.getD k 0 * bsB true w ws ^ (m + 1) * pD true w ws m k = c.1 * pD true w ws m k * (ws.getD k 0 * bsB true w ws ^ (m + 1)) := by ac_rfl
    rw [e1, r, Nat.pow_succ, hD]
    generalize bsB true w ws ^ m = B at *
    rw [hB]
    have e2 : N * c.2 * (ws.getD k 0 * (B * (ws.sum * whl w w.kinds.length))) = N * c.2 * B * ws.sum * (ws.getD k 0 * whl w w.kinds.length) := by ac_rfl
    rw [e2, ← e]
    ac_rfl
  | false =>
    rw [if_neg (by simp)]
    have hD : pD false w ws m k = bsB false w ws ^ m := rfl
    have hB : bsB false w ws = ws.sum := rfl
    have e1 : c.1 * ws.getD k 0 * bsB false w ws ^ (m + 1) * pD false w ws m k = c.1 * pD false w ws m k * (ws.getD k 0 * bsB false w ws ^ (m + 1)) := by ac_rfl
    rw [e1, r, Nat.pow_succ, hD]
    generalize bsB false w ws ^ m = B at *
    rw [hB]
    ac_rfl
end Dy
end
section
set_option Elab.async false
set_option linter.all false
set_option maxRecDepth 100000
set_option maxHeartbeats 4000000
set_option pp.maxSteps 1500
set_option exponentiation.threshold 20000
/-! _law_best. -/
namespace Dy
open PySem PySem.Spec PyProof.Rows L2
theorem NkV.pair {H : Hp} {t : Addr} {a b : Nat} (e : H t = some (.tup [.int a, .int b])) : NkV H (kP (a, b)) (.ref t) := ⟨t, _, rfl, e, _, _, rfl, rfl, _, _, rfl, rfl, rfl⟩
theorem sm_upto {f : Nat → Nat} : ∀ {n i : Nat}, i ≤ n → sm i f ≤ sm n f
  | 0, i, h => by
    rw [Nat.le_zero.mp h]
    exact Nat.le_refl _
  | n + 1, i, h => by
    rcases Nat.lt_or_eq_of_le h with z | z
    · exact Nat.le_trans (sm_upto (by omega)) (Nat.le_add_right _ _)
    · rw [z]
      exact Nat.le_refl _
section
variable {P : Program} {w : World} {K : PySem.W.Frag} {mg : Str → Option Value} {base : Heap}
def spLBest (K : PySem.W.Frag) (n : Nat) : Sp := fun vs H Q _ => ∃ v1 v2 v3 wk ws s, ∃ m : Nat, ∃ rnd : Bool, vs = [v1, v2, v3, .int m, .bl rnd] ∧ m < n ∧ m ≤ 3 ∧ NkV H (Wks.key wk) v1 ∧ NkV H (kI (natI ws)) v2 ∧ NkV H (kS s) v3 ∧ WksOk wk ∧ StOk wk.dyes wk.vats.length s ∧ WtOk wk ws ∧ 0 < ws.sum ∧
  ∀ v H', Gw (lawB K) [] H H' → NkV H' (kP (lbV rnd wk ws m s)) v → Q v H'
abbrev nLBest : List Str := ["_law_works_here", "_law_weights", "_law_stand", "_law_many", "_law_is_random", "_law_total", "_law_kind", "_law_some", "_law_number", "_law_there", "_law_good", "_law_part", "_law_one"]
abbrev psLBest : List Str := ["_law_works_here", "_law_weights", "_law_stand", "_law_many", "_law_is_random"]
theorem scLBest : FnScope nLBest psLBest (defScope sLBest) := ⟨rfl, rfl, rfl, by decide +kernel, rfl, by decide +kernel, by decide +kernel⟩
theorem ok_lawBestS (T : Tx K mg base) {n j : Nat} (hj : 2 ≤ j) (inner : Cal P w K mg base CX0 "_law_best" j psLBest (spLBest K n)) : Cal P w K mg base CX0 "_law_best" (j + 1) psLBest (spLBest K (n + 1)) := by
  refine T.cal (st := sLBest) 37 rfl T.gllaw_best scLBest (fun _ _ _ _ _ _ us hl => match us, hl with | [_, _, _, _, _], _ => rfl) (fun vs H Q E h => ?_) (fun A outer s0 H vs Q E hr0 h => ?_)
  · obtain ⟨v1, v2, v3, a, b, c, m, d, rfl, _⟩ := h
    rfl
  · obtain ⟨v1, v2, v3, wk, ws, s, m, rnd, rfl, hmn, hm, nw, nws, ns, ok, os, hw, hS, hQ⟩ := h
    have hjk : j ≤ j := Nat.le_refl j
    have hr := hr0.mono hj
    refine ⟨_, PSs.nox (pss_cons (ps_if (pt_cmpR op_eq (pv 3) pe_int (nomark _)) (pss_one (ps_ret (pe_tup (pa_cons pe_int (pa_cons pe_int pa_nil))))) (pss_nil))
      (pss_cons (ps_set (i := 5) scLBest.nd rfl (.inl rfl) (pe_tup (pa_cons pe_int (pa_cons pe_int pa_nil))))
      (pss_cons (ps_for PassesOwn.never rfl (pi_range1 rfl T.frrange (pa_cons (pe_callB cr_lenK rfl T.frlen bLen (pa_cons (pe_ix ix_tupK (pv 0) pe_int (fun _ _ => rfl)) pa_nil)) pa_nil)) (pg_name (i := 6) scLBest.nd rfl (.inl rfl)) (pss_cons (ps_set (i := 7) scLBest.nd rfl (.inl rfl) (pe_lst pa_nil))
      (pss_cons (ps_for PassesOwn.never rfl (pi_range1 rfl T.frrange (pa_cons (pe_callB cr_lenK rfl T.frlen bLen (pa_cons (pe_ix ix_tupK (pe_ix ix_tupK (pe_ix ix_tupK (pv 0) pe_int (fun _ _ => rfl)) (pv 6) (fun _ _ => rfl)) pe_int (fun _ _ => rfl)) pa_nil)) pa_nil)) (pg_name (i := 8) scLBest.nd rfl (.inl rfl)) (pss_cons (ps_asg (pe_cal (ok_lawDyed T) hr rfl (pa_cons (pv 0) (pa_cons (pv 2) (pa_cons (pv 6) (pa_cons (pv 8) pa_nil))))) (pg_tupK (n := 2) rfl (pgs_cons (pg_name (i := 9) scLBest.nd rfl (.inl rfl)) (pgs_cons (pg_name (i := 10) scLBest.nd rfl (.inl rfl)) pgs_nil))))
      (pss_one (ps_expr (pe_bm PySem.F.plainAttrs_list PySem.F.slot_list_append PySem.F.type_list_append mt_append (pv 7) (pa_cons (pe_ifExp (PW.pt (pw_and (pt_val (pv 10)) (pw_and1 (pt_cmpR op_gt (pe_ix ix_tupK (pv 1) (pv 6) (fun _ _ => rfl)) pe_int (nomark _))))) (pe_cal inner hr0 rfl (pa_cons (pv 0) (pa_cons (pv 1) (pa_cons (pv 9) (pa_cons (pe_op op_sub (pv 3) pe_int) (pa_cons (pv 4) pa_nil))))) hjk) (pe_tup (pa_cons pe_int (pa_cons pe_int pa_nil)))) pa_nil))))))
      (pss_cons (ps_set (i := 11) scLBest.nd rfl (.inl rfl) (pe_tup (pa_cons pe_int (pa_cons pe_int pa_nil))))
      (pss_cons (ps_for PassesOwn.never rfl (pi_listK (pv 7)) (pg_name (i := 12) scLBest.nd rfl (.inl rfl)) (pss_one (ps_set (i := 11) scLBest.nd rfl (.inl rfl) (pe_ifExp (pt_val (pv 4)) (pe_cal (ok_lawAdd T) hr rfl (pa_cons (pv 11) (pa_cons (pe_tup (pa_cons (pe_ix ix_tupK (pv 12) pe_int (fun _ _ => rfl)) (pa_cons (pe_op op_mulW (pe_ix ix_tupK (pv 12) pe_int (fun _ _ => rfl)) (pe_callB cr_lenK rfl T.frlen bLen (pa_cons (pv 7) pa_nil))) pa_nil))) pa_nil))) (pe_ifExp (pt_cmpR op_gt (pe_op op_mulW (pe_ix ix_tupK (pv 12) pe_int (fun _ _ => rfl)) (pe_ix ix_tupK (pv 11) pe_int (fun _ _ => rfl))) (pe_op op_mulW (pe_ix ix_tupK (pv 11) pe_int (fun _ _ => rfl)) (pe_ix ix_tupK (pv 12) pe_int (fun _ _ => rfl))) (nomark _)) (pv 12) (pv 11))))))
      (pss_one (ps_set (i := 5) scLBest.nd rfl (.inl rfl) (pe_cal (ok_lawAdd T) hr rfl (pa_cons (pv 5) (pa_cons (pe_cal (ok_lawLowest T) hr rfl (pa_cons (pe_op op_mulW (pe_ix ix_tupK (pv 11) pe_int (fun _ _ => rfl)) (pe_ix ix_tupK (pv 1) (pv 6) (fun _ _ => rfl))) (pa_cons (pe_op op_mulW (pe_ix ix_tupK (pv 11) pe_int (fun _ _ => rfl)) (pe_callB (cr_sumTK rfl) rfl T.frsum bSum (pa_cons (pv 1) pa_nil))) pa_nil))) pa_nil))))))))))
      (pss_one (ps_ret (pv 5)))))), ?_⟩
    have nw0 := nw
    have nws0 := nws
    obtain ⟨wx, us, rfl, ex, v0, _, rfl, n0, u1, _, rfl, n1, u2, _, rfl, n2, rfl⟩ := nw
    obtain ⟨wsx, wss, rfl, ews, alw⟩ := nws
    obtain rfl := NkAll.nums.mp alw
    obtain ⟨ka, kvs, rfl, eka, alk⟩ := n2
    have lk : kvs.length = wk.kinds.length := by
      have := alk.length
      simpa using this.symm
    have k2 := ok.k2
    refine ⟨_, rfl, rfl, _, rfl, ?_⟩
    rw [dec_int]
    match m, hm, hmn, hQ with
    | 0, _, _, hQ =>
      refine iteT ?_
      refine ⟨by show 2 ≤ sizeLine; decide, fun p np => ?_⟩
      obtain ⟨g, e⟩ := (Gw.refl (lawB K) [] _).addS (o := .tup [.int 1, .int 1]) np
      refine hQ _ _ g ?_
      rw [show lbV rnd wk ws 0 s = (1, 1) by cases rnd <;> exact low_self Nat.one_pos]
      exact NkV.pair e
    | m + 1, hm, hmn, hQ =>
      have z : (((m + 1 : Nat) : Int) == 0) = false := by
        rw [beq_eq_false_iff_ne]
        omega
      rw [z]
      refine iteF ?_
      obtain ⟨B, hB⟩ : ∃ B, B = bsB rnd wk ws ^ m := ⟨_, rfl⟩
      have hB0 : 0 < B := hB ▸ Nat.pow_pos (bs_pos ok hS)
      have hB3 : B ≤ 54 ^ 2 := hB ▸ Nat.le_trans (Nat.pow_le_pow_left (bs_le ok hw) m) (Nat.pow_le_pow_right (by decide) (by omega))
      obtain ⟨C, hC⟩ : ∃ C, C = bsB rnd wk ws ^ (m + 1) := ⟨_, rfl⟩
      have hC0 : 0 < C := hC ▸ Nat.pow_pos (bs_pos ok hS)
      have hC3 : C ≤ 54 ^ 3 := hC ▸ Nat.le_trans (Nat.pow_le_pow_left (bs_le ok hw) (m + 1)) (Nat.pow_le_pow_right (by decide) (by omega))
      refine ⟨by show 2 ≤ sizeLine; decide, fun t0 nt0 => ?_⟩
      obtain ⟨g0, e0⟩ := (Gw.refl (lawB K) [] H).addS (o := .tup [.int 0, .int 1]) nt0
      refine ⟨_, rfl, _, _, _, _, rfl, rfl, .of (g0.tups _ _ ex), atI_nat (j := 2) rfl, ka, _, rfl, .inr (.of (g0.tups _ _ eka)), ?_⟩
      refine ⟨_, rfl, by omega, by omega, ?_⟩
      refine for_range (lo := 0) (n := kvs.length) (fun k σ H1 => k ≤ kvs.length ∧ ∃ (tv : V) (x6 x7 x8 x9 x10 x11 x12 : Option V), σ = [some (.ref wx), some (.ref wsx), some v3, some (.int (m + 1 : Nat)), some (.bl rnd), some tv, x6, x7, x8, x9, x10, x11, x12] ∧ Gw (lawB K) [] H H1 ∧ NkV H1 (kP (low (sm k (cN rnd wk ws m s)) C)) tv) ?_ (fun k σ H1 hk hP => ?_) fun σ H1 hP => ?_
      · refine ⟨Nat.zero_le _, .ref t0, none, none, none, none, none, none, none, rfl, g0, ?_⟩
        rw [show sm 0 (cN rnd wk ws m s) = 0 from rfl, low_zero hC0]
        exact NkV.pair e0
      · obtain ⟨_, tv, x6, x7, x8, x9, x10, x11, x12, rfl, g1, ntv⟩ := hP
        rw [Int.zero_add]
        have hkk : k < wk.kinds.length := lk ▸ hk
        have r1 := (ok.at hkk).r1
        have r2 := (ok.at hkk).r2
        obtain ⟨a', v0', _, c', cs, e, y0, y1, y2, ha', ea, _, ec, alc, eci, ee, _, _, m2⟩ := nw0.knd hkk
        cases ha'
        obtain ⟨f, fs, rfl, ef, alf⟩ := m2
        have lf : fs.length = (wk.knd k).routes.length := by
          have := alf.length
          simpa using this.symm
        refine ⟨by show 0 ≤ sizeLine; exact Nat.zero_le _, fun so nso => ?_⟩
        obtain ⟨g2, eso⟩ := (Gw.refl (lawB K) [] H1).addS (o := .lst []) nso
        have ga := g1.trans g2
        refine ⟨_, rfl, _, _, _, _, rfl, rfl, .of (ga.tups _ _ ea), atI_nat (j := 2) rfl, _, rfl, _, _, _, _, rfl, rfl, .of (ga.tups _ _ ec), atI_nat eci, _, _, _, _, rfl, rfl, .of (ga.tups _ _ ee), atI_nat (j := 2) rfl, f, _, rfl, .inr (.of (ga.tups _ _ ef)), ?_⟩
        refine ⟨_, rfl, by omega, by omega, ?_⟩
        refine for_range (lo := 0) (n := fs.length) (fun i σ H2 => i ≤ fs.length ∧ ∃ (ys : List V) (x8 x9 x10 : Option V), σ = [some (.ref wx), some (.ref wsx), some v3, some (.int (m + 1 : Nat)), some (.bl rnd), some tv, some (.int k), some (.ref so), x8, x9, x10, x11, x12] ∧ Gw (lawB K) [] H1 H2 ∧ H2 so = some (.lst ys) ∧ NkAll H2 ((List.range i).map fun i => kP (low (sN rnd wk ws m s k i) B)) ys) ?_ (fun i σ H2 hi hP => ?_) fun σ H2 hP => ?_
        · exact ⟨Nat.zero_le _, [], _, _, _, rfl, g2, eso, rfl⟩
        · obtain ⟨_, ys, x8, x9, x10, rfl, g3, eso, aly⟩ := hP
          rw [Int.zero_add]
          have gb := g1.trans g3
          have lys : ys.length = i := by
            have := aly.length
            rw [List.length_map, List.length_range] at this
            exact this.symm
          refine ⟨_, rfl, _, rfl, _, rfl, _, rfl, ?_⟩
          refine ⟨_, _, wk, s, k, i, rfl, nw0.gw gb, ns.gw gb, ok, os, hkk, lf ▸ hi, fun q l H4 g4 eq nl => ?_⟩
          refine ⟨q, _, rfl, .of eq, rfl, _, _, rfl, _, _, rfl, rfl, ?_⟩
          have gc := gb.trans g4
          have eso4 := g4.keep so _ (by simp) eso (fun _ z => nomatch z)
          refine ⟨.ref so, rfl, .inl ⟨rfl, _, .of eso4⟩, ?_⟩
          have fin : ∀ (v : V) (H5 : Hp), Gw (lawB K) [] H4 H5 → NkV H5 (kP (low (sN rnd wk ws m s k i) B)) v → H5 so = some (.lst ys) ∧ Gw (lawB K) [] H1 (upd H5 so (.lst (ys ++ [v]))) ∧ NkAll (upd H5 so (.lst (ys ++ [v]))) ((List.range (i + 1)).map fun i => kP (low (sN rnd wk ws m s k i) B)) (ys ++ [v]) := fun v H5 g5 nv => by
            have e5 := g5.keep so _ (by simp) eso4 (fun _ z => nomatch z)
            have g6 : Gw (lawB K) [so] H5 (upd H5 so (.lst (ys ++ [v]))) := .lst e5
            refine ⟨e5, ((g3.trans g4).trans g5).put (.inl nso) e5 .lst, ?_⟩
            rw [List.range_succ, List.map_append]
            exact NkAll.snoc (k := kP (low (sN rnd wk ws m s k i) B)) (nv.gw g6) (((aly.gw g4).gw g5).gw g6)
          have ewk : ((natI ws).map V.int)[k]? = some (.int (ws.getD k 0 : Nat)) := by
            have : k < ws.length := by rw [hw.len]; exact hkk
            unfold natI
            rw [List.getElem?_map, List.getElem?_map, List.getElem?_eq_getElem this, List.getD_eq_getElem?_getD, List.getElem?_eq_getElem this]
            rfl
          have lbd : ys.length < sizeLine := by rw [sizeLine_eq]; omega
          have zro : sN rnd wk ws m s k i = 0 → ∀ p, H4 p = none → rAppend (.ref so) [.ref p] (upd H4 p (.tup [.int 0, .int 1])) fun _ H5 => i + 1 ≤ fs.length ∧ ∃ (ys : List V) (x8 x9 x10 : Option V), [some (.ref wx), some (.ref wsx), some v3, some (.int (m + 1 : Nat)), some (.bl rnd), some tv, some (.int k), some (.ref so), some (.int i), some l, some (.bl (dy wk s k i).2), x11, x12] = [some (.ref wx), some (.ref wsx), some v3, some (.int (m + 1 : Nat)), some (.bl rnd), some tv, some (.int k), some (.ref so), x8, x9, x10, x11, x12] ∧ Gw (lawB K) [] H1 H5 ∧ H5 so = some (.lst ys) ∧ NkAll H5 ((List.range (i + 1)).map fun i => kP (low (sN rnd wk ws m s k i) B)) ys := fun e0 p np => by
            obtain ⟨g5, e5⟩ := (Gw.refl (lawB K) [] _).addS (o := .tup [.int 0, .int 1]) np
            obtain ⟨f1, f2, f3⟩ := fin (.ref p) _ g5 (by rw [e0, low_zero hB0]; exact NkV.pair e5)
            exact ⟨so, ys, _, rfl, rfl, f1, lbd, hi, _, _, _, _, rfl, f2, upd_same, f3⟩
          cases eg : (dy wk s k i).2 with
          | false =>
            refine ⟨_, rfl, _, rfl, iteF (iteF ⟨by show 2 ≤ sizeLine; decide, fun p np => ?_⟩)⟩
            rw [eg] at zro
            exact zro (by unfold sN; rw [if_neg (by rw [eg]; simp)]) p np
          | true =>
            refine ⟨_, rfl, _, rfl, iteT ?_⟩
            rw [eg] at zro
            refine ⟨_, rfl, _, rfl, _, _, _, _, rfl, rfl, .of (gc.tups _ _ ews), atI_nat ewk, _, _, rfl, rfl, _, rfl, ?_⟩
            by_cases hz : 0 < ws.getD k 0
            · rw [decide_eq_true (show (0 : Int) < ((ws.getD k 0 : Nat) : Int) by omega)]
              refine iteT ⟨_, rfl, _, rfl, _, rfl, _, rfl, _, _, rfl, rfl, _, rfl, ?_⟩
              refine ⟨_, _, _, wk, ws, (dy wk s k i).1, m, rnd, by show [_, _, _, V.int (((m + 1 : Nat) : Int) - 1), _] = _; rw [show ((m + 1 : Nat) : Int) - 1 = m by omega], by omega, by omega, nw0.gw gc, nws0.gw gc, nl, ok, dy_ok os k i, hw, hS, fun v H5 g5 nv => ?_⟩
              obtain ⟨f1, f2, f3⟩ := fin v H5 g5 (by
                rw [show sN rnd wk ws m s k i = numB rnd wk ws m (dy wk s k i).1 by unfold sN; rw [if_pos ⟨eg, hz⟩], hB]
                exact nv)
              exact ⟨so, ys, _, rfl, rfl, f1, lbd, hi, _, _, _, _, rfl, f2, upd_same, f3⟩
            · rw [decide_eq_false (show ¬ (0 : Int) < ((ws.getD k 0 : Nat) : Int) by omega)]
              refine iteF ⟨by show 2 ≤ sizeLine; decide, fun p np => ?_⟩
              exact zro (by unfold sN; rw [if_neg fun z => hz z.2]) p np
        · obtain ⟨_, ys, x8, x9, x10, rfl, g3, eso, aly⟩ := hP
          rw [lf] at aly
          have lys : ys.length = (wk.knd k).routes.length := by
            have := aly.length
            rw [List.length_map, List.length_range] at this
            exact this.symm
          have hD0 := pD_pos (rnd := rnd) ok hS (m := m) hkk
          have hD3 : pD rnd wk ws m k ≤ 2 * 54 ^ 2 := by
            unfold pD
            rw [← hB]
            split
            · exact Nat.mul_le_mul r2 hB3
            · exact Nat.le_trans hB3 (by decide)
          refine ⟨by show 2 ≤ sizeLine; decide, fun p0 np0 => ?_⟩
          obtain ⟨g4, e4⟩ := (Gw.refl (lawB K) [] _).addS (o := .tup [.int 0, .int 1]) np0
          have gd := g3.trans g4
          have eso4 := g4.keep so _ (by simp) eso (fun _ z => nomatch z)
          replace aly := aly.gw g4
          generalize upd H2 p0 (.tup [.int 0, .int 1]) = H3 at *
          refine ⟨_, rfl, so, rfl, ⟨_, .of eso4⟩, ?_⟩
          refine for_list (xs := ys) (fun i σ H4 => i ≤ ys.length ∧ ∃ (pv : V) (x12 : Option V), σ = [some (.ref wx), some (.ref wsx), some v3, some (.int (m + 1 : Nat)), some (.bl rnd), some tv, some (.int k), some (.ref so), x8, x9, x10, some pv, x12] ∧ Gw (lawB K) [] H3 H4 ∧ NkV H4 (kP (low (pN rnd wk ws m s k i) (pD rnd wk ws m k))) pv) ?_ (fun i σ H4 _ hP => ?_) (fun i x σ H4 hx hP => ?_) fun σ H4 hP => ?_
          · refine ⟨Nat.zero_le _, .ref p0, x12, rfl, .refl _ _ _, ?_⟩
            rw [show pN rnd wk ws m s k 0 = 0 by cases rnd <;> rfl, low_zero hD0]
            exact NkV.pair e4
          · obtain ⟨_, _, _, _, g5, _⟩ := hP
            exact .of (g5.keep so _ (by simp) eso4 (fun _ z => nomatch z))
          · obtain ⟨_, pv, x12', rfl, g5, npv⟩ := hP
            have hi : i < ys.length := (List.getElem?_eq_some_iff.mp hx).1
            obtain ⟨x', ex', nx'⟩ := aly.get (i := i) (k := kP (low (sN rnd wk ws m s k i) B)) (by rw [List.getElem?_map, List.getElem?_range (by omega)] <;> rfl)
            obtain rfl : x' = x := by
              rw [ex'] at hx
              exact Option.some.inj hx
            have nx := nx'.gw g5
            have nx0 := nx
            have npv0 := npv
            obtain ⟨ox, os2, rfl, eo, a1, _, rfl, n1', a2, _, rfl, n2', rfl⟩ := nx
            obtain ⟨px, ps2, rfl, ep, b1, _, rfl, m1', b2, _, rfl, m2', rfl⟩ := npv
            have eso5 := g5.keep so _ (by simp) eso4 (fun _ z => nomatch z)
            have sle := sN_le (rnd := rnd) hw (m := m) (k := k) (i := i) (s := s)
            have ple := pN_le (rnd := rnd) hw (m := m) (k := k) (i := i) (s := s) (by omega)
            rw [← hB] at sle
            have q1 := low_le1 (a := sN rnd wk ws m s k i) (b := B)
            have q2 := low_le2 (a := sN rnd wk ws m s k i) (b := B)
            have q3 := low_pos (a := sN rnd wk ws m s k i) hB0
            have u1' := low_le1 (a := pN rnd wk ws m s k i) (b := pD rnd wk ws m k)
            have u2' := low_le2 (a := pN rnd wk ws m s k i) (b := pD rnd wk ws m k)
            have u3 := low_pos (a := pN rnd wk ws m s k i) hD0
            obtain rfl : a1 = .int (low (sN rnd wk ws m s k i) B).1 := n1'
            obtain rfl : a2 = .int (low (sN rnd wk ws m s k i) B).2 := n2'
            obtain rfl : b1 = .int (low (pN rnd wk ws m s k i) (pD rnd wk ws m k)).1 := m1'
            obtain rfl : b2 = .int (low (pN rnd wk ws m s k i) (pD rnd wk ws m k)).2 := m2'
            have big : 2 * 54 ^ 2 < 2 ^ 1000 := by decide
            have big2 : 54 ^ 2 < 2 ^ 1000 := by decide
            have cm : ∀ i j : Nat, i < 2 ^ 1000 → j < 2 ^ 1000 → CMulW (i : Int) (j : Int) := fun i j hi hj => wide_mul (a := 1000) (b := 1000) (by rw [Int.natAbs_natCast]; exact hi) (by rw [Int.natAbs_natCast]; exact hj) (by decide) (by decide) (by decide)
            have s1 := Nat.lt_of_le_of_lt (Nat.le_trans q1 (Nat.le_trans sle hB3)) big2
            have s2 := Nat.lt_of_le_of_lt (Nat.le_trans q2 hB3) big2
            have t1 := Nat.lt_of_le_of_lt (Nat.le_trans u1' (Nat.le_trans ple hD3)) big
            have t2 := Nat.lt_of_le_of_lt (Nat.le_trans u2' hD3) big
            have up : ∀ {x : Nat}, x < 2 ^ 1000 → x < 2 ^ 2000 := fun h => Nat.lt_of_lt_of_le h (Nat.pow_le_pow_right (by decide) (by decide))
            cases rnd with
            | true =>
              refine ⟨_, rfl, _, rfl, iteT ?_⟩
              refine ⟨_, rfl, _, rfl, _, _, _, _, rfl, rfl, .of eo, atI_nat (j := 0) rfl, ?_⟩
              refine ⟨_, rfl, _, _, _, _, rfl, rfl, .of eo, atI_nat (j := 1) rfl, _, rfl, so, ys, rfl, .inl (.of eso5), _, _, rfl, rfl, cm _ _ s2 (by rw [lys]; omega), by show 2 ≤ sizeLine; decide, fun q nq => ?_⟩
              obtain ⟨g6, e6⟩ := (Gw.refl (lawB K) [] _).addS (o := .tup [.int (low (sN true wk ws m s k i) B).1, .int (((low (sN true wk ws m s k i) B).2 : Int) * (ys.length : Nat))]) nq
              have hR : (low (sN true wk ws m s k i) B).2 * (wk.knd k).routes.length < 2 ^ 2000 := by
                have : (low (sN true wk ws m s k i) B).2 * (wk.knd k).routes.length ≤ 54 ^ 2 * 2 := Nat.mul_le_mul (Nat.le_trans q2 hB3) r2
                exact Nat.lt_of_le_of_lt this (by decide)
              refine ⟨_, _, low (pN true wk ws m s k i) (pD true wk ws m k), ((low (sN true wk ws m s k i) B).1, (low (sN true wk ws m s k i) B).2 * (wk.knd k).routes.length), rfl, npv0.gw g6, .pair (e6.trans (by rw [Int.natCast_mul, lys])), u3, Nat.mul_pos q3 (by omega), up t1, up t2, up s1, hR, fun v H6 g7 nv => ?_⟩
              refine ⟨hi, v, _, rfl, (g5.trans g6).trans g7, ?_⟩
              have hh := add_part (x := pN true wk ws m s k i) (y := sN true wk ws m s k i) (d := B) (n := (wk.knd k).routes.length) hB0 (by omega)
              have hpd : pD true wk ws m k = (wk.knd k).routes.length * B := by rw [hB]; rfl
              rw [hpd] at nv ⊢
              unfold addL at hh
              rw [hh] at nv
              exact nv
            | false =>
              refine ⟨_, rfl, _, rfl, iteF ?_⟩
              have hpd : pD false wk ws m k = B := by rw [hB]; rfl
              refine ⟨_, rfl, _, _, _, _, rfl, rfl, .of eo, atI_nat (j := 0) rfl, _, rfl, _, _, _, _, rfl, rfl, .of ep, atI_nat (j := 1) rfl, _, _, rfl, rfl, cm _ _ s1 t2, ?_⟩
              refine ⟨_, rfl, _, _, _, _, rfl, rfl, .of ep, atI_nat (j := 0) rfl, _, rfl, _, _, _, _, rfl, rfl, .of eo, atI_nat (j := 1) rfl, _, _, rfl, rfl, cm _ _ t1 s2, ?_⟩
              refine ⟨_, _, rfl, rfl, _, rfl, ?_⟩
              have hgt := low_gt (x := sN false wk ws m s k i) (y := pN false wk ws m s k i) hB0
              rw [show low (pN false wk ws m s k i) B = low (pN false wk ws m s k i) (pD false wk ws m k) by rw [hpd]] at hgt
              have hmx : pN false wk ws m s k (i + 1) = max (pN false wk ws m s k i) (sN false wk ws m s k i) := rfl
              by_cases hlt : pN false wk ws m s k i < sN false wk ws m s k i
              · rw [decide_eq_true (by rw [← Int.natCast_mul, ← Int.natCast_mul]; exact Int.ofNat_lt.mpr (hgt.mpr hlt))]
                refine iteT ⟨_, rfl, hi, _, _, rfl, g5, ?_⟩
                rw [hmx, Nat.max_eq_right (Nat.le_of_lt hlt), hpd]
                exact nx0
              · rw [decide_eq_false (by rw [← Int.natCast_mul, ← Int.natCast_mul]; exact fun z => hlt (hgt.mp (Int.ofNat_lt.mp z)))]
                refine iteF ⟨_, rfl, hi, _, _, rfl, g5, ?_⟩
                rw [hmx, Nat.max_eq_left (by omega)]
                exact npv0
          · obtain ⟨_, pv, x12', rfl, g5, npv⟩ := hP
            rw [lys] at npv
            have gk := (g1.trans gd).trans g5
            have ple := pN_le (rnd := rnd) hw (m := m) (k := k) (i := (wk.knd k).routes.length) (s := s) (Nat.le_refl _)
            have u1' := low_le1 (a := pN rnd wk ws m s k (wk.knd k).routes.length) (b := pD rnd wk ws m k)
            have u2' := low_le2 (a := pN rnd wk ws m s k (wk.knd k).routes.length) (b := pD rnd wk ws m k)
            have u3 := low_pos (a := pN rnd wk ws m s k (wk.knd k).routes.length) hD0
            have lkk := low_kind (rnd := rnd) ok hS (m := m) (s := s) hkk
            generalize hpr : low (pN rnd wk ws m s k (wk.knd k).routes.length) (pD rnd wk ws m k) = pr at *
            obtain ⟨px, ps2, rfl, ep, b1, _, rfl, m1', b2, _, rfl, m2', rfl⟩ := npv
            obtain rfl : b1 = .int pr.1 := m1'
            obtain rfl : b2 = .int pr.2 := m2'
            have cm : ∀ i j : Nat, i < 2 ^ 1000 → j < 2 ^ 1000 → CMulW (i : Int) (j : Int) := fun i j hi hj => wide_mul (a := 1000) (b := 1000) (by rw [Int.natAbs_natCast]; exact hi) (by rw [Int.natAbs_natCast]; exact hj) (by decide) (by decide) (by decide)
            have big : 2 * 54 ^ 2 < 2 ^ 1000 := by decide
            have t1 := Nat.lt_of_le_of_lt (Nat.le_trans u1' (Nat.le_trans ple hD3)) big
            have t2 := Nat.lt_of_le_of_lt (Nat.le_trans u2' hD3) big
            have w9 := hw.le k
            have s27 := sum_le ok hw
            have wb : ws.getD k 0 < 2 ^ 1000 := Nat.lt_of_le_of_lt w9 (by decide)
            have sb : ws.sum < 2 ^ 1000 := Nat.lt_of_le_of_lt s27 (by decide)
            have ewk : ((natI ws).map V.int)[k]? = some (.int (ws.getD k 0 : Nat)) := by
              have : k < ws.length := by rw [hw.len]; exact hkk
              unfold natI
              rw [List.getElem?_map, List.getElem?_map, List.getElem?_eq_getElem this, List.getD_eq_getElem?_getD, List.getElem?_eq_getElem this]
              rfl
            refine ⟨_, rfl, _, rfl, _, _, _, _, rfl, rfl, .of ep, atI_nat (j := 0) rfl, _, rfl, _, rfl, _, _, _, _, rfl, rfl, .of (gk.tups _ _ ews), atI_nat ewk, _, _, rfl, rfl, cm _ _ t1 wb, ?_⟩
            refine ⟨_, rfl, _, _, _, _, rfl, rfl, .of ep, atI_nat (j := 1) rfl, _, rfl, wsx, natI ws, rfl, .of (gk.tups _ _ ews), ?_⟩
            have esum : (natI ws).sum = ((ws.sum : Nat) : Int) := sum_ints ws
            rw [esum]
            refine ⟨_, _, rfl, rfl, cm _ _ t2 sb, ?_⟩
            refine ⟨pr.1 * ws.getD k 0, pr.2 * ws.sum, by show [V.int ((pr.1 : Int) * (ws.getD k 0 : Nat)), V.int ((pr.2 : Int) * (ws.sum : Nat))] = _; rw [← Int.natCast_mul, ← Int.natCast_mul], Nat.mul_pos u3 hS, ?_, fun v H6 g6 nv => ?_⟩
            · refine Nat.lt_of_lt_of_le (Nat.mul_lt_mul'' t2 sb) ?_
              rw [← Nat.pow_add]
              exact Nat.pow_le_pow_right (by decide) (by decide)
            rw [lkk, ← hC] at nv
            have tle : sm k (cN rnd wk ws m s) ≤ C := by
              have h1 := num_le (rnd := rnd) hw (m := m + 1) (s := s)
              rw [num_succ, ← hC] at h1
              exact Nat.le_trans (sm_upto (Nat.le_of_lt hkk)) h1
            have cle : cN rnd wk ws m s k ≤ C := by
              have h1 := num_le (rnd := rnd) hw (m := m + 1) (s := s)
              rw [num_succ, ← hC] at h1
              exact Nat.le_trans (sm_get hkk) h1
            have bigC : 54 ^ 3 < 2 ^ 2000 := Nat.lt_of_lt_of_le (by decide : 54 ^ 3 < 2 ^ 100) (Nat.pow_le_pow_right (by decide) (by decide))
            have lt : ∀ {x : Nat}, x ≤ C → x < 2 ^ 2000 := fun h => Nat.lt_of_le_of_lt (Nat.le_trans h hC3) bigC
            refine ⟨_, _, low (sm k (cN rnd wk ws m s)) C, low (cN rnd wk ws m s k) C, rfl, ((ntv.gw gd).gw g5).gw g6, nv, low_pos hC0, low_pos hC0, lt (Nat.le_trans low_le1 tle), lt low_le2, lt (Nat.le_trans low_le1 cle), lt low_le2, fun v2 H7 g7 nv2 => ?_⟩
            refine ⟨hk, v2, _, _, _, _, _, _, _, rfl, (gk.trans g6).trans g7, ?_⟩
            have hh := add_low (x := sm k (cN rnd wk ws m s)) (y := cN rnd wk ws m s k) hC0
            unfold addL at hh
            rw [hh] at nv2
            exact nv2
      · obtain ⟨_, tv, x6, x7, x8, x9, x10, x11, x12, rfl, g1, ntv⟩ := hP
        refine ⟨_, rfl, hQ tv H1 g1 ?_⟩
        rw [lk] at ntv
        unfold lbV
        rw [num_succ, ← hC]
        exact ntv
theorem ok_lawBestN (T : Tx K mg base) : ∀ n : Nat, Cal P w K mg base CX0 "_law_best" (2 + n) psLBest (spLBest K n)
  | 0 => T.cal0 (st := sLBest) 37 rfl T.gllaw_best (fun _ _ _ _ _ _ us hl => match us, hl with | [_, _, _, _, _], _ => rfl) fun vs H Q E ⟨_, _, _, _, _, _, _, _, _, h, _⟩ => absurd h (Nat.not_lt_zero _)
  | n + 1 => ok_lawBestS T (Nat.le_add_right 2 n) (ok_lawBestN T n)
theorem ok_lawBest (T : Tx K mg base) : Cal P w K mg base CX0 "_law_best" 6 psLBest (spLBest K 4) := ok_lawBestN T 4
end
end Dy
end
section
set_option Elab.async false
set_option linter.all false
set_option maxRecDepth 100000
set_option maxHeartbeats 4000000
set_option pp.maxSteps 1500
set_option exponentiation.threshold 20000
/-! law: rules for its words. -/
namespace Dy
open PySem PySem.Spec PyProof.Rows L2 LamX
section
variable {X : Cx} {K : PySem.W.Frag} {mg : Str → Option Value} {base : Heap}
/-- _law_word(lambda: ..) -/
theorem pe_lawWord (T : Tx K mg base) (TB : LamX.TabB base mg (He.cT K ("law", none)).1 (lawB K)) {k : Nat} {params : Arguments} {body : Expr} {scope : Scope} {t : XK → TE} {p lpos pos : Pos} (hr : Room (k + 2) X.A) (hg : Gl X "_law_word") (hcode : X.env.code = .ref (He.cT K ("law", none)).1)
    (L : LamS X.env.scope scope)
    (hbody : ∀ (A : Around) (outer : List Env) (s : Shared) (H : Hp) (E : XK) (f c' : Addr), Room k (A.deeper (lamEnv X scope s.heap.objs.size f c')) → PE (lamCx X A outer s H E scope f c') body (t E))
    (hdef : defaultsOf params X.env = ([], []) := by rfl)
    (hbind : ∀ (q : Str) (cl : List (Str × Addr)) (pm cv ctv : Value), bindArgs (PySem.W.kla_fn "<lambda>" q params body scope cl pm cv ctv) ⟨[], []⟩ = pure [] := by intros; rfl)
    (hK : X.K = K := by rfl) (hm : X.mg = mg := by rfl) (hB : X.base = base := by rfl) (hq : X.env.qual ++ "<lambda>" = "law.<locals>.<lambda>" := by rfl) :
    PE X (.Call (.Name "_law_word" p) [.Lambda params body scope lpos] [] pos) (tWord K (lawB K) "law.<locals>.<lambda>" "none" [(.ref (He.ga K "BadNumber"), "number"), (.ref (He.ga K "BadPlan"), "plan"), (.ref (He.ga K "BadWeights"), "weights")] t) := by
  subst hK
  subst hm
  subst hB
  obtain ⟨fd, F⟩ := T.sd.def_ 38 (d := dd "_law_word" sWord) rfl
  have kp := F.kp
  have hb := FunD.bindsN (ps := ["_law_work"]) F (fun _ _ _ _ _ _ us hl => match us, hl with | [_], _ => rfl)
  obtain ⟨oc, od, dV, kV, doc, pm, an, cdv, ct, osl, rfl, lk, hcd, _, _⟩ := F.ex
  rw [← hq]
  exact pe_word (Ng := ["_law_work"]) hg T.gllaw_word kp lk hcd hb ⟨rfl, rfl, rfl, by decide +kernel, rfl, by decide +kernel, by decide +kernel⟩ rfl (.inl rfl) (fun _ => rfl) rfl T.glBadNumber rfl rfl T.glBadPlan rfl rfl T.glBadWeights rfl TB hcode hr L hdef hbind hbody
/-- f(..), f one of two defs of the module -/
def tAsk (i : Nat) (f1 f2 : Addr) (sp1 sp2 : Sp) (E : XK) (t : TA) : TE := fun σ H Q => (σ[i]? = some (some (.ref f1)) ∧ t σ H fun vs H1 => sp1 vs H1 Q E) ∨ (σ[i]? = some (some (.ref f2)) ∧ t σ H fun vs H1 => sp2 vs H1 Q E)
theorem pe_ask {P : Program} {w : World} {i j1 j2 k : Nat} {x a b : Str} {ps1 ps2 : List Str} {sp1 sp2 : Sp} {E : XK} {p pos : Pos} {e : Expr} {es : List Expr} {t : TA} (C1 : Cal P w K mg base (L2.CX P w) a j1 ps1 sp1) (C2 : Cal P w K mg base (L2.CX P w) b j2 ps2 sp2) (hr : Room k X.A)
    (hN : X.N[i]? = some x) (hv : Vis X.env.scope x) (tk : Takes X (fun cls d _ H => E cls d H)) (ha : PA X (e :: es) t) (h1 : j1 ≤ k := by decide) (h2 : j2 ≤ k := by decide)
    (hdb : (x == ("__debug__" : Str)) = false := by decide) (hcd : (x == ("__classdict__" : Str)) = false := by decide)
    (he : starEach (e :: es) X.env = (false, eval e X.env) :: starEach es X.env := by rfl) (hpl : (backTo pos (starEach es X.env)).any (·.1) = false := by rfl)
    (hP : X.prog = P := by rfl) (hw : X.w = w := by rfl) (hK : X.K = K := by rfl) (hm : X.mg = mg := by rfl) (hB : X.base = base := by rfl) :
    PE X (.Call (.Name x p) (e :: es) [] pos) (tAsk i (He.ga K a) (He.ga K b) sp1 sp2 E t) := by
  subst hP
  subst hw
  subst hK
  subst hm
  subst hB
  obtain ⟨fd1, F1, b1⟩ := C1.ex
  obtain ⟨fd2, F2, b2⟩ := C2.ex
  refine ⟨fun pins s σ H Q I h => ?_⟩
  have hx := passes_call tk (E := E) (fun _ _ _ _ z => z)
  rcases h with ⟨hs, ht⟩ | ⟨hs, ht⟩
  · refine (pe_callL (i := i) (dvs := []) (E := E) (F1.mono h1) hr hN hv C1.kp b1 .nil hx ha hdb hcd he hpl).run pins s σ H Q I ⟨hs, ?_⟩
    show t σ H (fun vs H1 => sp1 (vs ++ []) H1 Q E)
    rw [show (fun (vs : List V) (H1 : Hp) => sp1 (vs ++ []) H1 Q E) = fun vs H1 => sp1 vs H1 Q E by funext vs H1; rw [List.append_nil]]
    exact ht
  · refine (pe_callL (i := i) (dvs := []) (E := E) (F2.mono h2) hr hN hv C2.kp b2 .nil hx ha hdb hcd he hpl).run pins s σ H Q I ⟨hs, ?_⟩
    show t σ H (fun vs H1 => sp2 (vs ++ []) H1 Q E)
    rw [show (fun (vs : List V) (H1 : Hp) => sp2 (vs ++ []) H1 Q E) = fun vs H1 => sp2 vs H1 Q E by funext vs H1; rw [List.append_nil]]
    exact ht
end
end Dy
end
section
set_option Elab.async false
set_option linter.all false
set_option maxRecDepth 100000
/-! The law's laws, in plain Lean. -/
namespace Dy
open PySem PySem.Spec PyProof.Rows L2
/-- the product of a row's weights -/
def wprod (ws ks : List Nat) : Nat := ks.foldl (fun a k => a * ws.getD k 0) 1
def topN (ws : List Nat) (R : List (List Nat × Stand)) : Nat := (R.map fun x => wprod ws x.1).sum
theorem wprod_le {ws : List Nat} (h : ∀ k, ws.getD k 0 ≤ 9) : ∀ ks : List Nat, ∀ a b : Nat, a ≤ b → ks.foldl (fun a k => a * ws.getD k 0) a ≤ b * 9 ^ ks.length
  | [], a, b, h0 => by
    rw [List.foldl_nil, List.length_nil, Nat.pow_zero, Nat.mul_one]
    exact h0
  | k :: ks, a, b, h0 => by
    rw [List.foldl_cons, List.length_cons, Nat.pow_succ, Nat.mul_comm (9 ^ _) 9, ← Nat.mul_assoc]
    exact wprod_le h ks _ _ (Nat.mul_le_mul h0 (h k))
theorem wprod_snoc {ws ks : List Nat} {k : Nat} : wprod ws (ks ++ [k]) = wprod ws ks * ws.getD k 0 := by
  unfold wprod
  rw [List.foldl_append]
  rfl
theorem sum_flat {α : Type} {β : Type} {f : α → List β} {g : β → Nat} : ∀ {l : List α}, ((l.flatMap f).map g).sum = (l.map fun x => ((f x).map g).sum).sum
  | [] => rfl
  | x :: l => by
    rw [List.flatMap_cons, List.map_append, List.sum_append, List.map_cons, List.sum_cons, sum_flat (l := l)]
theorem sum_range {g : Nat → Nat} : ∀ {n : Nat}, ((List.range n).map g).sum = sm n g
  | 0 => rfl
  | n + 1 => by
    rw [List.range_succ, List.map_append, List.sum_append, sum_range (n := n), List.map_singleton, List.sum_singleton]
    rfl
theorem rowX_sum {w : Wks} {p ws : List Nat} {n j : Nat} {x : List Nat × Stand} : ((rowX w p n x).map fun y => wprod ws y.1 * cntP w p ws j y.2).sum = wprod ws x.1 * stepP w p ws n (cntP w p ws j) x.2 := by
  unfold rowX stepP
  rw [sum_flat, sum_range, ← sm_mul_left]
  refine sm_congr fun k _ => ?_
  unfold rowK
  cases e : (dy w x.2 k (p.getD k 0)).2 with
  | true =>
    rw [if_pos rfl, if_pos rfl, List.map_singleton, List.sum_singleton, wprod_snoc, Nat.mul_assoc]
  | false =>
    rw [if_neg (by simp), if_neg (by simp), Nat.mul_zero]
    rfl
theorem rows_sum {w : Wks} {p ws : List Nat} : ∀ {m j : Nat}, ((rowsM w p m).map fun y => wprod ws y.1 * cntP w p ws j y.2).sum = cntP w p ws (m + j) w.vats
  | 0, j => by
    show (1 * cntP w p ws j w.vats) + 0 = _
    rw [Nat.one_mul, Nat.add_zero, Nat.zero_add]
  | m + 1, j => by
    show (((rowsM w p m).flatMap (rowX w p w.kinds.length)).map fun y => wprod ws y.1 * cntP w p ws j y.2).sum = _
    rw [sum_flat]
    have e : ((rowsM w p m).map fun x => ((rowX w p w.kinds.length x).map fun y => wprod ws y.1 * cntP w p ws j y.2).sum) = (rowsM w p m).map fun x => wprod ws x.1 * cntP w p ws (j + 1) x.2 := List.map_congr_left fun x _ => rowX_sum
    rw [e, rows_sum, show m + (j + 1) = m + 1 + j by omega]
theorem top_sum {w : Wks} {p ws : List Nat} {m : Nat} : topN ws (rowsM w p m) = cntP w p ws m w.vats := by
  have := rows_sum (w := w) (p := p) (ws := ws) (m := m) (j := 0)
  rw [Nat.add_zero] at this
  rw [← this]
  unfold topN
  congr 1
  refine List.map_congr_left fun x _ => ?_
  show _ = _ * 1
  rw [Nat.mul_one]
theorem ones_get {n k : Nat} (h : k < n) : (ones n).getD k 0 = 1 := by
  unfold ones
  rw [List.getD_eq_getElem?_getD, List.getElem?_replicate, if_pos h]
  rfl
theorem wprod_ones {n : Nat} : ∀ {ks : List Nat} {a : Nat}, (∀ k ∈ ks, k < n) → ks.foldl (fun a k => a * (ones n).getD k 0) a = a
  | [], _, _ => rfl
  | k :: ks, a, h => by
    rw [List.foldl_cons, ones_get (h k List.mem_cons_self), Nat.mul_one]
    exact wprod_ones fun j hj => h j (List.mem_cons_of_mem _ hj)
theorem sum_ones {α : Type} {f : α → Nat} : ∀ {l : List α}, (∀ x ∈ l, f x = 1) → (l.map f).sum = l.length
  | [], _ => rfl
  | x :: l, h => by
    rw [List.map_cons, List.sum_cons, h x List.mem_cons_self, sum_ones fun y hy => h y (List.mem_cons_of_mem _ hy), List.length_cons, Nat.add_comm]
theorem rows_count {w : Wks} {p : List Nat} (ok : WksOk w) {m : Nat} : cntP w p (ones w.kinds.length) m w.vats = (rowsM w p m).length := by
  rw [← top_sum]
  unfold topN
  exact sum_ones fun x hx => wprod_ones (rowsM_ok ok x hx).2.1
/-- no plan beats the best -/
theorem plan_best {w : Wks} {p ws : List Nat} (hp : PlanOk w p) : ∀ (m : Nat) (s : Stand), cntP w p ws m s ≤ bestN w ws m s
  | 0, _ => Nat.le_refl _
  | m + 1, s => by
    refine sm_le fun k hk => ?_
    split
    · rename_i h
      refine Nat.mul_le_mul_left _ (Nat.le_trans (plan_best hp m _) ?_)
      have := mx_get (f := fun i => if (dy w s k i).2 = true then bestN w ws m (dy w s k i).1 else 0) (hp.lt k hk)
      rw [if_pos h] at this
      exact this
    · exact Nat.zero_le _
theorem rand_best {w : Wks} {ws : List Nat} {W : Nat} (hW : ∀ k, k < w.kinds.length → (w.knd k).routes.length ∣ W) : ∀ (m : Nat) (s : Stand), cntR w ws W m s ≤ W ^ m * bestN w ws m s
  | 0, _ => Nat.le_refl _
  | m + 1, s => by
    show sm _ _ ≤ W ^ (m + 1) * sm _ _
    rw [← sm_mul_left]
    refine sm_le fun k hk => ?_
    have h1 : stepK w (prt w ws W k) k (cntR w ws W m) s (w.knd k).routes.length ≤ sm (w.knd k).routes.length (fun _ => prt w ws W k * (W ^ m * kbN w (bestN w ws m) s k (w.knd k).routes.length)) := sm_le fun i hi => by
      split
      · rename_i h
        refine Nat.mul_le_mul_left _ (Nat.le_trans (rand_best hW m _) (Nat.mul_le_mul_left _ ?_))
        have := mx_get (f := fun i => if (dy w s k i).2 = true then bestN w ws m (dy w s k i).1 else 0) hi
        rw [if_pos h] at this
        exact this
      · exact Nat.zero_le _
    rw [sm_const, ← Nat.mul_assoc, prt_mul (hW k hk)] at h1
    refine Nat.le_trans h1 (Nat.le_of_eq ?_)
    rw [Nat.pow_succ]
    ac_rfl
/-- a good plan never fails -/
theorem fine_all {w : Wks} {p ws : List Nat} {t : Stand} (ok : WksOk w) (hp : PlanOk w p) (f : Fine w p t) : ∀ (m : Nat) (s : Stand), Le s t → cntP w p ws m s = (sm w.kinds.length fun k => ws.getD k 0) ^ m
  | 0, _, _ => rfl
  | m + 1, s, hl => by
    have e : cntP w p ws (m + 1) s = sm w.kinds.length fun k => ws.getD k 0 * (sm w.kinds.length fun k => ws.getD k 0) ^ m := sm_congr fun k hk => by
      obtain ⟨g1, g2⟩ := f.good k hk
      obtain ⟨b1, b2⟩ := beh_mono hl (w.route k (p.getD k 0))
      have fx := sweep_fix (planR w p) f.st f.fix (w.route k (p.getD k 0)) (List.mem_of_getElem? (planR_at hk))
      rw [fx] at b1
      have g3 : isC w k (beh s (w.route k (p.getD k 0))).2 = true := by
        unfold isC at g2 ⊢
        rw [Bool.not_eq_true', List.any_eq_false] at g2 ⊢
        exact fun x hx => g2 x (b2 x hx)
      have e2 : (dy w s k (p.getD k 0)).2 = true := by
        show (_ && _) = true
        rw [g1, g3]
        rfl
      have b3 : Le (dy w s k (p.getD k 0)).1 t := b1
      rw [if_pos e2, fine_all ok hp f m _ b3]
    rw [e, sm_mul, Nat.pow_succ, Nat.mul_comm]
theorem fine_plan {w : Wks} {p ws : List Nat} {t : Stand} (ok : WksOk w) (hp : PlanOk w p) (hw : WtOk w ws) (h0 : 0 < ws.sum) (f : Fine w p t) (m : Nat) : low (cntP w p ws m w.vats) (ws.sum ^ m) = (1, 1) := by
  rw [fine_all ok hp f m _ f.le, sum_ws hw]
  exact low_self (Nat.pow_pos h0)
theorem fine_best {w : Wks} {p ws : List Nat} {t : Stand} (ok : WksOk w) (hp : PlanOk w p) (hw : WtOk w ws) (h0 : 0 < ws.sum) (f : Fine w p t) (m : Nat) : bestV w ws m = (1, 1) := by
  have e : bestN w ws m w.vats = ws.sum ^ m := by
    refine Nat.le_antisymm (bestN_le (Nat.le_of_eq (sum_ws hw)) m _) ?_
    have := plan_best (ws := ws) hp m w.vats
    rw [fine_all ok hp f m _ f.le, sum_ws hw] at this
    exact this
  unfold bestV
  rw [e]
  exact low_self (Nat.pow_pos h0)
theorem plan_le {w : Wks} {p ws : List Nat} (hp : PlanOk w p) (h0 : 0 < ws.sum) (m : Nat) : (low (cntP w p ws m w.vats) (ws.sum ^ m)).1 * (bestV w ws m).2 ≤ (bestV w ws m).1 * (low (cntP w p ws m w.vats) (ws.sum ^ m)).2 :=
  (low_le (Nat.pow_pos h0) (Nat.pow_pos h0)).mpr (Nat.mul_le_mul_right _ (plan_best hp m _))
theorem rand_le {w : Wks} {ws : List Nat} (ok : WksOk w) (h0 : 0 < ws.sum) (m : Nat) : (randV w ws m).1 * (bestV w ws m).2 ≤ (bestV w ws m).1 * (randV w ws m).2 := by
  have b := (whl_pos ok (Nat.le_refl _)).1
  refine (low_le (Nat.pow_pos h0) (Nat.pow_pos (Nat.mul_pos h0 b))).mpr ?_
  rw [Nat.mul_pow, ← Nat.mul_assoc, Nat.mul_right_comm]
  refine Nat.mul_le_mul_right _ ?_
  rw [Nat.mul_comm]
  exact rand_best whl_all m _
end Dy
end
section
set_option Elab.async false
set_option linter.all false
set_option maxRecDepth 100000
set_option maxHeartbeats 4000000
set_option pp.maxSteps 1500
/-! law: lists of words. -/
namespace Dy
open PySem PySem.Spec PyProof.Rows L2 LamX
abbrev qL : Str := "law.<locals>.<lambda>"
theorem two {G : Prop} {R : Hp → Prop} (C : Hp → Prop) (main : (∀ H', C H' → R H') → G) (rest : ∀ H', C H' → R H') : G := main rest
theorem Gq.fresh {B D : Addr} {H H' : Hp} {ys : List V} {xs : List V} (g : Gq B [] H H') (hD : H D = none) (e : H' D = some (.lst xs)) : Gq B [] H (upd H' D (.lst ys)) :=
  ((g.weak (M' := [D]) fun b hb => (nomatch hb)).trans (Gw.lst (B := B) e).gq).weak fun b hb => .inr (by rw [List.mem_singleton.mp hb]; exact hD)
theorem LamT.lst {B D : Addr} {q : Str} {H : Hp} {xs ys : List V} (t : LamT B q H) (e : H D = some (.lst xs)) : LamT B q (upd H D (.lst ys)) := t.mono (Gw.lst e) fun b hb o z => by
  rw [List.mem_singleton.mp hb, e] at z
  cases z
section
variable {K : PySem.W.Frag}
/-- the reading of [word(lambda: ..) for x in xs], each the same word -/
theorem words_lc {a D : Addr} {xs : List V} {s : Nat} {wd : Str} {te : TE} {σ : L2.St} {H : Hp} {Qd : Hp → Prop} (ha : H a = some (.lst xs)) (hD : H D = none) (hl : xs.length ≤ 1000) (lt : LamT (lawB K) qL H)
    (step : ∀ (i : Nat) (x : V) (H' : Hp) (R : VK), xs[i]? = some x → Gq (lawB K) [] H H' → LamT (lawB K) qL H' → (∀ H'', Gq (lawB K) [] H' H'' → LamT (lawB K) qL H'' → R (.str wd) H'') → te ((wipe σ [s]).set s (some x)) H' R)
    (hQ : ∀ H', Gq (lawB K) [] H H' → LamT (lawB K) qL H' → H' D = some (.lst (List.replicate xs.length (.str wd))) → Qd H') :
    ∃ W : Nat → Nat → Hp → Prop, (∃ m, W 0 m (upd H D (.lst []))) ∧ ∀ i m H, W i m H →
      ((Itl K a).stop i H ∧ Qd H) ∨ ((Itl K a).go i H ∧ ∃ Nx : Hp → Prop, (∀ H', Nx H' → ∃ m', m' < m ∧ W (i + 1) m' H') ∧ ∀ x H', (Itl K a).yld i H x H' → (gName s) x (wipe σ [s]) H' fun σ2 H2 => wipe σ2 [s] = wipe σ [s] ∧ tYes σ2 H2 fun b H3 =>
        if b = true then te σ2 H3 fun y H4 => ∃ acc, H4 D = some (.lst acc) ∧ acc.length < sizeLine ∧ Nx (upd H4 D (.lst (acc ++ [y]))) else Nx H3) := by
  have aD : a ≠ D := ne_of_none ha hD
  refine lc_list (K := K) (a := a) (xs := xs) (fun i H' => i ≤ xs.length ∧ Gq (lawB K) [] H H' ∧ LamT (lawB K) qL H' ∧ H' D = some (.lst (List.replicate i (.str wd)))) ?_ (fun i H' _ hP => ?_) (fun i x H' hx hP => ?_) fun H' hP => ?_
  · have g : Gw (lawB K) [] H (upd H D (.lst [])) := .new hD
    exact ⟨Nat.zero_le _, g.gq, lt.mono g (by simp), upd_same⟩
  · exact .of (hP.2.1.keep a _ (by simp) ha (fun _ z => nomatch z))
  · obtain ⟨_, g, l, eD⟩ := hP
    have hi := (List.getElem?_eq_some_iff.mp hx).1
    refine ⟨wipe1, ?_⟩
    unfold tYes
    refine iteT (step i x H' _ hx g l fun H'' g2 l2 => ?_)
    have eD2 := g2.keep D _ (by simp) eD (fun _ z => nomatch z)
    refine ⟨_, eD2, by rw [sizeLine_eq, List.length_replicate]; omega, hi, (g.trans g2).fresh hD eD2, l2.lst eD2, ?_⟩
    rw [upd_same, List.replicate_succ']
  · obtain ⟨_, g, l, eD⟩ := hP
    exact hQ H' g l eD
theorem dp_rep {H : Hp} {v : V} {d : PyData} (h : Dp K H v d) : ∀ n : Nat, DpAll K H (List.replicate n v) (List.replicate n d)
  | 0 => .nil
  | n + 1 => .cons h (dp_rep h n)
theorem ne_same {H : Hp} {u v : V} {d : PyData} {Q : VK} (h1 : Dp K H u d) (h2 : Dp K H v d) (hs : SeqAt.shaped d = true) (he : PyData.eqv d d = true) (q : Q (.bl false) H) : rNeD K u v H Q := ⟨d, d, h1, h2, hs, hs, by rw [he]; exact q⟩
theorem eq_same {H : Hp} {u v : V} {d : PyData} {Q : VK} (h1 : Dp K H u d) (h2 : Dp K H v d) (hs : SeqAt.shaped d = true) (he : PyData.eqv d d = true) (q : Q (.bl true) H) : rEqD K u v H Q := ⟨d, d, h1, h2, hs, hs, by rw [he]; exact q⟩
end
section
variable {K : PySem.W.Frag} {mg : Str → Option Value} {base : Heap} {Q : VK} {H : Hp}
abbrev wds (K : PySem.W.Frag) : List (Value × Str) := [(.ref (He.ga K "BadNumber"), "number"), (.ref (He.ga K "BadPlan"), "plan"), (.ref (He.ga K "BadWeights"), "weights")]
theorem say_number (T : Tx K mg base) (q : Q (.str "number") H) : sayW K Q (wds K) (.ref (He.ga K "BadNumber")) H := ⟨true, T.emBadNumberBadNumber, fun _ => q, fun z => nomatch z⟩
theorem say_plan (T : Tx K mg base) (q : Q (.str "plan") H) : sayW K Q (wds K) (.ref (He.ga K "BadPlan")) H := ⟨false, T.emBadPlanBadNumber, fun z => (nomatch z), fun _ => ⟨true, T.emBadPlanBadPlan, fun _ => q, fun z => nomatch z⟩⟩
theorem say_weights (T : Tx K mg base) (q : Q (.str "weights") H) : sayW K Q (wds K) (.ref (He.ga K "BadWeights")) H :=
  ⟨false, T.emBadWeightsBadNumber, fun z => (nomatch z), fun _ => ⟨false, T.emBadWeightsBadPlan, fun z => (nomatch z), fun _ => ⟨true, T.emBadWeightsBadWeights, fun _ => q, fun z => nomatch z⟩⟩⟩
theorem PlanV.gq {B : Addr} {M : List Addr} {H H' : Hp} {k : Wks} {v : V} {r : Bool} (h : PlanV H k v r) (g : Gq B M H H') : PlanV H' k v r := by
  rcases h with h | ⟨a, us, e, ea, r⟩
  · exact .inl h
  · exact .inr ⟨a, us, e, g.tups _ _ ea, r⟩
theorem WtsV.gq {B : Addr} {H H' : Hp} {k : Wks} {v : V} {r : Bool} (h : WtsV H k v r) (g : Gq B [] H H') : WtsV H' k v r := by
  rcases h with h | ⟨a, xs, e, ea, h⟩ | ⟨a, us, e, ea, r⟩
  · exact .inl h
  · exact .inr (.inl ⟨a, xs, e, g.keep a _ (by simp) ea (fun _ z => nomatch z), h⟩)
  · exact .inr (.inr ⟨a, us, e, g.tups _ _ ea, r⟩)
/-- the reading of [word(lambda: ask(works, value, 41)) for ask in l], the value no weights -/
theorem ask_words (T : Tx K mg base) {σ : L2.St} {l D : Addr} {H : Hp} {x : V} {wx : Addr} {wk : Wks} {Qd : Hp → Prop} (hs : 19 < σ.length) (h2 : σ[2]? = some (some (.ref wx))) (h18 : σ[18]? = some (some x)) (el : H l = some (.lst [.ref (He.ga K "best_chance"), .ref (He.ga K "random_chance")])) (hD : H D = none)
    (lt : LamT (lawB K) qL H) (ok : WksOk wk) (nw : NkV H (Wks.key wk) (.ref wx)) (tb : Tbs K H) (wf : WtsV H wk x false) (hQ : ∀ H', Gq (lawB K) [] H H' → LamT (lawB K) qL H' → H' D = some (.lst [.str "weights", .str "weights"]) → Qd H') :
    ∃ W : Nat → Nat → Hp → Prop, (∃ m, W 0 m (upd H D (.lst []))) ∧ ∀ i m H, W i m H →
      ((Itl K l).stop i H ∧ Qd H) ∨ ((Itl K l).go i H ∧ ∃ Nx : Hp → Prop, (∀ H', Nx H' → ∃ m', m' < m ∧ W (i + 1) m' H') ∧ ∀ x H', (Itl K l).yld i H x H' → (gName 19) x (wipe σ [19]) H' fun σ2 H2 => wipe σ2 [19] = wipe σ [19] ∧ tYes σ2 H2 fun b H3 =>
        if b = true then (tWord K (lawB K) qL "none" (wds K) fun E4 => tAsk 19 (He.ga K "best_chance") (He.ga K "random_chance") (spChance K 6 bestV) (spChance K 3 randV) E4 (tCons (tVar 2) (tCons (tVar 18) (tCons (tC (.int 41)) tNil)))) σ2 H3 fun y H4 => ∃ acc, H4 D = some (.lst acc) ∧ acc.length < sizeLine ∧ Nx (upd H4 D (.lst (acc ++ [y]))) else Nx H3) := by
  refine words_lc (K := K) (wd := "weights") (s := 19) (te := tWord K (lawB K) qL "none" (wds K) fun E4 => tAsk 19 (He.ga K "best_chance") (He.ga K "random_chance") (spChance K 6 bestV) (spChance K 3 randV) E4 (tCons (tVar 2) (tCons (tVar 18) (tCons (tC (.int 41)) tNil)))) (σ := σ) (Qd := Qd) el hD (by show 2 ≤ 1000; decide) lt (fun i v H5 R hv gq lt5 hR => ?_) hQ
  have z : ∀ (j : Nat), j ≠ 19 → ∀ u : V, σ[j]? = some (some u) → ((wipe σ [19]).set 19 (some v))[j]? = some (some u) := fun j hj u hu => by
    show ((σ.set 19 none).set 19 _)[j]? = _
    rw [List.getElem?_set_ne (Ne.symm hj), List.getElem?_set_ne (Ne.symm hj)]
    exact hu
  have z19 : ((wipe σ [19]).set 19 (some v))[19]? = some (some v) := by
    show ((σ.set 19 none).set 19 _)[19]? = _
    rw [List.getElem?_set_self (by rw [List.length_set]; exact hs)]
  refine ⟨lt5, fun H1 g1 lt1 => ?_⟩
  have gz := gq.trans g1
  have sp : ∀ (most : Nat) (val : Wks → List Nat → Nat → Nat × Nat), spChance K most val [.ref wx, x, .int 41] H1 (fun _ H' => R (.str "none") H') (fun cls _ H' => sayW K R (wds K) cls H') := fun most val =>
    ⟨_, _, _, wk, rfl, nw.gq gz, ok, tb.gq gz, .inl ⟨wf.gq gz, fun H2 g2 => say_weights T (hR H2 (g1.trans g2.gq) (lt1.mono g2 (by simp)))⟩⟩
  match i, hv with
  | 0, hv =>
    cases hv
    exact .inl ⟨z19, _, z 2 (by decide) _ h2, _, z 18 (by decide) _ h18, sp _ _⟩
  | 1, hv =>
    cases hv
    exact .inr ⟨z19, _, z 2 (by decide) _ h2, _, z 18 (by decide) _ h18, sp _ _⟩
end
end Dy
end
section
set_option Elab.async false
set_option linter.all false
set_option maxRecDepth 100000
set_option maxHeartbeats 8000000
set_option pp.maxSteps 1500
set_option exponentiation.threshold 20000
/-! law: the walk. -/
namespace Dy
open PySem PySem.Spec PyProof.Rows L2 LamX
def lb (i : Nat) : Stmt := (defBody sLaw).getD i (.Pass ⟨0, 0, 0, 0⟩)
def scL (st : Stmt) : Scope := match st with
  | .Assign _ (.ListComp _ _ sc _) _ => sc
  | .Assign _ (.BinOp _ _ (.ListComp _ _ sc _) _) _ => sc
  | .If (.Compare (.ListComp _ _ sc _) _ _ _) _ _ _ => sc
  | .Return (some (.Compare (.ListComp _ _ sc _) _ _ _)) _ => sc
  | _ => defScope sLaw
def scLi (st : Stmt) : Scope := match st with
  | .Assign _ (.ListComp (.ListComp _ _ sc _) _ _ _) _ => sc
  | _ => defScope sLaw
def scW1 : Scope := relabel (scL (lb 19)) (relE (defScope sLaw))
def scW2 : Scope := relabel (scL (lb 20)) (relE (defScope sLaw))
def scW3 : Scope := relabel (scL (lb 22)) (relE (defScope sLaw))
def scW4 : Scope := relabel (scL (lb 24)) (relE (defScope sLaw))
def scW5 : Scope := relabel (scLi (lb 24)) (relE scW4)
def scW6 : Scope := relabel (scL (lb 26)) (relE (defScope sLaw))
abbrev nLaw : List Str := ["_law_script", "_law_row", "_law_works_here", "_law_plan", "_law_weights", "_law_many", "_law_rows_here", "_law_top", "_law_kinds", "_law_part", "_law_kind", "_law_whole", "_law_turn", "_law_small", "_law_best_here", "_law_other", "_law_told", "_law_bad", "_law_value", "_law_ask"]
theorem scLaw : FnScope nLaw ["_law_script"] (defScope sLaw) := ⟨rfl, rfl, rfl, by decide +kernel, rfl, by decide +kernel, by decide +kernel⟩
/-- a def's name as a value -/
theorem pe_defv {X : Cx} {x : Str} {a : Addr} {pos : Pos} (hg : Gl X x) (hm : X.mg x = some (.ref a)) (hd : (x == ("__debug__" : Str)) = false := by decide) : PE X (.Name x pos) (tC (.ref a)) := pe_glob hg hm rfl hd
theorem RowI.nocode {K : PySem.W.Frag} {H : Hp} {r p : Addr} {ns : List Int} (x : RowI K H r p ns) : ∀ b ∈ [r], ∀ o, H b ≠ some (CdF o) := fun b hb o z => by
  obtain ⟨_, _, _, e, _⟩ := x.row
  rw [List.mem_singleton.mp hb, e] at z
  cases z
theorem _root_.List.drop_map_int {l : List Nat} : ((natI l).map V.int).drop 1 = (natI (l.drop 1)).map V.int := by
  unfold natI
  rw [← List.map_drop, ← List.map_drop]
section
variable {P : Program} {w : World} {K : PySem.W.Frag} {mg : Str → Option Value} {base : Heap}
theorem getD_le {c : Nat} : ∀ {l : List Nat}, (∀ y ∈ l, y ≤ c) → ∀ i, l.getD i 0 ≤ c := fun {l} h i => by
  rw [List.getD_eq_getElem?_getD]
  cases e : l[i]? with
  | none => exact Nat.zero_le _
  | some x => exact h x (List.mem_of_getElem? e)
theorem sum_le_of {c : Nat} : ∀ {l : List Nat}, (∀ y ∈ l, y ≤ c) → l.sum ≤ l.length * c
  | [], _ => Nat.zero_le _
  | x :: l, h => by
    rw [List.sum_cons, List.length_cons, Nat.succ_mul]
    have a := h x List.mem_cons_self
    have b := sum_le_of (l := l) fun y hy => h y (List.mem_cons_of_mem _ hy)
    omega
theorem wts_if {wt : Addr} {w0 : List Nat} {wk : Wks} {σ : L2.St} {H : Hp} (h4 : σ[4]? = some (some (.ref wt))) (e : H wt = some (.tup ((natI w0).map V.int))) (l : w0.length = wk.kinds.length) (le : ∀ y ∈ w0, y ≤ 3) (k1 : 1 ≤ wk.kinds.length) (k2 : wk.kinds.length ≤ 3) (R : VK)
    (q : ∀ ws v H', WtOk wk ws → 0 < ws.sum → ws.sum ≤ 10 → Gw (lawB K) [] H H' → NkV H' (kI (natI ws)) v → R v H') :
    tIf (tTest (tOp (rI0 fun i j => V.bl (decide (j < i))) (tCB (rSumT K) (tCons (tVar 4) tNil)) (tC (.int 0)))) (tVar 4) (tOp (rCatA K) (tSl (rSlA K) (tVar 4) (tPart (tC (.int 1))) tNoPart) (tTup (tCons (tC (.int 2)) tNil))) σ H R := by
  refine ⟨_, h4, wt, natI w0, rfl, .of e, ?_⟩
  have es : (natI w0).sum = ((w0.sum : Nat) : Int) := sum_ints w0
  rw [es]
  refine ⟨_, _, rfl, rfl, _, rfl, ?_⟩
  have s9 := sum_le_of le
  by_cases hs : 0 < w0.sum
  · rw [decide_eq_true (show (0 : Int) < ((w0.sum : Nat) : Int) by omega)]
    refine iteT ⟨_, h4, q w0 _ _ ⟨l, fun i => Nat.le_trans (getD_le le i) (by decide)⟩ hs (by omega) (.refl _ _ _) ⟨wt, _, rfl, e, NkAll.nums.mpr rfl⟩⟩
  · rw [decide_eq_false (show ¬ (0 : Int) < ((w0.sum : Nat) : Int) by omega)]
    refine iteF ⟨_, h4, _, rfl, ?_⟩
    unfold tNoPart
    refine a_sl (B := lawB K) e fun b H1 g1 eb => ?_
    rw [cutV_1, List.drop_map_int] at eb
    refine ⟨by show 1 ≤ sizeLine; decide, fun z nz => ?_⟩
    obtain ⟨g2, e2⟩ := (Gw.refl (lawB K) [] _).addS (o := .tup [.int 2]) nz
    refine a_cat (B := lawB K) (g2.tups _ _ eb) e2 (by simp [natI]; omega) fun y H3 g3 ey => ?_
    have d1 : (w0.drop 1).sum ≤ w0.sum := by
      cases w0 with
      | nil => exact Nat.le_refl _
      | cons a l => exact Nat.le_trans (Nat.le_add_left _ _) (Nat.le_of_eq List.sum_cons.symm)
    refine q (w0.drop 1 ++ [2]) _ _ ⟨by rw [List.length_append, List.length_drop]; show _ - 1 + 1 = _; omega, fun i => getD_le (fun y hy => ?_) i⟩ ?_ ?_ ((g1.trans g2).trans g3) ⟨y, _, rfl, ey, NkAll.nums.mpr ?_⟩
    · rcases List.mem_append.mp hy with z | z
      · exact Nat.le_trans (le y (List.mem_of_mem_drop z)) (by decide)
      · rw [List.mem_singleton.mp z]
        decide
    · rw [List.sum_append]
      show 0 < _ + 2
      omega
    · rw [List.sum_append]
      show _ + 2 ≤ 10
      omega
    · unfold natI
      rw [List.map_append, List.map_append]
      rfl
theorem planV_len {wk : Wks} {H : Hp} {y : Addr} {us : List V} (e : H y = some (.tup us)) (f : ∀ u ∈ us, Flat3 u) (h : us.length ≠ wk.kinds.length) : PlanV H wk (.ref y) false :=
  .inr ⟨y, us, rfl, e, f, by unfold planB; rw [decide_eq_false h] <;> rfl⟩
theorem planV_nine {wk : Wks} {H : Hp} {y : Addr} (ok : WksOk wk) (e : H y = some (.tup (List.replicate wk.kinds.length (.int 9)))) : PlanV H wk (.ref y) false := by
  refine .inr ⟨y, _, rfl, e, fun u hu => .inr (.inr ⟨9, List.eq_of_mem_replicate hu⟩), ?_⟩
  have k1 := ok.k1
  have r2 := (ok.at (k := 0) (by omega)).r2
  unfold planB
  rw [List.length_replicate, decide_eq_true rfl, Bool.true_and]
  refine (List.all_eq_false.mpr ⟨0, List.mem_range.mpr (by omega), ?_⟩).symm
  rw [List.getD_eq_getElem?_getD, List.getElem?_replicate, if_pos (by omega)]
  show ¬ (decide ((0 : Int) ≤ 9) && decide ((9 : Int) ≤ ((wk.knd 0).routes.length - 1 : Int))) = true
  rw [decide_eq_false (show ¬ (9 : Int) ≤ ((wk.knd 0).routes.length - 1 : Int) by omega)]
  simp
theorem flat_ints3 {l : List Int} : ∀ u ∈ l.map V.int, Flat3 u := fun u hu => by
  obtain ⟨i, _, rfl⟩ := List.mem_map.mp hu
  exact .inr (.inr ⟨i, rfl⟩)
theorem wtsB_len {wk : Wks} {us : List V} (h : us.length ≠ wk.kinds.length) : wtsB wk us = false := by
  unfold wtsB
  rw [decide_eq_false h] <;> rfl
theorem wtsB_bad {wk : Wks} {us : List V} {u : V} (hu : u ∈ us) (h : numOk u 0 9 = false) : wtsB wk us = false := by
  unfold wtsB
  rw [List.all_eq_false.mpr ⟨u, hu, by rw [h]; exact Bool.false_ne_true⟩, Bool.false_and, Bool.and_false]
theorem wtsB_zero {wk : Wks} {n : Nat} : wtsB wk (List.replicate n (.int 0)) = false := by
  unfold wtsB
  have e : ((List.replicate n (V.int 0)).map vI).sum = 0 := by
    induction n with
    | zero => rfl
    | succ n ih =>
      rw [List.replicate_succ, List.map_cons, List.sum_cons, ih]
      rfl
  rw [e]
  simp
theorem dp_lists {K : PySem.W.Frag} {H : Hp} {x : Str} : ∀ {as : List Addr}, (∀ a ∈ as, H a = some (.lst [.str x, .str x])) → DpAll K H (as.map V.ref) (List.replicate as.length (.list [.str x, .str x]))
  | [], _ => .nil
  | a :: as, h => .cons (.lst (.of (h a List.mem_cons_self)) (.cons (.str _) (.cons (.str _) .nil))) (dp_lists fun b hb => h b (List.mem_cons_of_mem _ hb))
theorem NkV.pairs {H : Hp} {q : Nat × Nat} {v : V} (h : NkV H (kP q) v) : ∃ a, v = .ref a ∧ H a = some (.tup [.int q.1, .int q.2]) := by
  obtain ⟨a, us, rfl, e, x, _, rfl, n1, y, _, rfl, n2, rfl⟩ := h
  obtain rfl : x = .int q.1 := n1
  obtain rfl : y = .int q.2 := n2
  exact ⟨a, rfl, e⟩
theorem low_big {x y b q : Nat} (h1 : x ≤ y) (hy : y ≤ b ^ q) (hb : b ≤ 20) (hq : q ≤ 3) : (low x y).1 < 2 ^ 1000 ∧ (low x y).2 < 2 ^ 1000 := by
  have p : b ^ q ≤ 20 ^ 3 := Nat.le_trans (Nat.pow_le_pow_left hb q) (Nat.pow_le_pow_right (by decide) hq)
  have d : 20 ^ 3 < 2 ^ 1000 := by decide
  exact ⟨Nat.lt_of_le_of_lt (Nat.le_trans low_le1 (Nat.le_trans h1 (Nat.le_trans hy p))) d, Nat.lt_of_le_of_lt (Nat.le_trans low_le2 (Nat.le_trans hy p)) d⟩
def spLaw (K : PySem.W.Frag) : Sp := fun vs H Q _ => ∃ p, ∃ ns : List Int, vs = [.ref p] ∧ SqL K H p (ns.map V.int) ∧ Tbs K H ∧ LamT (lawB K) "law.<locals>.<lambda>" H ∧ ∀ H', Q (.bl true) H'
theorem ok_law (T : Tx K mg base) (TB : LamX.TabB base mg (He.cT K ("law", none)).1 (lawB K)) {fd : FuncData} (F : FunD K "law" "law" (defArgs sLaw) (defBody sLaw) (defScope sLaw) [] [] (He.fAd K ("law", none)) fd) : FnOk P w K mg base CX0 25 (He.fAd K ("law", none)) fd ["_law_script"] (spLaw K) := by
  refine okT (p := ("law", none)) F scLaw (fun vs H Q E h => ?_) (fun A outer s0 H vs Q E hr h => ?_)
  · obtain ⟨a, b, rfl, _⟩ := h
    rfl
  · obtain ⟨p, ns, rfl, sq, tb, lt, hQ⟩ := h
    refine ⟨_, PSs.nox (pss_cons (ps_set (i := 1) scLaw.nd rfl (.inr rfl) (pe_lst (pa_cons (pv 0) (pa_cons pe_int (pa_cons pe_int (pa_cons pe_int pa_nil))))))
      (pss_cons (ps_set (i := 2) scLaw.nd rfl (.inr rfl) (pe_cal (ok_lawWorks T) hr rfl (pa_cons (pv 1) (pa_cons pe_int (pa_cons pe_int pa_nil)))))
      (pss_cons (ps_set (i := 3) scLaw.nd rfl (.inr rfl) (pe_callTy cr_tupleK rfl T.frtuple bTuple (pa_cons (pe_lc (own := [("_law_kind", 10)]) (g := (gName 10)) rfl scLaw.nd (pi_tupK (pe_ix ix_tupK (pv 2) pe_int (fun _ _ => rfl))) (blkOk_by (N := nLaw) (sc := defScope sLaw) (by decide +kernel)) (fun _ _ _ _ _ => pg_name (i := 10) scLaw.nd rfl (.inl rfl) (.inr rfl)) (fun _ _ _ _ _ => pts_nil) (fun _ _ _ _ _ => pe_cal (ok_lawTaken T) hr rfl (pa_cons (pv 1) (pa_cons (pe_callB cr_lenK rfl T.frlen bLen (pa_cons (pe_ix ix_tupK (pv 10) pe_int (fun _ _ => rfl)) pa_nil)) pa_nil)))) pa_nil)))
      (pss_cons (ps_set (i := 4) scLaw.nd rfl (.inr rfl) (pe_callTy cr_tupleK rfl T.frtuple bTuple (pa_cons (pe_lc (own := [("_law_kind", 10)]) (g := (gName 10)) rfl scLaw.nd (pi_tupK (pe_ix ix_tupK (pv 2) pe_int (fun _ _ => rfl))) (blkOk_by (N := nLaw) (sc := defScope sLaw) (by decide +kernel)) (fun _ _ _ _ _ => pg_name (i := 10) scLaw.nd rfl (.inl rfl) (.inr rfl)) (fun _ _ _ _ _ => pts_nil) (fun _ _ _ _ _ => pe_cal (ok_lawTaken T) hr rfl (pa_cons (pv 1) (pa_cons pe_int pa_nil)))) pa_nil)))
      (pss_cons (ps_set (i := 4) scLaw.nd rfl (.inr rfl) (pe_ifExp (pt_cmpR op_gt (pe_callB (cr_sumTK rfl) rfl T.frsum bSum (pa_cons (pv 4) pa_nil)) pe_int (nomark _)) (pv 4) (pe_op op_catK (pe_slice sl_tupK (pv 4) (po_some pe_int) po_none) (pe_tup (pa_cons pe_int pa_nil)))))
      (pss_cons (ps_set (i := 5) scLaw.nd rfl (.inl rfl) (pe_cal (ok_lawTaken T) hr rfl (pa_cons (pv 1) (pa_cons pe_int pa_nil))))
      (pss_cons (ps_par (i := 6) (j := 7) rfl scLaw.nd rfl rfl (by decide) rfl rfl (pa_cons (pe_cal (ok_lawRows T) hr rfl (pa_cons (pv 2) (pa_cons (pv 3) (pa_cons (pv 5) pa_nil)))) (pa_cons pe_int pa_nil)) rfl)
      (pss_cons (ps_for PassesOwn.never rfl (pi_listK (pv 6)) (pg_name (i := 8) scLaw.nd rfl (.inl rfl)) (pss_cons (ps_set (i := 9) scLaw.nd rfl (.inl rfl) pe_int)
      (pss_cons (ps_for PassesOwn.never rfl (pi_tupK (pv 8)) (pg_name (i := 10) scLaw.nd rfl (.inl rfl)) (pss_one (ps_set (i := 9) scLaw.nd rfl (.inl rfl) (pe_op op_mulW (pv 9) (pe_ix ix_tupK (pv 4) (pv 10) (fun _ _ => rfl))))))
      (pss_one (ps_set (i := 7) scLaw.nd rfl (.inl rfl) (pe_op op_add (pv 7) (pv 9)))))))
      (pss_cons (ps_set (i := 11) scLaw.nd rfl (.inl rfl) pe_int)
      (pss_cons (ps_for PassesOwn.never rfl (pi_range1 rfl T.frrange (pa_cons (pv 5) pa_nil)) (pg_name (i := 12) scLaw.nd rfl (.inl rfl)) (pss_one (ps_set (i := 11) scLaw.nd rfl (.inl rfl) (pe_op op_mulW (pv 11) (pe_callB (cr_sumTK rfl) rfl T.frsum bSum (pa_cons (pv 4) pa_nil))))))
      (pss_cons (ps_if (pt_not (pt_val (pe_cal (ok_lawAlike T) hr rfl (pa_cons (pe_calS (ok_countRows T) hr rfl (fun σ => passAt takes_none5 σ) (pa_cons (pv 2) (pa_cons (pv 3) (pa_cons (pv 5) pa_nil)))) (pa_cons (pe_callB cr_lenK rfl T.frlen bLen (pa_cons (pv 6) pa_nil)) pa_nil))))) (pss_one (ps_ret pe_bl)) (pss_nil))
      (pss_cons (ps_if (pt_not (pt_val (pe_cal (ok_lawAlike T) hr rfl (pa_cons (pe_calS (ok_planChance T) hr rfl (fun σ => passAt takes_none5 σ) (pa_cons (pv 2) (pa_cons (pv 3) (pa_cons (pv 4) (pa_cons (pv 5) pa_nil))))) (pa_cons (pe_cal (ok_lawLowest T) hr rfl (pa_cons (pv 7) (pa_cons (pv 11) pa_nil))) pa_nil))))) (pss_one (ps_ret pe_bl)) (pss_nil))
      (pss_cons (ps_set (i := 13) scLaw.nd rfl (.inl rfl) (pe_callB (call_min2 rfl) rfl T.frmin bMin (pa_cons (pv 5) (pa_cons pe_int pa_nil))))
      (pss_cons (ps_par (i := 14) (j := 15) rfl scLaw.nd rfl rfl (by decide) rfl rfl (pa_cons (pe_calS (ok_bestChance T) hr rfl (fun σ => passAt takes_none5 σ) (pa_cons (pv 2) (pa_cons (pv 4) (pa_cons (pv 13) pa_nil)))) (pa_cons (pe_calS (ok_randomChance T) hr rfl (fun σ => passAt takes_none5 σ) (pa_cons (pv 2) (pa_cons (pv 4) (pa_cons (pv 13) pa_nil)))) pa_nil)) rfl)
      (pss_cons (ps_if (pt_not (pt_val (pe_cal (ok_lawAlike T) hr rfl (pa_cons (pv 14) (pa_cons (pe_cal (ok_lawBest T) hr rfl (pa_cons (pv 2) (pa_cons (pv 4) (pa_cons (pe_ix ix_tupK (pv 2) pe_int (fun _ _ => rfl)) (pa_cons (pv 13) (pa_cons pe_bl pa_nil)))))) pa_nil))))) (pss_one (ps_ret pe_bl)) (pss_nil))
      (pss_cons (ps_if (pt_not (pt_val (pe_cal (ok_lawAlike T) hr rfl (pa_cons (pv 15) (pa_cons (pe_cal (ok_lawBest T) hr rfl (pa_cons (pv 2) (pa_cons (pv 4) (pa_cons (pe_ix ix_tupK (pv 2) pe_int (fun _ _ => rfl)) (pa_cons (pv 13) (pa_cons pe_bl pa_nil)))))) pa_nil))))) (pss_one (ps_ret pe_bl)) (pss_nil))
      (pss_cons (ps_set (i := 16) scLaw.nd rfl (.inl rfl) (pe_calS (ok_planChance T) hr rfl (fun σ => passAt takes_none5 σ) (pa_cons (pv 2) (pa_cons (pv 3) (pa_cons (pv 4) (pa_cons (pv 13) pa_nil))))))
      (pss_cons (ps_if (PW.pt (pw_or (pt_cmpR op_gt (pe_op op_mulW (pe_ix ix_tupK (pv 16) pe_int (fun _ _ => rfl)) (pe_ix ix_tupK (pv 14) pe_int (fun _ _ => rfl))) (pe_op op_mulW (pe_ix ix_tupK (pv 14) pe_int (fun _ _ => rfl)) (pe_ix ix_tupK (pv 16) pe_int (fun _ _ => rfl))) (nomark _)) (pw_or1 (pt_cmpR op_gt (pe_op op_mulW (pe_ix ix_tupK (pv 15) pe_int (fun _ _ => rfl)) (pe_ix ix_tupK (pv 14) pe_int (fun _ _ => rfl))) (pe_op op_mulW (pe_ix ix_tupK (pv 14) pe_int (fun _ _ => rfl)) (pe_ix ix_tupK (pv 15) pe_int (fun _ _ => rfl))) (nomark _))))) (pss_one (ps_ret pe_bl)) (pss_nil))
      (pss_cons (ps_if (PW.pt (pw_and (pt_val (pe_cal (ok_isGood T) hr rfl (pa_cons (pv 2) (pa_cons (pv 3) pa_nil)))) (pw_and1 (PW.pt (pw_or (pt_cmpR (op_neK hr.units) (pe_calS (ok_planChance T) hr rfl (fun σ => passAt takes_none5 σ) (pa_cons (pv 2) (pa_cons (pv 3) (pa_cons (pv 4) (pa_cons pe_int pa_nil))))) (pe_tup (pa_cons pe_int (pa_cons pe_int pa_nil))) (nomark _)) (pw_or1 (pt_cmpR (op_neK hr.units) (pe_calS (ok_bestChance T) hr rfl (fun σ => passAt takes_none5 σ) (pa_cons (pv 2) (pa_cons (pv 4) (pa_cons pe_int pa_nil)))) (pe_tup (pa_cons pe_int (pa_cons pe_int pa_nil))) (nomark _)))))))) (pss_one (ps_ret pe_bl)) (pss_nil))
      (pss_cons (ps_setLc (i := 16) (own := [("_law_value", 18)]) (g := (gName 18)) rfl scLaw.nd rfl rfl (sw_true rfl rfl rfl (by decide +kernel)) (pi_listK (pe_lst (pa_cons pe_int (pa_cons (pe_op op_sub pe_int pe_int) (pa_cons pe_bl (pa_cons pe_non pa_nil)))))) (blkOk_by (N := nLaw) (sc := defScope sLaw) (by decide +kernel)) (fun _ _ _ _ _ => pg_name (i := 18) scLaw.nd rfl (.inr rfl)) (fun _ _ _ _ _ => pts_nil) (fun _ _ _ _ _ => pe_lawWord T TB hr rfl rfl (lamS_by (sc := scW1) (by decide +kernel)) (fun _ _ _ _ E4 _ _ hr4 => pe_calS (ok_countRows T) hr4 rfl (fun σ => passAt (takes_of rfl rfl rfl rfl) σ) (pa_cons (pv 2) (pa_cons (pv 3) (pa_cons (pv 18) pa_nil))))))
      (pss_cons (ps_set (i := 16) scLaw.nd rfl (.inl rfl) (pe_op op_cat (pv 16) (pe_lc (own := [("_law_ask", 19)]) (g := (gName 19)) rfl scLaw.nd (pi_listK (pe_lst (pa_cons (pe_defv rfl T.glbest_chance) (pa_cons (pe_defv rfl T.glrandom_chance) pa_nil)))) (blkOk_by (N := nLaw) (sc := defScope sLaw) (by decide +kernel)) (fun _ _ _ _ _ => pg_name (i := 19) scLaw.nd rfl (.inr rfl)) (fun _ _ _ _ _ => pts_nil) (fun _ _ _ _ _ => pe_lawWord T TB hr rfl rfl (lamS_by (sc := scW2) (by decide +kernel)) (fun _ _ _ _ E4 _ _ hr4 => pe_ask (i := 19) (ok_bestChance T) (ok_randomChance T) hr4 rfl (Or.inr (Or.inr rfl)) (takes_of rfl rfl rfl rfl) (pa_cons (pv 2) (pa_cons (pv 4) (pa_cons pe_int pa_nil))))))))
      (pss_cons (ps_if (pt_cmpR (op_neK hr.units) (pv 16) (pe_op op_rep (pe_lst (pa_cons pe_str pa_nil)) pe_int) (nomark _)) (pss_one (ps_ret pe_bl)) (pss_nil))
      (pss_cons (ps_if (pt_cmpR (op_neK hr.units) (pe_lc (own := [("_law_value", 18)]) (g := (gName 18)) rfl scLaw.nd (pi_listK (pe_lst (pa_cons pe_non (pa_cons (pe_op op_catK (pv 3) (pe_tup (pa_cons pe_int pa_nil))) (pa_cons (pe_op op_repK (pe_tup (pa_cons pe_int pa_nil)) (pe_callB cr_lenK rfl T.frlen bLen (pa_cons (pv 3) pa_nil))) pa_nil))))) (blkOk_by (N := nLaw) (sc := defScope sLaw) (by decide +kernel)) (fun _ _ _ _ _ => pg_name (i := 18) scLaw.nd rfl (.inr rfl)) (fun _ _ _ _ _ => pts_nil) (fun _ _ _ _ _ => pe_lawWord T TB hr rfl rfl (lamS_by (sc := scW3) (by decide +kernel)) (fun _ _ _ _ E4 _ _ hr4 => pe_calS (ok_countRows T) hr4 rfl (fun σ => passAt (takes_of rfl rfl rfl rfl) σ) (pa_cons (pv 2) (pa_cons (pv 18) (pa_cons pe_int pa_nil)))))) (pe_op op_rep (pe_lst (pa_cons pe_str pa_nil)) pe_int) (nomark _)) (pss_one (ps_ret pe_bl)) (pss_nil))
      (pss_cons (ps_set (i := 17) scLaw.nd rfl (.inl rfl) (pe_lst (pa_cons pe_non (pa_cons (pe_callTy cr_listK rfl T.frlist bList (pa_cons (pv 4) pa_nil)) (pa_cons (pe_op op_catK (pv 4) (pe_tup (pa_cons pe_int pa_nil))) (pa_cons (pe_op op_repK (pe_tup (pa_cons pe_int pa_nil)) (pe_callB cr_lenK rfl T.frlen bLen (pa_cons (pv 4) pa_nil))) (pa_cons (pe_op op_catK (pe_slice sl_tupK (pv 4) (po_some pe_int) po_none) (pe_tup (pa_cons pe_int pa_nil))) (pa_cons (pe_op op_catK (pe_slice sl_tupK (pv 4) (po_some pe_int) po_none) (pe_tup (pa_cons pe_bl pa_nil))) pa_nil))))))))
      (pss_cons (ps_setLc (i := 16) (own := [("_law_value", 18)]) (g := (gName 18)) rfl scLaw.nd rfl rfl (sw_true rfl rfl rfl (by decide +kernel)) (pi_listK (pv 17)) (blkOk_by (N := nLaw) (sc := defScope sLaw) (by decide +kernel)) (fun _ _ _ _ _ => pg_name (i := 18) scLaw.nd rfl (.inr rfl)) (fun _ _ _ _ _ => pts_nil) (fun _ _ _ _ _ => pe_lc (own := [("_law_ask", 19)]) (g := (gName 19)) rfl scLaw.nd (pi_listK (pe_lst (pa_cons (pe_defv rfl T.glbest_chance) (pa_cons (pe_defv rfl T.glrandom_chance) pa_nil)))) (blkOk_by (N := nLaw) (sc := scW4) (by decide +kernel)) (fun _ _ _ _ _ => pg_name (i := 19) scLaw.nd rfl (.inr rfl)) (fun _ _ _ _ _ => pts_nil) (fun _ _ _ _ _ => pe_lawWord T TB hr rfl rfl (lamS_by (sc := scW5) (by decide +kernel)) (fun _ _ _ _ E4 _ _ hr4 => pe_ask (i := 19) (ok_bestChance T) (ok_randomChance T) hr4 rfl (Or.inr (Or.inr rfl)) (takes_of rfl rfl rfl rfl) (pa_cons (pv 2) (pa_cons (pv 18) (pa_cons pe_int pa_nil)))))))
      (pss_cons (ps_if (pt_cmpR (op_neK hr.units) (pv 16) (pe_op op_rep (pe_lst (pa_cons (pe_op op_rep (pe_lst (pa_cons pe_str pa_nil)) pe_int) pa_nil)) pe_int) (nomark _)) (pss_one (ps_ret pe_bl)) (pss_nil))
      (pss_one (ps_ret (pe_cmpR (op_eqK hr.units) (pe_lc (own := [("_law_value", 18)]) (g := (gName 18)) rfl scLaw.nd (pi_listK (pv 17)) (blkOk_by (N := nLaw) (sc := defScope sLaw) (by decide +kernel)) (fun _ _ _ _ _ => pg_name (i := 18) scLaw.nd rfl (.inr rfl)) (fun _ _ _ _ _ => pts_nil) (fun _ _ _ _ _ => pe_lawWord T TB hr rfl rfl (lamS_by (sc := scW6) (by decide +kernel)) (fun _ _ _ _ E4 _ _ hr4 => pe_calS (ok_planChance T) hr4 rfl (fun σ => passAt (takes_of rfl rfl rfl rfl) σ) (pa_cons (pv 2) (pa_cons (pv 3) (pa_cons (pv 18) (pa_cons pe_int pa_nil))))))) (pe_op op_rep (pe_lst (pa_cons pe_str pa_nil)) pe_int) (nomark _)))))))))))))))))))))))))))))), ?_⟩
    refine ⟨_, rfl, by show 4 ≤ sizeLine; decide, fun r nr => ?_⟩
    obtain ⟨g1, e1⟩ := (Gw.refl (lawB K) [] H).addS (o := .lst [.ref p, .int 0, .int 24062, .int 0]) nr
    have pr : p ≠ r ∨ ∀ H' : Hp, SqL K H' p (ns.map V.int) := by
      rcases sq with (h | ⟨o, h⟩) | h
      · exact .inl (ne_of_none h nr)
      · exact .inl (ne_of_none h nr)
      · exact .inr fun H' => .inr h
    have ri1 : RowI K (upd H r (.lst [.ref p, .int 0, .int 24062, .int 0])) r p ns := ⟨⟨0, 24062, 0, e1, by decide, by decide, by decide⟩, SqL.gw sq g1 (by simp), pr⟩
    have tb1 := tb.gw g1
    have lt1 := lt.mono g1 (by simp)
    clear tb lt sq g1
    generalize upd H r (.lst [.ref p, .int 0, .int 24062, .int 0]) = H1 at *
    -- works
    refine ⟨_, rfl, r, p, ns, rfl, ri1, fun wk wv H2 ok g2 ri2 nw => ?_⟩
    have tb2 := tb1.gw g2
    have lt2 := lt1.mono g2 ri1.nocode
    clear tb1 lt1 g2 e1
    have nw0 := nw
    obtain ⟨wx, us, rfl, ex, v0, _, rfl, n0, u1, _, rfl, n1, u2, _, rfl, n2, rfl⟩ := nw
    obtain ⟨ka, kvs, rfl, eka, alk⟩ := n2
    have lk : kvs.length = wk.kinds.length := by
      have := alk.length
      simpa using this.symm
    have k1 := ok.k1
    have k2 := ok.k2
    -- plan
    refine ⟨_, rfl, _, _, _, _, rfl, rfl, .of ex, atI_nat (j := 2) rfl, ka, rfl, ⟨_, .of eka⟩, fun D hD => ?_⟩
    have Dr : D ≠ r := fun z => by
      obtain ⟨_, _, _, e, _⟩ := ri2.row
      rw [z, e] at hD
      cases hD
    refine lc_tup (K := K) (a := ka) (xs := kvs) (fun i H' => ∃ L : List Nat, H' D = some (.lst ((natI L).map V.int)) ∧ L.length = i ∧ (∀ j, j < i → L.getD j 0 < (wk.knd j).routes.length) ∧ Gw (lawB K) [r] H2 H' ∧ RowI K H' r p ns) ?_ (fun i H' _ hP => ?_) (fun i x H' hx hP => ?_) fun H' hP => ?_
    · have g : Gw (lawB K) [] H2 (upd H2 D (.lst [])) := .new hD
      exact ⟨[], upd_same, rfl, fun j hj => absurd hj (Nat.not_lt_zero _), g.weak fun b hb => (nomatch hb), ri2.put hD ri2 (g.weak fun b hb => (nomatch hb))⟩
    · obtain ⟨_, _, _, _, g, _⟩ := hP
      exact .of (g.tups _ _ eka)
    · obtain ⟨L, eD, lL, okL, g, ri⟩ := hP
      have hi : i < wk.kinds.length := lk ▸ (List.getElem?_eq_some_iff.mp hx).1
      obtain ⟨x', ex', nx'⟩ := alk.get (i := i) (k := (wk.knd i).key) (by rw [List.getElem?_map, Wks.knd_at hi] <;> rfl)
      obtain rfl : x' = x := by
        rw [ex'] at hx
        exact Option.some.inj hx
      obtain ⟨e, es, rfl, ee, y0, _, rfl, m0, y1, _, rfl, m1, y2, _, rfl, ⟨f, fs, rfl, ef, alf⟩, rfl⟩ := nx'.gw g
      have lf : fs.length = (wk.knd i).routes.length := by
        have := alf.length
        simpa using this.symm
      have r1 := (ok.at hi).r1
      have r2 := (ok.at hi).r2
      refine ⟨wipe1, ?_⟩
      unfold tYes
      refine iteT ⟨_, rfl, _, rfl, _, _, _, _, rfl, rfl, .of ee, atI_nat (j := 2) rfl, f, fs, rfl, .inr (.of ef), ?_⟩
      refine ⟨r, p, ns, fs.length, rfl, by omega, by omega, ri, fun t H4 ht g4 ri4 => ?_⟩
      have e4 := g4.keep D _ (by simpa using Dr) eD (fun _ z => nomatch z)
      refine ⟨_, e4, by rw [sizeLine_eq]; unfold natI; simp; omega, L ++ [t], ?_, by rw [List.length_append, lL]; rfl, fun j hj => ?_, (g.trans g4).put (.inl hD) e4 .lst, ri2.put hD ri4 (Gw.lst (B := lawB K) e4)⟩
      · rw [upd_same]
        unfold natI
        rw [List.map_append, List.map_append]
        rfl
      · rcases Nat.lt_succ_iff_lt_or_eq.mp hj with z | z
        · have := okL j z
          rw [List.getD_eq_getElem?_getD] at this ⊢
          rw [List.getElem?_append_left (by omega)]
          exact this
        · subst z
          rw [List.getD_eq_getElem?_getD, List.getElem?_append_right (by omega), lL, Nat.sub_self]
          show t < _
          omega
    obtain ⟨pl, eD, lP, okP, g3, ri3⟩ := hP
    have hp : PlanOk wk pl := ⟨lP.trans lk, fun j hj => okP j (by rw [lk]; exact hj)⟩
    refine ⟨D, _, rfl, .inl ⟨.of eD, fun pt npt => ?_⟩⟩
    obtain ⟨g4, ept⟩ := (Gw.refl (lawB K) [] H').addS (o := .tup ((natI pl).map V.int)) npt
    have g4r : Gw (lawB K) [r] _ _ := g4.weak fun b hb => (nomatch hb)
    have npl : NkV _ (kI (natI pl)) (.ref pt) := ⟨pt, _, rfl, ept, NkAll.nums.mpr rfl⟩
    have ri4 := ri3.gw g4 (by simp) (by simp)
    have nw4 := (nw0.gw g3).gw g4
    have tb4 := (tb2.gw g3).gw g4
    have lt4 := (lt2.mono g3 ri2.nocode).mono g4 (by simp)
    have eka4 := g4.tups _ _ (g3.tups _ _ eka)
    have ex4 := g4.tups _ _ (g3.tups _ _ ex)
    generalize upd H' pt (.tup ((natI pl).map V.int)) = H4 at *
    clear g3 ri3 eD okP lP g4 g4r ri2 tb2 lt2 nw0 eka ex alk Dr hD D
    -- weights
    refine ⟨_, rfl, _, _, _, _, rfl, rfl, .of ex4, atI_nat (j := 2) rfl, ka, rfl, ⟨_, .of eka4⟩, fun D hD => ?_⟩
    have Dr : D ≠ r := fun z => by
      obtain ⟨_, _, _, e, _⟩ := ri4.row
      rw [z, e] at hD
      cases hD
    refine lc_tup (K := K) (a := ka) (xs := kvs) (fun i H' => ∃ L : List Nat, H' D = some (.lst ((natI L).map V.int)) ∧ L.length = i ∧ (∀ y ∈ L, y ≤ 3) ∧ Gw (lawB K) [r] H4 H' ∧ RowI K H' r p ns) ?_ (fun i H' _ hP => ?_) (fun i x H' hx hP => ?_) fun H' hP => ?_
    · have g : Gw (lawB K) [] H4 (upd H4 D (.lst [])) := .new hD
      exact ⟨[], upd_same, rfl, fun y hy => (nomatch hy), g.weak fun b hb => (nomatch hb), ri4.put hD ri4 (g.weak fun b hb => (nomatch hb))⟩
    · obtain ⟨_, _, _, _, g, _⟩ := hP
      exact .of (g.tups _ _ eka4)
    · obtain ⟨L, eD, lL, okL, g, ri⟩ := hP
      have hi : i < wk.kinds.length := lk ▸ (List.getElem?_eq_some_iff.mp hx).1
      refine ⟨wipe1, ?_⟩
      unfold tYes
      refine iteT ⟨_, rfl, r, p, ns, 4, rfl, by decide, by decide, ri, fun t H5 ht g5 ri5 => ?_⟩
      have e5 := g5.keep D _ (by simpa using Dr) eD (fun _ z => nomatch z)
      refine ⟨_, e5, by rw [sizeLine_eq]; unfold natI; simp; omega, L ++ [t], ?_, by rw [List.length_append, lL]; rfl, fun y hy => ?_, (g.trans g5).put (.inl hD) e5 .lst, ri4.put hD ri5 (Gw.lst (B := lawB K) e5)⟩
      · rw [upd_same]
        unfold natI
        rw [List.map_append, List.map_append]
        rfl
      · rcases List.mem_append.mp hy with z | z
        · exact okL y z
        · rw [List.mem_singleton.mp z]
          omega
    obtain ⟨w0, eD, lW, okW, g5, ri5⟩ := hP
    refine ⟨D, _, rfl, .inl ⟨.of eD, fun wt nwt => ?_⟩⟩
    obtain ⟨g6, ewt⟩ := (Gw.refl (lawB K) [] H').addS (o := .tup ((natI w0).map V.int)) nwt
    have ri6 := ri5.gw g6 (by simp) (by simp)
    have nw6 := (nw4.gw g5).gw g6
    have npl6 := (npl.gw g5).gw g6
    have tb6 := (tb4.gw g5).gw g6
    have lt6 := (lt4.mono g5 ri4.nocode).mono g6 (by simp)
    have eka6 := g6.tups _ _ (g5.tups _ _ eka4)
    have ex6 := g6.tups _ _ (g5.tups _ _ ex4)
    generalize upd H' wt (.tup ((natI w0).map V.int)) = H6 at *
    clear g5 ri5 eD g6 ri4 tb4 lt4 nw4 npl eka4 ex4 Dr hD D
    refine wts_if (wk := wk) rfl ewt (lW.trans lk) okW k1 k2 _ fun ws wv H7 hw hS hS10 g7 nws => ?_
    have ri7 := ri6.gw g7 (by simp) (by simp)
    have nw7 := nw6.gw g7
    have npl7 := npl6.gw g7
    have tb7 := tb6.gw g7
    have lt7 := lt6.mono g7 (by simp)
    have eka7 := g7.tups _ _ eka6
    have ex7 := g7.tups _ _ ex6
    clear g7 ri6 nw6 npl6 tb6 lt6 eka6 ex6 ewt lW okW nwt
    -- many
    refine ⟨_, rfl, r, p, ns, 5, rfl, by decide, by decide, ri7, fun m H8 hm g8 ri8 => ?_⟩
    have nw8 := nw7.gw g8
    have npl8 := npl7.gw g8
    have nws8 := nws.gw g8
    have tb8 := tb7.gw g8
    have lt8 := lt7.mono g8 ri7.nocode
    have eka8 := g8.tups _ _ eka7
    have ex8 := g8.tups _ _ ex7
    clear g8 ri7 nw7 npl7 nws tb7 lt7 eka7 ex7 ri8
    -- rows
    refine ⟨_, rfl, _, rfl, _, rfl, _, _, wk, pl, m, rfl, nw8, npl8, ok, hp, by omega, fun rl rus H9 g9 nrl erl alr => ?_⟩
    have lt9 := lt8.mono g9 (by simp)
    have tb9 := tb8.gw g9
    have nw9 := nw8.gw g9
    have npl9 := npl8.gw g9
    have nws9 := nws8.gw g9
    have eka9 := g9.tups _ _ eka8
    have ex9 := g9.tups _ _ ex8
    clear g9 nw8 npl8 nws8 tb8 lt8 eka8 ex8
    refine ⟨_, _, rfl, ?_⟩
    obtain ⟨wsx, wss, rfl, ews, alw⟩ := id nws9
    obtain rfl := NkAll.nums.mp alw
    have okR := rowsM_ok (p := pl) ok (m := m)
    have lR := rowsM_len (w := wk) (p := pl) (m := m) k2
    have p81 : 3 ^ m ≤ 81 := Nat.le_trans (Nat.pow_le_pow_right (by decide) (show m ≤ 4 by omega)) (by decide)
    have lru : rus.length = (rowsM wk pl m).length := by
      have := alr.length
      rw [List.length_map] at this
      exact this.symm
    have cm : ∀ i j : Nat, i < 2 ^ 1000 → j < 2 ^ 1000 → CMulW (i : Int) (j : Int) := fun i j hi hj => wide_mul (a := 1000) (b := 1000) (by rw [Int.natAbs_natCast]; exact hi) (by rw [Int.natAbs_natCast]; exact hj) (by decide) (by decide) (by decide)
    have c9 : ∀ k, ws.getD k 0 < 2 ^ 1000 := fun k => Nat.lt_of_le_of_lt (hw.le k) (by decide)
    have ewk : ∀ k, k < wk.kinds.length → ((natI ws).map V.int)[k]? = some (.int (ws.getD k 0 : Nat)) := fun k hk => by
      have : k < ws.length := by rw [hw.len]; exact hk
      unfold natI
      rw [List.getElem?_map, List.getElem?_map, List.getElem?_eq_getElem this, List.getD_eq_getElem?_getD, List.getElem?_eq_getElem this]
      rfl
    refine ⟨_, rfl, rl, rfl, ⟨_, .of erl⟩, ?_⟩
    refine for_list (xs := rus) (fun i σ H' => i ≤ rus.length ∧ H' = H9 ∧ ∃ (x8 x9 x10 : Option V), σ = [some (.ref p), some (.ref r), some (.ref wx), some (.ref pt), some (.ref wsx), some (.int m), some (.ref rl), some (.int (topN ws ((rowsM wk pl m).take i) : Nat)), x8, x9, x10, none, none, none, none, none, none, none, none, none]) ?_ (fun i σ H' _ hP => ?_) (fun i x σ H' hx hP => ?_) fun σ H' hP => ?_
    · exact ⟨Nat.zero_le _, rfl, _, _, _, rfl⟩
    · obtain ⟨_, rfl, _⟩ := hP
      exact .of erl
    · obtain ⟨_, rfl, x8, x9, x10, rfl⟩ := hP
      have hi0 := (List.getElem?_eq_some_iff.mp hx).1
      have hi : i < (rowsM wk pl m).length := lru ▸ hi0
      obtain ⟨x', ex', nx'⟩ := alr.get (i := i) (k := kI (natI (rowsM wk pl m)[i].1)) (by rw [List.getElem?_map, List.getElem?_eq_getElem hi] <;> rfl)
      obtain rfl : x' = x := by
        rw [ex'] at hx
        exact Option.some.inj hx
      obtain ⟨ea, es, rfl, ee, ale⟩ := nx'
      obtain rfl := NkAll.nums.mp ale
      have okx := okR (rowsM wk pl m)[i] (List.getElem_mem hi)
      have etk : topN ws ((rowsM wk pl m).take (i + 1)) = topN ws ((rowsM wk pl m).take i) + wprod ws (rowsM wk pl m)[i].1 := by
        unfold topN
        rw [List.take_add_one, List.getElem?_eq_getElem hi, Option.toList_some, List.map_append, List.sum_append, List.map_singleton, List.sum_singleton]
      generalize topN ws ((rowsM wk pl m).take i) = T0 at *
      generalize (rowsM wk pl m)[i] = rx at *
      refine ⟨_, rfl, ea, rfl, ⟨_, .of ee⟩, ?_⟩
      refine for_tup (xs := (natI rx.1).map V.int) (fun j σ H2 => H2 = H' ∧ ∃ (y10 : Option V), σ = [some (.ref p), some (.ref r), some (.ref wx), some (.ref pt), some (.ref wsx), some (.int m), some (.ref rl), some (.int T0), some (.ref ea), some (.int (wprod ws (rx.1.take j) : Nat)), y10, none, none, none, none, none, none, none, none, none]) ?_ (fun j σ H' _ hP => ?_) (fun j x σ H' hx hP => ?_) fun σ H' hP => ?_
      · exact ⟨rfl, _, rfl⟩
      · obtain ⟨rfl, _⟩ := hP
        exact .of ee
      · obtain ⟨rfl, y10, rfl⟩ := hP
        have hj : j < rx.1.length := by
          have := (List.getElem?_eq_some_iff.mp hx).1
          simpa [natI] using this
        have exj : x = .int ((rx.1[j] : Nat) : Int) := by
          unfold natI at hx
          rw [List.getElem?_map, List.getElem?_map, List.getElem?_eq_getElem hj] at hx
          exact (Option.some.inj hx).symm
        subst exj
        have hk := okx.2.1 rx.1[j] (List.getElem_mem hj)
        have ewp : wprod ws (rx.1.take (j + 1)) = wprod ws (rx.1.take j) * ws.getD rx.1[j] 0 := by
          unfold wprod
          rw [List.take_add_one, List.getElem?_eq_getElem hj, Option.toList_some, List.foldl_append]
          rfl
        have wb : wprod ws (rx.1.take j) < 2 ^ 1000 := by
          refine Nat.lt_of_le_of_lt (wprod_le hw.le _ 1 1 (Nat.le_refl _)) (Nat.lt_of_le_of_lt (Nat.mul_le_mul_left 1 (Nat.pow_le_pow_right (by decide) (show (rx.1.take j).length ≤ 4 by have := okx.1; rw [List.length_take]; omega))) (by decide))
        refine ⟨_, rfl, _, rfl, _, rfl, _, _, _, _, rfl, rfl, .of ews, atI_nat (ewk _ hk), _, _, rfl, rfl, cm _ _ wb (c9 _), rfl, some (.int ((rx.1[j] : Nat) : Int)), ?_⟩
        rw [ewp, Int.natCast_mul]
        rfl
      · obtain ⟨rfl, y10, rfl⟩ := hP
        rw [List.length_map, show (natI rx.1).length = rx.1.length by unfold natI; rw [List.length_map], List.take_length]
        refine ⟨_, rfl, _, rfl, _, _, rfl, rfl, hi0, rfl, some (.ref ea), some (.int (wprod ws rx.1 : Nat)), y10, ?_⟩
        rw [etk, Int.natCast_add]
        rfl
    obtain ⟨_, rfl, x8, x9, x10, rfl⟩ := hP
    rw [lru, List.take_length]
    rw [top_sum]
    -- whole
    refine ⟨_, rfl, m, rfl, by omega, by omega, ?_⟩
    have s27 : ws.sum ≤ 10 := hS10
    refine for_range (lo := 0) (n := m) (fun i σ H2 => i ≤ m ∧ H2 = H' ∧ ∃ (x12 : Option V), σ = [some (.ref p), some (.ref r), some (.ref wx), some (.ref pt), some (.ref wsx), some (.int m), some (.ref rl), some (.int (cntP wk pl ws m wk.vats : Nat)), x8, x9, x10, some (.int (ws.sum ^ i : Nat)), x12, none, none, none, none, none, none, none]) ?_ (fun i σ H2 hi hP => ?_) fun σ H2 hP => ?_
    · exact ⟨Nat.zero_le _, rfl, _, rfl⟩
    · obtain ⟨_, rfl, x12, rfl⟩ := hP
      have pb : ws.sum ^ i < 2 ^ 1000 := Nat.lt_of_le_of_lt (Nat.le_trans (Nat.pow_le_pow_left s27 i) (Nat.pow_le_pow_right (by decide) (show i ≤ 4 by omega))) (by decide)
      have es : (natI ws).sum = ((ws.sum : Nat) : Int) := sum_ints ws
      refine ⟨_, rfl, _, rfl, wsx, natI ws, rfl, .of ews, ?_⟩
      rw [es]
      refine ⟨_, _, rfl, rfl, cm _ _ pb (Nat.lt_of_le_of_lt s27 (by decide)), hi, rfl, some (.int (0 + (i : Int))), ?_⟩
      rw [Nat.pow_succ, Int.natCast_mul]
      rfl
    obtain ⟨_, rfl, x12, rfl⟩ := hP
    -- count_rows
    refine ⟨_, rfl, _, rfl, _, rfl, ?_⟩
    have fl : ∀ i : Int, Flat3 (.int i) := fun i => .inr (.inr ⟨i, rfl⟩)
    refine ⟨_, _, _, wk, rfl, nw9, ok, tb9, .inr ⟨pl, hp, npl9, fl _, .inr ⟨m, by omega, rfl, fun H10 g10 => ?_⟩⟩⟩
    refine ⟨_, rfl, rl, rus, rfl, .inl (.of (g10.keep rl _ (by simp) erl (fun _ z => nomatch z))), ?_⟩
    refine ⟨_, _, rfl, .inl ⟨_, _, rfl, rfl, fun H11 g11 => ?_⟩⟩
    rw [rows_count ok, lru, decide_eq_true rfl]
    refine ⟨_, rfl, iteF ?_⟩
    have g := g10.trans g11
    have lt11 := lt9.mono g (by simp)
    have tb11 := tb9.gw g
    have nw11 := nw9.gw g
    have npl11 := npl9.gw g
    have nws11 := nws9.gw g
    clear g lt9 tb9 nw9 npl9 nws9 erl alr nrl alw ews eka9 ex9 g10 okR lR lru
    -- plan_chance
    have S8 : ∀ i, i ≤ 12 → 0 < ws.sum ^ i ∧ ws.sum ^ i < 2 ^ 8000 := fun i hi => powS hS (by omega) hi
    refine ⟨_, rfl, _, rfl, _, rfl, _, rfl, ?_⟩
    refine ⟨_, _, _, _, wk, pl, rfl, nw11, ok, tb11, hp, npl11, .inr ⟨ws, m, hw, hS, by omega, nws11, by omega, rfl, fun v H12 g12 nv => ?_⟩⟩
    refine ⟨_, rfl, _, rfl, cntP wk pl ws m wk.vats, ws.sum ^ m, rfl, (S8 m (by omega)).1, (S8 m (by omega)).2, fun v2 H13 g13 nv2 => ?_⟩
    refine ⟨_, _, rfl, .inr ⟨rfl, _, _, nv.gw g13, nv2, fun H14 g14 => ?_⟩⟩
    rw [decide_eq_true rfl]
    refine ⟨_, rfl, iteF ?_⟩
    have g := (g12.trans g13).trans g14
    have lt14 := lt11.mono g (by simp)
    have tb14 := tb11.gw g
    have nw14 := nw11.gw g
    have npl14 := npl11.gw g
    have nws14 := nws11.gw g
    clear g lt11 tb11 nw11 npl11 nws11 nv nv2 g12 g13 g11
    -- small
    refine ⟨_, rfl, _, _, rfl, ?_⟩
    obtain ⟨q, hq, eq⟩ : ∃ q : Nat, q ≤ 3 ∧ (if (3 : Int) < (m : Int) then (3 : Int) else (m : Int)) = (q : Int) := by
      by_cases h : (3 : Int) < (m : Int)
      · exact ⟨3, by decide, if_pos h⟩
      · exact ⟨m, by omega, if_neg h⟩
    rw [eq]
    -- best, random
    refine ⟨_, rfl, _, rfl, _, rfl, ?_⟩
    refine ⟨_, _, _, wk, rfl, nw14, ok, tb14, .inr ⟨ws, hw, hS, hS10, nws14, fl _, .inr ⟨q, by omega, rfl, fun bv H15 g15 nbv => ?_⟩⟩⟩
    refine ⟨_, rfl, _, rfl, _, rfl, ?_⟩
    refine ⟨_, _, _, wk, rfl, nw14.gw g15, ok, tb14.gw g15, .inr ⟨ws, hw, hS, hS10, nws14.gw g15, fl _, .inr ⟨q, by omega, rfl, fun rv H16 g16 nrv => ?_⟩⟩⟩
    refine ⟨_, _, rfl, ?_⟩
    have g := g15.trans g16
    have lt16 := lt14.mono g (by simp)
    have tb16 := tb14.gw g
    have nw16 := nw14.gw g
    have npl16 := npl14.gw g
    have nws16 := nws14.gw g
    have nbv16 := nbv.gw g16
    clear g g15 g16 lt14 tb14 nw14 npl14 nws14 nbv
    have nst : ∀ {H : Hp}, NkV H (Wks.key wk) (.ref wx) → ∃ c u0 u1 u2, H wx = some (.tup [u0, u1, u2]) ∧ NkV H (kS wk.vats) u1 ∧ c = 0 := fun h => by
      obtain ⟨wx, us, e, ex, v0, _, rfl, n0, u1, _, rfl, n1, u2, _, rfl, n2, rfl⟩ := h
      cases e
      exact ⟨0, v0, u1, u2, ex, n1, rfl⟩
    -- alike best
    obtain ⟨_, u0, uu, u2, exw, nst16, _⟩ := nst nw16
    refine ⟨_, rfl, _, rfl, _, rfl, _, rfl, _, _, _, _, rfl, rfl, .of exw, atI_nat (j := 1) rfl, _, rfl, ?_⟩
    refine ⟨_, _, _, wk, ws, wk.vats, q, false, rfl, by omega, hq, nw16, nws16, nst16, ok, StOk.of wk ok, hw, hS, fun v H17 g17 nv => ?_⟩
    refine ⟨_, _, rfl, .inr ⟨rfl, _, _, nbv16.gw g17, nv, fun H18 g18 => ?_⟩⟩
    rw [decide_eq_true (show bestV wk ws q = lbV false wk ws q wk.vats from rfl)]
    refine ⟨_, rfl, iteF ?_⟩
    have g := g17.trans g18
    have lt18 := lt16.mono g (by simp)
    have tb18 := tb16.gw g
    have nw18 := nw16.gw g
    have npl18 := npl16.gw g
    have nws18 := nws16.gw g
    have nbv18 := nbv16.gw g
    have nrv18 := nrv.gw g
    clear g g17 g18 lt16 tb16 nw16 npl16 nws16 nbv16 nrv nv exw nst16
    -- alike random
    obtain ⟨_, u0, uu, u2, exw, nst18, _⟩ := nst nw18
    refine ⟨_, rfl, _, rfl, _, rfl, _, rfl, _, _, _, _, rfl, rfl, .of exw, atI_nat (j := 1) rfl, _, rfl, ?_⟩
    refine ⟨_, _, _, wk, ws, wk.vats, q, true, rfl, by omega, hq, nw18, nws18, nst18, ok, StOk.of wk ok, hw, hS, fun v H19 g19 nv => ?_⟩
    refine ⟨_, _, rfl, .inr ⟨rfl, _, _, nrv18.gw g19, nv, fun H20 g20 => ?_⟩⟩
    rw [decide_eq_true (show randV wk ws q = lbV true wk ws q wk.vats from rfl)]
    refine ⟨_, rfl, iteF ?_⟩
    have g := g19.trans g20
    have lt20 := lt18.mono g (by simp)
    have tb20 := tb18.gw g
    have nw20 := nw18.gw g
    have npl20 := npl18.gw g
    have nws20 := nws18.gw g
    have nbv20 := nbv18.gw g
    have nrv20 := nrv18.gw g
    clear g g19 g20 lt18 tb18 nw18 npl18 nws18 nbv18 nrv18 nv exw nst18
    -- told
    refine ⟨_, rfl, _, rfl, _, rfl, _, rfl, ?_⟩
    refine ⟨_, _, _, _, wk, pl, rfl, nw20, ok, tb20, hp, npl20, .inr ⟨ws, q, hw, hS, by omega, nws20, by omega, rfl, fun tv H21 g21 ntv => ?_⟩⟩
    have lt21 := lt20.mono g21 (by simp)
    have tb21 := tb20.gw g21
    have nw21 := nw20.gw g21
    have npl21 := npl20.gw g21
    have nws21 := nws20.gw g21
    have nbv21 := nbv20.gw g21
    have nrv21 := nrv20.gw g21
    clear lt20 tb20 nw20 npl20 nws20 nbv20 nrv20 g21
    obtain ⟨ta, rfl, et⟩ := ntv.pairs
    obtain ⟨ba, rfl, eb⟩ := nbv21.pairs
    obtain ⟨ra, rfl, er⟩ := nrv21.pairs
    have l1 := plan_le (w := wk) (p := pl) hp hS q
    have l2 := rand_le ok hS (ws := ws) q
    have wp := whl_pos ok (Nat.le_refl _)
    have esw := Nat.le_of_eq (sum_ws hw)
    have b1 : (low (cntP wk pl ws q wk.vats) (ws.sum ^ q)).1 < 2 ^ 1000 ∧ (low (cntP wk pl ws q wk.vats) (ws.sum ^ q)).2 < 2 ^ 1000 := low_big (cntP_le esw q _) (Nat.le_refl _) (by omega) hq
    have b2 : (bestV wk ws q).1 < 2 ^ 1000 ∧ (bestV wk ws q).2 < 2 ^ 1000 := low_big (bestN_le esw q _) (Nat.le_refl _) (by omega) hq
    have b3 : (randV wk ws q).1 < 2 ^ 1000 ∧ (randV wk ws q).2 < 2 ^ 1000 := low_big (cntR_le whl_all esw q _) (Nat.le_refl _) (Nat.mul_le_mul hS10 wp.2) hq
    generalize low (cntP wk pl ws q wk.vats) (ws.sum ^ q) = tP at *
    generalize bestV wk ws q = bP at *
    generalize randV wk ws q = rP at *
    refine ⟨_, rfl, _, _, _, _, rfl, rfl, .of et, atI_nat (j := 0) rfl, _, rfl, _, _, _, _, rfl, rfl, .of eb, atI_nat (j := 1) rfl, _, _, rfl, rfl, cm _ _ b1.1 b2.2, ?_⟩
    refine ⟨_, rfl, _, _, _, _, rfl, rfl, .of eb, atI_nat (j := 0) rfl, _, rfl, _, _, _, _, rfl, rfl, .of et, atI_nat (j := 1) rfl, _, _, rfl, rfl, cm _ _ b2.1 b1.2, ?_⟩
    refine ⟨_, _, rfl, rfl, _, rfl, ?_⟩
    rw [decide_eq_false (by rw [← Int.natCast_mul, ← Int.natCast_mul]; exact fun z => Nat.lt_irrefl _ (Nat.lt_of_lt_of_le (Int.ofNat_lt.mp z) l1))]
    refine iteF ?_
    refine ⟨_, rfl, _, _, _, _, rfl, rfl, .of er, atI_nat (j := 0) rfl, _, rfl, _, _, _, _, rfl, rfl, .of eb, atI_nat (j := 1) rfl, _, _, rfl, rfl, cm _ _ b3.1 b2.2, ?_⟩
    refine ⟨_, rfl, _, _, _, _, rfl, rfl, .of eb, atI_nat (j := 0) rfl, _, rfl, _, _, _, _, rfl, rfl, .of er, atI_nat (j := 1) rfl, _, _, rfl, rfl, cm _ _ b2.1 b3.2, ?_⟩
    refine ⟨_, _, rfl, rfl, _, rfl, ?_⟩
    rw [decide_eq_false (by rw [← Int.natCast_mul, ← Int.natCast_mul]; exact fun z => Nat.lt_irrefl _ (Nat.lt_of_lt_of_le (Int.ofNat_lt.mp z) l2))]
    refine iteF ?_
    clear l1 l2 b1 b2 b3 ntv et eb er nbv21 nrv21
    -- is_good
    apply two (fun H' => Gw (lawB K) [] H21 H')
    case main =>
      intro rest
      refine ⟨_, rfl, _, rfl, _, _, wk, pl, rfl, nw21, npl21, hp, ok, tb21, fun b H22 g22 hb => ⟨_, rfl, ?_⟩⟩
      cases b with
      | false => exact iteF (iteF (rest _ g22))
      | true =>
        obtain ⟨s, fine⟩ := hb rfl
        refine iteT ?_
        refine ⟨_, rfl, _, rfl, _, rfl, ?_⟩
        refine ⟨_, _, _, _, wk, pl, rfl, nw21.gw g22, ok, tb21.gw g22, hp, npl21.gw g22, .inr ⟨ws, 12, hw, hS, by omega, nws21.gw g22, by omega, rfl, fun v H23 g23 nv => ?_⟩⟩
        rw [fine_plan ok hp hw hS fine] at nv
        refine ⟨by show 2 ≤ sizeLine; decide, fun t nt => ?_⟩
        obtain ⟨g24, e24⟩ := (Gw.refl (lawB K) [] H23).addS (o := .tup [.int 1, .int 1]) nt
        refine a_ne (nv.gw g24) (.pair (a := 1) (b := 1) e24) (Nat.le_of_ble_eq_true rfl) (Nat.le_of_ble_eq_true rfl) ?_
        rw [decide_eq_true rfl]
        refine ⟨_, rfl, iteF ?_⟩
        have gg := (g22.trans g23).trans g24
        refine ⟨_, rfl, _, rfl, ?_⟩
        refine ⟨_, _, _, wk, rfl, nw21.gw gg, ok, tb21.gw gg, .inr ⟨ws, hw, hS, hS10, nws21.gw gg, fl _, .inr ⟨6, by omega, rfl, fun v2 H25 g25 nv2 => ?_⟩⟩⟩
        rw [fine_best ok hp hw hS fine] at nv2
        refine ⟨by show 2 ≤ sizeLine; decide, fun t2 nt2 => ?_⟩
        obtain ⟨g26, e26⟩ := (Gw.refl (lawB K) [] H25).addS (o := .tup [.int 1, .int 1]) nt2
        refine a_ne (nv2.gw g26) (.pair (a := 1) (b := 1) e26) (Nat.le_of_ble_eq_true rfl) (Nat.le_of_ble_eq_true rfl) ?_
        rw [decide_eq_true rfl]
        refine ⟨_, rfl, iteF ?_⟩
        exact rest _ ((gg.trans g25).trans g26)
    case rest =>
      intro H22 g22
      have lt22 := lt21.mono g22 (by simp)
      have tb22 := tb21.gw g22
      have nw22 := nw21.gw g22
      have npl22 := npl21.gw g22
      have nws22 := nws21.gw g22
      clear g22 lt21 tb21 nw21 npl21 nws21
      -- count_rows' numbers
      refine ⟨_, _, rfl, rfl, by show 4 ≤ sizeLine; decide, fun l1 nl1 => ?_⟩
      obtain ⟨g23, e23⟩ := (Gw.refl (lawB K) [] H22).addS (o := .lst [.int 41, .int (0 - 1), .bl true, .non]) nl1
      refine ⟨l1, rfl, ⟨_, .of e23⟩, fun D1 nD1 => ?_⟩
      refine words_lc (K := K) (wd := "number") (s := 18) e23 nD1 (by decide) (lt22.mono g23 (by simp)) (fun i x H' R hx gq lt' hR => ?_) fun H24 g24 lt24 eD1 => ?_
      · have fx : Flat3 x ∧ numOk x 0 40 = false := by
          match i, hx with
          | 0, hx => cases hx; exact ⟨.inr (.inr ⟨_, rfl⟩), rfl⟩
          | 1, hx => cases hx; exact ⟨.inr (.inr ⟨_, rfl⟩), rfl⟩
          | 2, hx => cases hx; exact ⟨.inr (.inl ⟨_, rfl⟩), rfl⟩
          | 3, hx => cases hx; exact ⟨.inl rfl, rfl⟩
        refine ⟨lt', fun H1 g1 lt1 => ?_⟩
        refine ⟨_, rfl, _, rfl, _, rfl, ?_⟩
        refine ⟨_, _, _, wk, rfl, ((nw22.gw g23).gq gq).gq g1, ok, ((tb22.gw g23).gq gq).gq g1, .inr ⟨pl, hp, ((npl22.gw g23).gq gq).gq g1, fx.1, .inl ⟨fx.2, fun H2 g2 => ?_⟩⟩⟩
        exact say_number T (hR H2 (g1.trans g2.gq) (lt1.mono g2 (by simp)))
      have gB := g23.gq.trans g24
      have tb24 := tb22.gq gB
      have nw24 := nw22.gq gB
      have npl24 := npl22.gq gB
      have nws24 := nws22.gq gB
      clear gB g23 g24 tb22 nw22 npl22 nws22 e23 lt22
      -- the chances' numbers
      refine ⟨_, rfl, by show 2 ≤ sizeLine; decide, fun l2 nl2 => ?_⟩
      obtain ⟨g25, e25⟩ := (Gw.refl (lawB K) [] H24).addS (o := .lst [.ref (He.ga K "best_chance"), .ref (He.ga K "random_chance")]) nl2
      refine ⟨l2, rfl, ⟨_, .of e25⟩, fun D2 nD2 => ?_⟩
      refine words_lc (K := K) (wd := "number") (s := 19) e25 nD2 (by show 2 ≤ 1000; decide) (lt24.mono g25 (by simp)) (fun i x H' R hx gq lt' hR => ?_) fun H26 g26 lt26 eD2 => ?_
      · refine ⟨lt', fun H1 g1 lt1 => ?_⟩
        have sp : ∀ (most : Nat) (val : Wks → List Nat → Nat → Nat × Nat), spChance K most val [.ref wx, .ref wsx, .int 41] H1 (fun _ H' => R (.str "none") H') (fun cls _ H' => sayW K R (wds K) cls H') := fun most val =>
          ⟨_, _, _, wk, rfl, ((nw24.gw g25).gq gq).gq g1, ok, ((tb24.gw g25).gq gq).gq g1, .inr ⟨ws, hw, hS, hS10, ((nws24.gw g25).gq gq).gq g1, fl _, .inl ⟨rfl, fun H2 g2 => say_number T (hR H2 (g1.trans g2.gq) (lt1.mono g2 (by simp)))⟩⟩⟩
        match i, hx with
        | 0, hx =>
          cases hx
          exact .inl ⟨rfl, _, rfl, _, rfl, sp _ _⟩
        | 1, hx =>
          cases hx
          exact .inr ⟨rfl, _, rfl, _, rfl, sp _ _⟩
      have gB := g25.gq.trans g26
      have eD1' := gB.keep D1 _ (by simp) eD1 (fun _ z => nomatch z)
      refine ⟨D1, D2, _, _, rfl, rfl, eD1', eD2, by rw [sizeLine_eq]; show 4 + 2 ≤ 16777216; decide, fun u nu => ?_⟩
      obtain ⟨g27, e27⟩ := (Gw.refl (lawB K) [] H26).addS (o := .lst (List.replicate 6 (.str "number"))) nu
      have gC := gB.trans g27.gq
      have tb27 := tb24.gq gC
      have nw27 := nw24.gq gC
      have npl27 := npl24.gq gC
      have nws27 := nws24.gq gC
      have lt27 := lt26.mono g27 (by simp)
      clear gB gC g25 g26 g27 tb24 nw24 npl24 nws24 lt24 lt26 e25 eD1 eD1' eD2
      -- told != ['number'] * 6
      refine ⟨_, rfl, by show 1 ≤ sizeLine; decide, fun l3 nl3 => ?_⟩
      obtain ⟨g28, e28⟩ := (Gw.refl (lawB K) [] (upd H26 u (.lst (List.replicate 6 (.str "number"))))).addS (o := .lst [.str "number"]) nl3
      refine ⟨l3, 6, _, rfl, rfl, e28, by decide, by decide, by rw [sizeLine_eq]; decide, fun l4 nl4 => ?_⟩
      obtain ⟨g29, e29⟩ := g28.addS (o := .lst (List.replicate 6 (.str "number"))) nl4
      refine ne_same (d := .list (List.replicate 6 (.str "number"))) (.lst (.of (g29.keep u _ (by simp) e27 (fun _ z => nomatch z))) (dp_rep (.str _) 6)) (.lst (.of e29) (dp_rep (.str _) 6)) (by decide +kernel) (by decide +kernel) ?_
      refine ⟨_, rfl, iteF ?_⟩
      have tb29 := tb27.gw g29
      have nw29 := nw27.gw g29
      have npl29 := npl27.gw g29
      have nws29 := nws27.gw g29
      have lt29 := lt27.mono g29 (by simp)
      clear tb27 nw27 npl27 nws27 lt27 g28 e27 e28
      -- plans
      obtain ⟨pt', pus, ept', ep29, alp⟩ := id npl29
      cases ept'
      obtain rfl := NkAll.nums.mp alp
      have lpl : (natI pl).length = wk.kinds.length := by unfold natI; rw [List.length_map, hp.len]
      refine ⟨_, rfl, by show 1 ≤ sizeLine; decide, fun z1 nz1 => ?_⟩
      obtain ⟨ga, ea⟩ := (Gw.refl (lawB K) [] _).addS (o := .tup [.int 0]) nz1
      refine a_cat (B := lawB K) (ga.tups _ _ ep29) ea (by rw [List.length_map, lpl]; show _ + 1 ≤ 1000; omega) fun y1 Hb gb eb => ?_
      refine ⟨by show 1 ≤ sizeLine; decide, fun z2 nz2 => ?_⟩
      obtain ⟨gc, ec⟩ := (Gw.refl (lawB K) [] _).addS (o := .tup [.int 9]) nz2
      have gabc := (ga.trans gb).trans gc
      refine ⟨_, rfl, pt, _, rfl, .inr (.of (gabc.tups _ _ ep29)), ?_⟩
      rw [List.length_map, lpl]
      refine a_rep (B := lawB K) (k := wk.kinds.length) ec (by simp) k1 (by omega) (by simp) fun y2 Hd gd ed => ?_
      rw [List.flatten_replicate_singleton] at ed
      refine ⟨by show 3 ≤ sizeLine; decide, fun l5 nl5 => ?_⟩
      obtain ⟨ge, ee⟩ := (Gw.refl (lawB K) [] _).addS (o := .lst [.non, .ref y1, .ref y2]) nl5
      have pv1 : PlanV (upd Hd l5 (.lst [.non, .ref y1, .ref y2])) wk (.ref y1) false := planV_len (ge.tups _ _ (gd.tups _ _ (gc.tups _ _ eb))) (fun u hu => by
        rcases List.mem_append.mp hu with z | z
        · exact flat_ints3 u z
        · rw [List.mem_singleton.mp z]
          exact fl 0) (by rw [List.length_append, List.length_map, lpl]; show _ + 1 ≠ _; omega)
      have pv2 : PlanV (upd Hd l5 (.lst [.non, .ref y1, .ref y2])) wk (.ref y2) false := planV_nine ok (ge.tups _ _ ed)
      have gAll := (gabc.trans gd).trans ge
      have lt30 := lt29.mono gAll (by simp)
      have tb30 := tb29.gw gAll
      have nw30 := nw29.gw gAll
      have nws30 := nws29.gw gAll
      have npl30 := npl29.gw gAll
      refine ⟨l5, rfl, ⟨_, .of ee⟩, fun D3 nD3 => ?_⟩
      refine words_lc (K := K) (wd := "plan") (s := 18) ee nD3 (by show 3 ≤ 1000; decide) lt30 (fun i x H' R hx gq lt' hR => ?_) fun H31 g31 lt31 eD3 => ?_
      · have pvx : PlanV (upd Hd l5 (.lst [.non, .ref y1, .ref y2])) wk x false := by
          match i, hx with
          | 0, hx => cases hx; exact .inl ⟨rfl, rfl⟩
          | 1, hx => cases hx; exact pv1
          | 2, hx => cases hx; exact pv2
        refine ⟨lt', fun H1 g1 lt1 => ?_⟩
        refine ⟨_, rfl, _, rfl, ?_⟩
        refine ⟨_, _, _, wk, rfl, (nw30.gq gq).gq g1, ok, (tb30.gq gq).gq g1, .inl ⟨(pvx.gq gq).gq g1, fun H2 g2 => ?_⟩⟩
        exact say_plan T (hR H2 (g1.trans g2.gq) (lt1.mono g2 (by simp)))
      refine ⟨by show 1 ≤ sizeLine; decide, fun l6 nl6 => ?_⟩
      obtain ⟨g32, e32⟩ := (Gw.refl (lawB K) [] H31).addS (o := .lst [.str "plan"]) nl6
      refine ⟨l6, 3, _, rfl, rfl, e32, by decide, by decide, by rw [sizeLine_eq]; decide, fun l7 nl7 => ?_⟩
      obtain ⟨g33, e33⟩ := g32.addS (o := .lst (List.replicate (Int.toNat 3) [V.str "plan"]).flatten) nl7
      refine ne_same (d := .list (List.replicate 3 (.str "plan"))) (.lst (.of (g33.keep D3 _ (by simp) eD3 (fun _ z => nomatch z))) (dp_rep (.str _) 3)) (.lst (.of e33) (dp_rep (.str _) 3)) (by decide +kernel) (by decide +kernel) ?_
      refine ⟨_, rfl, iteF ?_⟩
      have gB := g31.trans g33.gq
      have tb33 := tb30.gq gB
      have nw33 := nw30.gq gB
      have npl33 := npl30.gq gB
      have nws33 := nws30.gq gB
      have lt33 := lt31.mono g33 (by simp)
      clear tb29 nw29 npl29 nws29 lt29 tb30 nw30 npl30 nws30 lt30 lt31 ga gb gc gd ge gabc gAll gB g31 ea eb ec ed ee pv1 pv2 g32 e32 e33 eD3 alp ep29
      generalize (upd (upd H31 l6 (.lst [.str "plan"])) l7 (.lst (List.replicate (Int.toNat 3) [V.str "plan"]).flatten)) = H33 at *
      -- weights
      obtain ⟨wx', wus, ewx', ew33, alw⟩ := id nws33
      cases ewx'
      obtain rfl := NkAll.nums.mp alw
      have lws : ((natI ws).map V.int).length = wk.kinds.length := by unfold natI; rw [List.length_map, List.length_map, hw.len]
      have fws : ∀ u ∈ (natI ws).map V.int, Flat3 u := flat_ints3
      have fdr : ∀ u ∈ ((natI ws).map V.int).drop 1, Flat3 u := fun u hu => fws u (List.mem_of_mem_drop hu)
      generalize (natI ws).map V.int = W0 at *
      refine ⟨_, rfl, wsx, _, rfl, .inr (.of ew33), fun b1 nb1 => ?_⟩
      obtain ⟨ga, ea⟩ := (Gw.refl (lawB K) [] H33).addS (o := .lst W0) nb1
      refine ⟨_, rfl, by show 1 ≤ sizeLine; decide, fun z2 nz2 => ?_⟩
      obtain ⟨gb, eb⟩ := (Gw.refl (lawB K) [] _).addS (o := .tup [.int 1]) nz2
      refine a_cat (B := lawB K) ((ga.trans gb).tups _ _ ew33) eb (by rw [lws]; show _ + 1 ≤ 1000; omega) fun b2 Hc gc ec => ?_
      refine ⟨by show 1 ≤ sizeLine; decide, fun z3 nz3 => ?_⟩
      obtain ⟨gd, ed⟩ := (Gw.refl (lawB K) [] _).addS (o := .tup [.int 0]) nz3
      have g1 := ((ga.trans gb).trans gc).trans gd
      refine ⟨_, rfl, wsx, _, rfl, .inr (.of (g1.tups _ _ ew33)), ?_⟩
      rw [lws]
      refine a_rep (B := lawB K) (k := wk.kinds.length) ed (by simp) k1 (by omega) (by simp) fun b3 Hq ge ee => ?_
      rw [List.flatten_replicate_singleton] at ee
      have g2 := g1.trans ge
      refine ⟨_, rfl, _, rfl, ?_⟩
      unfold tNoPart
      refine a_sl (B := lawB K) (g2.tups _ _ ew33) fun z4 Hf gf ef => ?_
      rw [cutV_1] at ef
      refine ⟨by show 1 ≤ sizeLine; decide, fun z5 nz5 => ?_⟩
      obtain ⟨gg, eg⟩ := (Gw.refl (lawB K) [] _).addS (o := .tup [.int 10]) nz5
      refine a_cat (B := lawB K) (gg.tups _ _ ef) eg (by rw [List.length_drop, lws]; show _ + 1 ≤ 1000; omega) fun b4 Hh gh eh => ?_
      have g3 := ((g2.trans gf).trans gg).trans gh
      refine ⟨_, rfl, _, rfl, ?_⟩
      refine a_sl (B := lawB K) (g3.tups _ _ ew33) fun z6 Hi gi ei => ?_
      rw [cutV_1] at ei
      refine ⟨by show 1 ≤ sizeLine; decide, fun z7 nz7 => ?_⟩
      obtain ⟨gj, ej⟩ := (Gw.refl (lawB K) [] _).addS (o := .tup [.bl true]) nz7
      refine a_cat (B := lawB K) (gj.tups _ _ ei) ej (by rw [List.length_drop, lws]; show _ + 1 ≤ 1000; omega) fun b5 Hk gk ek => ?_
      refine ⟨by show 6 ≤ sizeLine; decide, fun bl nbl => ?_⟩
      obtain ⟨gl, el⟩ := (Gw.refl (lawB K) [] _).addS (o := .lst [.non, .ref b1, .ref b2, .ref b3, .ref b4, .ref b5]) nbl
      have gz := ((gi.trans gj).trans gk).trans gl
      have gAll := g3.trans gz
      have bad : ∀ (i : Nat) (x : V), [V.non, .ref b1, .ref b2, .ref b3, .ref b4, .ref b5][i]? = some x → WtsV (upd Hk bl (.lst [.non, .ref b1, .ref b2, .ref b3, .ref b4, .ref b5])) wk x false := fun i x hx => by
        match i, hx with
        | 0, hx => cases hx; exact .inl ⟨rfl, rfl⟩
        | 1, hx =>
          cases hx
          exact .inr (.inl ⟨b1, _, rfl, ((((gb.trans gc).trans gd).trans ge).trans (((gf.trans gg).trans gh).trans gz)).keep b1 _ (by simp) ea (fun _ z => nomatch z), rfl⟩)
        | 2, hx =>
          cases hx
          refine .inr (.inr ⟨b2, _, rfl, ((gd.trans ge).trans (((gf.trans gg).trans gh).trans gz)).tups _ _ ec, fun u hu => ?_, (wtsB_len (by rw [List.length_append, lws]; show _ + 1 ≠ _; omega)).symm⟩)
          rcases List.mem_append.mp hu with z | z
          · exact fws u z
          · rw [List.mem_singleton.mp z]
            exact fl 1
        | 3, hx =>
          cases hx
          exact .inr (.inr ⟨b3, _, rfl, (((gf.trans gg).trans gh).trans gz).tups _ _ ee, fun u hu => by rw [List.eq_of_mem_replicate hu]; exact fl 0, wtsB_zero.symm⟩)
        | 4, hx =>
          cases hx
          refine .inr (.inr ⟨b4, _, rfl, gz.tups _ _ eh, fun u hu => ?_, (wtsB_bad (u := .int 10) (List.mem_append_right _ List.mem_cons_self) rfl).symm⟩)
          rcases List.mem_append.mp hu with z | z
          · exact fdr u z
          · rw [List.mem_singleton.mp z]
            exact fl 10
        | 5, hx =>
          cases hx
          refine .inr (.inr ⟨b5, _, rfl, gl.tups _ _ ek, fun u hu => ?_, (wtsB_bad (u := .bl true) (List.mem_append_right _ List.mem_cons_self) rfl).symm⟩)
          rcases List.mem_append.mp hu with z | z
          · exact fdr u z
          · rw [List.mem_singleton.mp z]
            exact .inr (.inl ⟨true, rfl⟩)
      have tb34 := tb33.gw gAll
      have nw34 := nw33.gw gAll
      have npl34 := npl33.gw gAll
      have lt34 := lt33.mono gAll (by simp)
      clear tb33 nw33 npl33 lt33 nws33 ga gb gc gd ge gf gg gh gi gj gk gl gz gAll g1 g2 g3 ea eb ec ed ee ef eg eh ei ej ek
      generalize upd Hk bl (.lst [.non, .ref b1, .ref b2, .ref b3, .ref b4, .ref b5]) = H34 at *
      refine ⟨_, rfl, bl, rfl, ⟨_, .of el⟩, fun D4 nD4 => ?_⟩
      refine lc_list (K := K) (a := bl) (xs := [.non, .ref b1, .ref b2, .ref b3, .ref b4, .ref b5]) (fun i H' => i ≤ 6 ∧ Gq (lawB K) [] H34 H' ∧ LamT (lawB K) qL H' ∧ ∃ as : List Addr, H' D4 = some (.lst (as.map V.ref)) ∧ as.length = i ∧ ∀ a ∈ as, a ≠ D4 ∧ H' a = some (.lst [.str "weights", .str "weights"])) ?_ (fun i H' _ hP => ?_) (fun i x H' hx hP => ?_) fun H' hP => ?_
      · have g : Gw (lawB K) [] H34 (upd H34 D4 (.lst [])) := .new nD4
        exact ⟨Nat.zero_le _, g.gq, lt34.mono g (by simp), [], upd_same, rfl, fun a ha => (nomatch ha)⟩
      · exact .of (hP.2.1.keep bl _ (by simp) el (fun _ z => nomatch z))
      · obtain ⟨_, g, lt', as, eD, las, okas⟩ := hP
        have hi := (List.getElem?_eq_some_iff.mp hx).1
        have hi6 : i < 6 := hi
        refine ⟨wipe1, ?_⟩
        unfold tYes
        refine iteT ⟨by show 2 ≤ sizeLine; decide, fun l8 nl8 => ?_⟩
        obtain ⟨g8, e8⟩ := (Gw.refl (lawB K) [] H').addS (o := .lst [.ref (He.ga K "best_chance"), .ref (He.ga K "random_chance")]) nl8
        refine ⟨l8, rfl, ⟨_, .of e8⟩, fun D5 nD5 => ?_⟩
        have eD8 := g8.keep D4 _ (by simp) eD (fun _ z => nomatch z)
        have D45 : D4 ≠ D5 := ne_of_none eD8 nD5
        refine ask_words T (wk := wk) (wx := wx) (x := x) (by show 19 < 20; decide) rfl rfl e8 nD5 (lt'.mono g8 (by simp)) ok ((nw34.gq g).gw g8) ((tb34.gq g).gw g8) ((bad i x hx).gq (g.trans g8.gq)) fun H6 g6 lt6 eD5 => ?_
        · have eD6 := g6.keep D4 _ (by simp) eD8 (fun _ z => nomatch z)
          refine ⟨_, eD6, by rw [sizeLine_eq, List.length_map]; omega, hi6, ((g.trans g8.gq).trans g6).fresh nD4 eD6, lt6.lst eD6, as ++ [D5], by rw [upd_same, List.map_append]; rfl, by rw [List.length_append, las]; rfl, fun a ha => ?_⟩
          rcases List.mem_append.mp ha with z | z
          · obtain ⟨h1, h2⟩ := okas a z
            exact ⟨h1, by rw [upd_ne h1]; exact g6.keep a _ (by simp) (g8.keep a _ (by simp) h2 (fun _ z => nomatch z)) (fun _ z => nomatch z)⟩
          · rw [List.mem_singleton.mp z]
            exact ⟨D45.symm, by rw [upd_ne D45.symm]; exact eD5⟩
      obtain ⟨_, g35, lt35, as, eD, las, okas⟩ := hP
      have las : as.length = 6 := las
      have tb35 := tb34.gq g35
      have nw35 := nw34.gq g35
      have npl35 := npl34.gq g35
      have bad35 : ∀ (i : Nat) (x : V), [V.non, .ref b1, .ref b2, .ref b3, .ref b4, .ref b5][i]? = some x → WtsV H' wk x false := fun i x hx => (bad i x hx).gq g35
      have el35 := g35.keep bl _ (by simp) el (fun _ z => nomatch z)
      clear g35 tb34 nw34 npl34 bad el lt34
      -- told != [['weights'] * 2] * 6
      refine ⟨_, rfl, by show 1 ≤ sizeLine; decide, fun l9 nl9 => ?_⟩
      obtain ⟨g36, e36⟩ := (Gw.refl (lawB K) [] H').addS (o := .lst [.str "weights"]) nl9
      refine ⟨l9, 2, _, rfl, rfl, e36, by decide, by decide, by rw [sizeLine_eq]; decide, fun l10 nl10 => ?_⟩
      obtain ⟨g37, e37⟩ := g36.addS (o := .lst (List.replicate (Int.toNat 2) [V.str "weights"]).flatten) nl10
      refine ⟨by show 1 ≤ sizeLine; decide, fun l11 nl11 => ?_⟩
      obtain ⟨g38, e38⟩ := g37.addS (o := .lst [.ref l10]) nl11
      refine ⟨l11, 6, _, rfl, rfl, e38, by decide, by decide, by rw [sizeLine_eq]; show 1 * 6 ≤ 16777216; decide, fun l12 nl12 => ?_⟩
      obtain ⟨g39, e39⟩ := g38.addS (o := .lst (List.replicate (Int.toNat 6) [V.ref l10]).flatten) nl12
      have e37b := ((Gw.refl (lawB K) [] _).add (o := .lst (List.replicate (Int.toNat 6) [V.ref l10]).flatten) nl12).keep l10 _ (by simp) (((Gw.refl (lawB K) [] _).add (o := .lst [.ref l10]) nl11).keep l10 _ (by simp) e37 (fun _ z => nomatch z)) (fun _ z => nomatch z)
      have dpl := dp_lists (K := K) (x := "weights") (as := as) fun a ha => g39.keep a _ (by simp) (okas a ha).2 (fun _ z => nomatch z)
      rw [las] at dpl
      refine ne_same (d := .list (List.replicate 6 (.list [.str "weights", .str "weights"]))) (.lst (.of (g39.keep D4 _ (by simp) eD (fun _ z => nomatch z))) dpl) (.lst (.of e39) (dp_rep (.lst (.of e37b) (.cons (.str _) (.cons (.str _) .nil))) 6)) (by decide +kernel) (by decide +kernel) ?_
      refine ⟨_, rfl, iteF ?_⟩
      have lt39 := lt35.mono g39 (by simp)
      have tb39 := tb35.gw g39
      have nw39 := nw35.gw g39
      have npl39 := npl35.gw g39
      have bad39 : ∀ (i : Nat) (x : V), [V.non, .ref b1, .ref b2, .ref b3, .ref b4, .ref b5][i]? = some x → WtsV _ wk x false := fun i x hx => (bad35 i x hx).gw g39
      have el39 := g39.keep bl _ (by simp) el35 (fun _ z => nomatch z)
      -- the last words
      refine ⟨_, rfl, bl, rfl, ⟨_, .of el39⟩, fun D6 nD6 => ?_⟩
      refine words_lc (K := K) (wd := "weights") (s := 18) el39 nD6 (by show 6 ≤ 1000; decide) lt39 (fun i x H5 R hx gq lt5 hR => ?_) fun H40 g40 lt40 eD6 => ?_
      · refine ⟨lt5, fun H1 g1 lt1 => ?_⟩
        have gz := gq.trans g1
        refine ⟨_, rfl, _, rfl, _, rfl, ?_⟩
        exact ⟨_, _, _, _, wk, pl, rfl, nw39.gq gz, ok, tb39.gq gz, hp, npl39.gq gz, .inl ⟨(bad39 i x hx).gq gz, fun H2 g2 => say_weights T (hR H2 (g1.trans g2.gq) (lt1.mono g2 (by simp)))⟩⟩
      refine ⟨by show 1 ≤ sizeLine; decide, fun l13 nl13 => ?_⟩
      obtain ⟨g41, e41⟩ := (Gw.refl (lawB K) [] H40).addS (o := .lst [.str "weights"]) nl13
      refine ⟨l13, 6, _, rfl, rfl, e41, by decide, by decide, by rw [sizeLine_eq]; decide, fun l14 nl14 => ?_⟩
      obtain ⟨g42, e42⟩ := g41.addS (o := .lst (List.replicate (Int.toNat 6) [V.str "weights"]).flatten) nl14
      exact eq_same (d := .list (List.replicate 6 (.str "weights"))) (.lst (.of (g42.keep D6 _ (by simp) eD6 (fun _ z => nomatch z))) (dp_rep (.str _) 6)) (.lst (.of e42) (dp_rep (.str _) 6)) (by decide +kernel) (by decide +kernel) (hQ _)
end
end Dy
end
section
set_option Elab.async false
set_option linter.all false
set_option maxRecDepth 100000
set_option maxHeartbeats 0
/-! The end: the law over the head's facts. -/
namespace Dy
open PySem PySem.Spec PyProof.Rows L2 LamX
theorem tf_law : (("law", none) : He.Defn) ∈ tf := by decide
theorem tfG_init : tf.dropLast = tfG := rfl
theorem ends {P : Program} {w : World} {K : PySem.W.Frag} {h : Heap} {mg : Str → Option Value} {f : Addr} (X : K.In h) (hfa : mg ("law" : Str) = some (.ref f)) (G : h.Ns mainGlobals mg) (c : He.SaysX fa fn [] tf exT w h K) :
    ∃ fd : FuncData, (∀ (s : Shared) (v : Value), BindsTo s fd ⟨[v], []⟩ [("_law_script", v)]) ∧ ∀ base : Heap, K.In base → base.Ns mainGlobals mg → (∀ p ∈ tf.map (He.cT K), LamX.TabB base mg p.1 p.2) → FnOk P w K mg base CX0 25 f fd ["_law_script"] (spLaw K) := by
  have d := c.t.d
  obtain ⟨fd0, F⟩ := d.def_ 39 (d := dd "law" sLaw) rfl
  have e := hfa.symm.trans (He.glo_ok X G (d.fact 36 (f := .glo "law") rfl))
  have ef : f = He.ga K "law" := by
    have := Option.some.inj e
    injection this
  subst ef
  have b := FunD.bindsA (ps := ["_law_script"]) F fun _ _ _ _ _ _ us hl => match us, hl with | [_], _ => rfl
  refine ⟨fd0, fun s v => b s [v] rfl, fun base KB GB TBs => ?_⟩
  have TB : LamX.TabB base mg (He.cT K ("law", none)).1 (lawB K) := TBs _ (List.mem_map_of_mem tf_law)
  have bmok : BmOk base mg := by
    obtain ⟨bm, o, h1, h2, _, _, h5, h6, h7, h8⟩ := TB.bm
    exact ⟨bm, o, h1, h2, h5, h6, h7, h8⟩
  have ne : ∀ p ∈ tfG, (He.cT K p).2 ≠ lawB K := fun p hp => by
    have := List.all_eq_true.mp c.more p (tfG_init ▸ hp)
    exact of_decide_eq_true this
  have T : Tx K mg base := ⟨d, KB, GB, bmok, fun p hp => (TBs _ (List.mem_map_of_mem hp)).code, ne⟩
  exact ok_law T TB F
end Dy
open PySem PySem.W PySem.Calls PyProof.Rows
theorem PySem.Challenge.cw_dyeworks_k62_whole_chances_holds : PySem.Challenge.rw_dyeworks_k62_whole_chances.Holds := by
  w_on; o_law
  refine HandSHeadRun.head_any (r := OpenLaw.row PySem.Challenge.rw_dyeworks_k62_whole_chances) (q := view (OpenLaw.row PySem.Challenge.rw_dyeworks_k62_whole_chances).prog [55]) (H := Dy.hk2) (ob := Dy.ob) (M := 6000) (loose := Dy.loose) (d := HandSHeadRun.topDef (OpenLaw.row PySem.Challenge.rw_dyeworks_k62_whole_chances).prog 55) (kwd := []) Dy.ob_eq
    (by kernel_rfl) (fun s => by kernel_rfl) Dy.run (by kernel_rfl) (by kernel_rfl) (by kernel_rfl) (by rfl) (by first | assumption | decide +kernel) (by decide +kernel) ⟨rfl, rfl, rfl, rfl, rfl, by decide +kernel⟩ ?hw ?hc
  case hw => w_witness2
  case hc =>
    refine LamX.walk_ofTsE (l := PySem.Challenge.rw_dyeworks_k62_whole_chances) (k := 25) (x := "_law_script") (CX := fun _ => L2.CX0) rfl (by decide) (by kernel_rfl) ⟨rfl, by decide, by decide⟩ ?F (fun _ _ _ _ _ z => z)
    intro w mg fa h Y G hmg0
    obtain ⟨K, KX, c⟩ := Y
    have hmg : mg ("law" : PySem.Str) = some (.ref fa) := by
      have e : (HandSHeadRun.topDef (OpenLaw.row PySem.Challenge.rw_dyeworks_k62_whole_chances).prog 55).name = ("law" : PySem.Str) := by kernel_rfl
      rw [← e]
      exact hmg0
    obtain ⟨fd, hb, hF⟩ := Dy.ends (P := (PySem.Challenge.rw_dyeworks_k62_whole_chances).prog) (w := w) KX hmg G c
    have mem : ∀ p ∈ Dy.tf.map (He.cT K), ∃ d ∈ Dy.tf, He.cT K d = p := fun p hp => List.mem_map.mp hp
    refine ⟨K, KX, fd, Dy.tf.map (He.cT K), Dy.spLaw K, fun p hp => ?_, fun p hp => ?_, fun p hp => ?_, hb, fun H a ns hl _ hT hS => ?_, hF⟩
    · obtain ⟨d, hd, rfl⟩ := mem p hp
      exact c.empty d hd
    · obtain ⟨d, hd, rfl⟩ := mem p hp
      exact c.out d hd
    · obtain ⟨d, hd, rfl⟩ := mem p hp
      exact PySem.W.codeHd_of_K KX (c.hd d hd)
    · have hB : H (Dy.lawB K) = some (.tbl #[]) := hT _ (List.mem_map_of_mem Dy.tf_law)
      refine ⟨a, ns, rfl, hS, ⟨fun p hp => ?_, fun z => ?_⟩, Dy.LamT.nil hB, fun _ => rfl⟩
      · have hp' : p ∈ Dy.tf.dropLast := Dy.tfG_init ▸ hp
        have ne : (He.cT K p).2 ≠ Dy.lawB K := of_decide_eq_true (List.all_eq_true.mp c.more p hp')
        exact Dy.TabK.nil ne (hT _ (List.mem_map_of_mem ((List.dropLast_sublist _).mem hp'))) 2
      · rw [hB] at z
        cases z
end
