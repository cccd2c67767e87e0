import PyProof.Rows.All
import HandS.Words
import HandS.Head0
import HandS.Head1
import HandS.Head2
import HandS.HeadHook4
import Wide.All
import OpenK.AllK
import Wide.FinOn
import HandS.Lambda
import HandS.ForMost
import HandS.Wide
import HandS.IsInst
import HandS.TupAny
import HandS.TupMul
import HandS.Style
import HandS.Zip
import HandS.Conv
import HandS.Flow
import HandS.ForExc
import HandS.TryMany
import HandS.ExcOwn
import HandS.EndOwn
import HandS.Defaults
import HandS.CallSlots
import PyProof.ExcBaseAll.ValueError
import PyProof.FactsAll.tuple_2
import PyProof.ListMulRoad
import KE.GoesMore
import KE.KRevSl
import HandS.EndTab
import HandS.Deep
import HandS.TupLe
import HandS.More
import KE.DataCmp
import HandS.SetFor
import HandS.MakeKwOnly
import HandS.Text
import HandS.FStr
import HandS.ReplaceLit
import KE.SortKeyHeap
import KE.KTupSum
import HandS.SlotsOwn
import HandS.OwnEq
import KE.KCallOwn
import PyProof.FitsInt
import PySem.Challenge.RW_trueroots_k23_numbers_as_reals
set_option Elab.async false
set_option linter.all false
set_option maxRecDepth 100000
set_option maxHeartbeats 2000000
namespace AM
open PySem PySem.Spec PyProof.Rows L2
def clsS (s : Stmt) (j : Nat) : Stmt := match s with
  | .ClassDef _ _ _ b _ _ _ _ _ _ _ => b.getD j (.Pass ⟨0, 0, 0, 0⟩)
  | _ => .Pass ⟨0, 0, 0, 0⟩
def refsOf (g : Addr → Option Obj) (as : List Addr) : List Addr := as.flatMap fun a => match g a with
  | some o => He.refsD o
  | none => []
def asN (g : Addr → Option Obj) : Nat → List Addr → List Addr
  | 0, as => as
  | n + 1, as => as ++ asN g n (refsOf g as)
abbrev NmZ : Type := List Str × List Str
def asZ (g : Addr → Option Obj) (n : NmZ) : List Addr := mainGlobals :: cStatics :: sysModules :: builtinsNs :: He.ga (He.frT g [mainGlobals]) "__builtins__" :: (asN g 3 (n.1.map (He.ga (He.frT g [mainGlobals]))) ++ asN g 1 (n.2.map (He.ga (He.frT g [mainGlobals]))))
def seerOk (K : PySem.W.Frag) : Bool := (K.lookup cStatics).isSome && ((K.lookup sysModules).isSome && ((K.lookup builtinsNs).isSome && (match PySem.W.nsIn K mainGlobals "__builtins__" with
  | some (some (.ref a)) => (K.lookup a).isSome
  | _ => false)))
def obsZ (n : NmZ) (fa : List He.Fa) (fn : List He.DefD) (tf : List He.Defn) (ex : PySem.W.Frag → Bool) (g : Addr → Option Obj) : He.AlX := (He.obsT fa fn [] (He.frT g (asZ g n)), (seerOk (He.frT g (asZ g n)) && ex (He.frT g (asZ g n))) && He.tabsB g tf (He.frT g (asZ g n)))
abbrev SaysZ (fa : List He.Fa) (fn : List He.DefD) (tf : List He.Defn) (ex : PySem.W.Frag → Bool) (w : World) (h : Heap) (K : PySem.W.Frag) : Prop := He.SaysX fa fn [] tf (fun K => seerOk K && ex K) w h K
theorem saysZ_of {n : NmZ} {fa : List He.Fa} {fn : List He.DefD} {tf : List He.Defn} {ex : PySem.W.Frag → Bool} {w : World} {h : Heap} (e : obsZ n fa fn tf ex h.get? = He.valX fn [] w) : SaysZ fa fn tf ex w h (He.frT h.get? (asZ h.get? n)) := by
  have e1 : He.obsT fa fn [] (He.frT h.get? (asZ h.get? n)) = He.valT fn [] w := congrArg (fun z : He.AlX => z.1) e
  have e2 : ((seerOk (He.frT h.get? (asZ h.get? n)) && ex (He.frT h.get? (asZ h.get? n))) && He.tabsB h.get? tf (He.frT h.get? (asZ h.get? n))) = true := congrArg (fun z : He.AlX => z.2) e
  obtain ⟨h1, h2⟩ := He.ba e2
  have key : ∀ p ∈ tf, PySem.W.codeHdIn (He.frT h.get? (asZ h.get? n)) (He.cT (He.frT h.get? (asZ h.get? n)) p).1 (He.cT (He.frT h.get? (asZ h.get? n)) p).2 = true ∧ ∃ o, h.get? (He.cT (He.frT h.get? (asZ h.get? n)) p).2 = some o ∧ He.emptyTab o = true := fun p hp => by
    obtain ⟨h3, h4⟩ := He.ba (List.all_eq_true.mp h2 p hp)
    refine ⟨h3, ?_⟩
    cases q : h.get? (He.cT (He.frT h.get? (asZ h.get? n)) p).2 with
    | none =>
      rw [q] at h4
      cases h4
    | some o =>
      rw [q] at h4
      exact ⟨o, rfl, h4⟩
  exact ⟨e1, h1, fun p hp => (key p hp).1, fun p hp => by
    obtain ⟨_, o, q, z⟩ := key p hp
    exact He.frT_none q z, fun p hp => by
    obtain ⟨_, o, q, z⟩ := key p hp
    rw [q, He.emptyTab_eq z]⟩
def hookZ (n : NmZ) (fa : List He.Fa) (fn : List He.DefD) (tf : List He.Defn) (ex : PySem.W.Frag → Bool) : PySem.W.Hook where
  α := He.AlX
  obs := fun s => obsZ n fa fn tf ex s.heap.get?
  val := fun w => He.valX fn [] w
  says := fun w h => ∃ K : PySem.W.Frag, K.In h ∧ SaysZ fa fn tf ex w h K
  of := fun _ _ e => ⟨_, He.frT_in, saysZ_of e⟩
  keeps := fun _ _ _ ⟨K, hK, c⟩ k => ⟨K, PySem.W.Frag.In.keeps hK k, ⟨c.t, c.more, c.hd, c.out, fun p hp => k _ _ (c.empty p hp)⟩⟩
theorem obsZ_eq {n : NmZ} {fa : List He.Fa} {fn : List He.DefD} {tf : List He.Defn} {ex : PySem.W.Frag → Bool} {g : Addr → Option Obj} {s : Shared} (h : ∀ a, g a = s.heap.get? a) : obsZ n fa fn tf ex g = (hookZ n fa fn tf ex).obs s := by
  have e : g = s.heap.get? := funext h
  rw [e] <;> rfl
theorem run_two {r : PySem.W.OpenRow} {q : Program} {H : PySem.W.Hook} {ob : PySem.W.SharedT → H.α} {M : Nat} {loose : List PySem.Str} {w : World} (h1 : HandSHeadRun.RunEq r q PySem.W.Hook.none (fun _ => ()) M loose w)
    (h2 : ∀ os : OsState, (HandSHeadRun.endF (HandSHeadRun.stepQ (HandSHeadRun.denQ HandSHeadRun.tabQ) r.prog w) M r.prog w os).map ob = some (H.val w)) : HandSHeadRun.RunEq r q H ob M loose w := fun os => by
  have a := h1 os
  have b := h2 os
  unfold HandSHeadRun.RunEq at *
  cases e : HandSHeadRun.endF (HandSHeadRun.stepQ (HandSHeadRun.denQ HandSHeadRun.tabQ) r.prog w) M r.prog w os with
  | none => rw [e] at b; cases b
  | some s =>
    rw [e] at a b
    have a := Option.some.inj a
    have b := Option.some.inj b
    have a1 := congrArg (fun z => z.1) a
    have a2 := congrArg (fun z => z.2.1) a
    dsimp only at a1 a2
    show some (HandSHeadRun.looksF r.prog (PySem.W.boot_heap w.params) s.abs, HandSHeadRun.seenQ q loose (importedModules r.prog.main.body) (fun s => PySem.W.xlAt q [] s && PySem.W.recOk r.toRowW.records s) s.abs, ob s) = _
    rw [a1, a2, b]
end AM
set_option Elab.async false
set_option linter.all false
set_option maxRecDepth 100000
set_option maxHeartbeats 0
namespace LW
open PySem PySem.Spec PyProof.Rows L2 AM
def topS (i : Nat) : Stmt := PySem.Challenge.pw_trueroots_k23_numbers_as_reals.main.body.getD i (.Pass ⟨0, 0, 0, 0⟩)
abbrev s_greatest : Stmt := topS 6
abbrev s_is_whole : Stmt := topS 7
abbrev s_lowest : Stmt := topS 8
abbrev s_ratio : Stmt := topS 9
abbrev s_degree_of : Stmt := topS 11
abbrev s_Real___init__ : Stmt := clsS (topS 14) 0
abbrev s_Real___eq__ : Stmt := clsS (topS 14) 1
abbrev s_Real___str__ : Stmt := clsS (topS 14) 2
abbrev s_ratio_text : Stmt := topS 15
abbrev s_term_text : Stmt := topS 16
abbrev s_poly_text : Stmt := topS 17
abbrev s_real_text : Stmt := topS 18
abbrev s_number : Stmt := topS 19
abbrev s__law_well : Stmt := topS 21
abbrev s__law_take : Stmt := topS 22
abbrev s__law_bags : Stmt := topS 23
abbrev s__law_same : Stmt := topS 24
abbrev s__law_low : Stmt := topS 25
abbrev s__law_int : Stmt := topS 26
abbrev s__law_wide : Stmt := topS 27
abbrev s__law_is_int : Stmt := topS 28
abbrev s__law_odd : Stmt := topS 29
abbrev s__law_key : Stmt := topS 30
abbrev s__law_ask : Stmt := topS 31
abbrev s_law : Stmt := topS 32
def namesZ : List PySem.Str := (["_wall",
  "__name__",
  "RootError",
  "NoSuch",
  "NoRatio",
  "__name__",
  "greatest",
  "is_whole",
  "lowest",
  "ratio",
  "__name__",
  "degree_of",
  "__name__",
  "THOUSAND",
  "Real",
  "ratio_text",
  "term_text",
  "poly_text",
  "real_text",
  "number",
  "__name__",
  "_law_well",
  "_law_take",
  "_law_bags",
  "_law_same",
  "_law_low",
  "_law_int",
  "_law_wide",
  "_law_is_int",
  "_law_odd"] : List PySem.Str) ++ (["_law_key",
  "_law_ask"] : List PySem.Str)
def fasZ : List He.Fa := [.glo "law",
  .free "isinstance",
  .free "int",
  .free "bool",
  .free "str",
  .free "list",
  .free "tuple",
  .free "len",
  .free "abs",
  .free "max",
  .free "min",
  .free "all",
  .free "any",
  .free "sum",
  .free "range",
  .free "enumerate",
  .free "zip",
  .free "sorted",
  .free "dict",
  .free "set",
  .glo "greatest",
  .glo "is_whole",
  .glo "lowest",
  .glo "ratio",
  .glo "degree_of",
  .meth "Real" "__eq__",
  .meth "Real" "__str__",
  .glo "ratio_text",
  .glo "term_text",
  .glo "poly_text",
  .glo "real_text",
  .glo "number",
  .glo "_law_well",
  .glo "_law_take",
  .glo "_law_bags",
  .glo "_law_same",
  .glo "_law_low",
  .glo "_law_int",
  .glo "_law_wide",
  .glo "_law_is_int",
  .glo "_law_odd",
  .glo "_law_key",
  .glo "_law_ask",
  .glo "NoRatio",
  .exc "NoRatio",
  .glo "RootError",
  .exc "RootError",
  .cls "Real",
  .glo "Real",
  .noat "Real" "poly",
  .noat "Real" "place",
  .noat "Real" "held",
  .mkr "Real"]
def fnsZ : List He.DefD := [⟨("greatest", none), "greatest", "greatest", defArgs s_greatest, defBody s_greatest, defScope s_greatest, [], []⟩,
  ⟨("is_whole", none), "is_whole", "is_whole", defArgs s_is_whole, defBody s_is_whole, defScope s_is_whole, [], []⟩,
  ⟨("lowest", none), "lowest", "lowest", defArgs s_lowest, defBody s_lowest, defScope s_lowest, [], []⟩,
  ⟨("ratio", none), "ratio", "ratio", defArgs s_ratio, defBody s_ratio, defScope s_ratio, [.int 1], []⟩,
  ⟨("degree_of", none), "degree_of", "degree_of", defArgs s_degree_of, defBody s_degree_of, defScope s_degree_of, [], []⟩,
  ⟨("Real", some "__init__"), "__init__", "Real.__init__", defArgs s_Real___init__, defBody s_Real___init__, defScope s_Real___init__, [], []⟩,
  ⟨("Real", some "__eq__"), "__eq__", "Real.__eq__", defArgs s_Real___eq__, defBody s_Real___eq__, defScope s_Real___eq__, [], []⟩,
  ⟨("Real", some "__str__"), "__str__", "Real.__str__", defArgs s_Real___str__, defBody s_Real___str__, defScope s_Real___str__, [], []⟩,
  ⟨("ratio_text", none), "ratio_text", "ratio_text", defArgs s_ratio_text, defBody s_ratio_text, defScope s_ratio_text, [], []⟩,
  ⟨("term_text", none), "term_text", "term_text", defArgs s_term_text, defBody s_term_text, defScope s_term_text, [], []⟩,
  ⟨("poly_text", none), "poly_text", "poly_text", defArgs s_poly_text, defBody s_poly_text, defScope s_poly_text, [], []⟩,
  ⟨("real_text", none), "real_text", "real_text", defArgs s_real_text, defBody s_real_text, defScope s_real_text, [], []⟩,
  ⟨("number", none), "number", "number", defArgs s_number, defBody s_number, defScope s_number, [.int 1], []⟩,
  ⟨("_law_well", none), "_law_well", "_law_well", defArgs s__law_well, defBody s__law_well, defScope s__law_well, [], []⟩,
  ⟨("_law_take", none), "_law_take", "_law_take", defArgs s__law_take, defBody s__law_take, defScope s__law_take, [], []⟩,
  ⟨("_law_bags", none), "_law_bags", "_law_bags", defArgs s__law_bags, defBody s__law_bags, defScope s__law_bags, [], []⟩,
  ⟨("_law_same", none), "_law_same", "_law_same", defArgs s__law_same, defBody s__law_same, defScope s__law_same, [], []⟩,
  ⟨("_law_low", none), "_law_low", "_law_low", defArgs s__law_low, defBody s__law_low, defScope s__law_low, [], []⟩,
  ⟨("_law_int", none), "_law_int", "_law_int", defArgs s__law_int, defBody s__law_int, defScope s__law_int, [], []⟩,
  ⟨("_law_wide", none), "_law_wide", "_law_wide", defArgs s__law_wide, defBody s__law_wide, defScope s__law_wide, [], []⟩,
  ⟨("_law_is_int", none), "_law_is_int", "_law_is_int", defArgs s__law_is_int, defBody s__law_is_int, defScope s__law_is_int, [], []⟩,
  ⟨("_law_odd", none), "_law_odd", "_law_odd", defArgs s__law_odd, defBody s__law_odd, defScope s__law_odd, [], []⟩,
  ⟨("_law_key", none), "_law_key", "_law_key", defArgs s__law_key, defBody s__law_key, defScope s__law_key, [], []⟩,
  ⟨("_law_ask", none), "_law_ask", "_law_ask", defArgs s__law_ask, defBody s__law_ask, defScope s__law_ask, [], []⟩,
  ⟨("law", none), "law", "law", defArgs s_law, defBody s_law, defScope s_law, [], []⟩]
def tfZ : List He.Defn := [("law", none)]
def exsZ (K : PySem.W.Frag) : List Bool := [decide (PySem.W.findIn K (.ref (He.ga K "Real")) "__class__" = some (some (.builtin "object.__class__"))),
  decide (PySem.W.specialIn K (.builtin "object.__class__") "__get__" = some (some (.builtin "getset_descriptor.__get__"))),
  decide (PySem.W.takesIn K (.builtin "object.__class__") = some true),
  decide (PySem.W.mroIn K (He.ga K "Real") (.type "object") = some true),
  decide (PySem.W.kitOne K (.ref (He.ga K "Real")) (.type "int") = some false),
  decide (PySem.W.kitOne K (.ref (He.ga K "Real")) (.type "bool") = some false),
  decide (PySem.W.kitOne K (.ref (He.ga K "Real")) (.type "str") = some false),
  decide (PySem.W.kitOne K (.ref (He.ga K "Real")) (.type "list") = some false),
  decide (PySem.W.kitOne K (.ref (He.ga K "Real")) (.type "tuple") = some false),
  decide (PySem.W.kitOne K (.type "NoneType") (.ref (He.ga K "Real")) = some false),
  decide (PySem.W.kitOne K (.type "bool") (.ref (He.ga K "Real")) = some false),
  decide (PySem.W.kitOne K (.type "int") (.ref (He.ga K "Real")) = some false),
  decide (PySem.W.kitOne K (.type "str") (.ref (He.ga K "Real")) = some false),
  decide (PySem.W.kitOne K (.type "list") (.ref (He.ga K "Real")) = some false),
  decide (PySem.W.kitOne K (.type "tuple") (.ref (He.ga K "Real")) = some false),
  decide (PySem.W.subIn K (.type "NoneType") (.ref (He.ga K "Real")) = some false),
  decide (PySem.W.subIn K (.type "bool") (.ref (He.ga K "Real")) = some false),
  decide (PySem.W.subIn K (.type "int") (.ref (He.ga K "Real")) = some false),
  decide (PySem.W.subIn K (.type "str") (.ref (He.ga K "Real")) = some false),
  decide (PySem.W.subIn K (.type "list") (.ref (He.ga K "Real")) = some false),
  decide (PySem.W.subIn K (.type "tuple") (.ref (He.ga K "Real")) = some false),
  decide (PySem.W.kitOne K (.ref (He.ga K "Real")) (.ref (He.ga K "Real")) = some true),
  decide (PySem.W.exmOne K (.ref (He.ga K "NoRatio")) (.ref (He.ga K "NoRatio")) = some true)]
def exZ (K : PySem.W.Frag) : Bool := (exsZ K).all id
abbrev RZ : PySem.W.OpenRow := PySem.W.OpenLaw.row PySem.Challenge.rw_trueroots_k23_numbers_as_reals
def nmZ : AM.NmZ := ((["NoRatio",
  "RootError",
  "Real"] : List PySem.Str), (["law",
  "greatest",
  "is_whole",
  "lowest",
  "ratio",
  "degree_of",
  "ratio_text",
  "term_text",
  "poly_text",
  "real_text",
  "number",
  "_law_well",
  "_law_take",
  "_law_bags",
  "_law_same",
  "_law_low",
  "_law_int",
  "_law_wide",
  "_law_is_int",
  "_law_odd",
  "_law_key",
  "_law_ask"] : List PySem.Str))
abbrev hkZ : PySem.W.Hook := AM.hookZ nmZ fasZ fnsZ tfZ exZ
def obZ (s : PySem.W.SharedT) : He.AlX := AM.obsZ nmZ fasZ fnsZ tfZ exZ (HandSHeadRun.getT s)
theorem obZ_eq (s : PySem.W.SharedT) : obZ s = hkZ.obs s.abs := AM.obsZ_eq (HandSHeadRun.getT_eq s)
theorem runA (w : World) : HandSHeadRun.RunEq RZ (PySem.W.view RZ.prog [32]) PySem.W.Hook.none (fun _ => ()) 20000 namesZ w := by
  intro os
  kernel_rfl
theorem runB (w : World) (os : OsState) : (HandSHeadRun.endF (HandSHeadRun.stepQ (HandSHeadRun.denQ HandSHeadRun.tabQ) RZ.prog w) 20000 RZ.prog w os).map obZ = some (hkZ.val w) := by
  kernel_rfl
theorem runZ (w : World) : HandSHeadRun.RunEq RZ (PySem.W.view RZ.prog [32]) hkZ obZ 20000 namesZ w := AM.run_two (runA w) (runB w)
open PySem PySem.W PySem.Calls PyProof.Rows
theorem f1 : opening RZ.prog = plainProg RZ.prog.main.scope.names := by kernel_rfl
theorem f2 (s : Shared) : fenceModules? RZ.prog s = some s := by kernel_rfl
theorem f3 : defOf (PySem.W.view RZ.prog [32]) RZ.name = some ((HandSHeadRun.topDef RZ.prog 32), []) := by kernel_rfl
theorem f4 : RZ.prog.theDef RZ.name = some ((HandSHeadRun.topDef RZ.prog 32).params, (HandSHeadRun.topDef RZ.prog 32).body, (HandSHeadRun.topDef RZ.prog 32).scope) := by kernel_rfl
theorem f5 : kwWritten? (HandSHeadRun.topDef RZ.prog 32).params.kwonlyargs (HandSHeadRun.topDef RZ.prog 32).params.kw_defaults = some [] := by kernel_rfl
theorem f8a : chainsOk (PySem.W.view RZ.prog [32]) = true := by decide +kernel
theorem f8b : opensWell RZ.prog = true := by decide +kernel
theorem f8c : (frees RZ.toRowW && RZ.within.isEmpty) = true := by decide +kernel
theorem f8 : (chainsOk (PySem.W.view RZ.prog [32]) && opensWell RZ.prog && (frees RZ.toRowW && RZ.within.isEmpty)) = true := by rw [f8a, f8b, f8c]; rfl
theorem f9 : RZ.prog.bare := ⟨rfl, rfl, rfl, rfl, rfl, by decide +kernel⟩
theorem frontZ (f7 : RZ.wellSaid = true) (hw : RZ.toRowW.promised) (call : WalkO (PySem.W.view RZ.prog [32]) namesZ (XL (PySem.W.view RZ.prog [32]) []) hkZ.says RZ.toRowW (HandSHeadRun.topDef RZ.prog 32) [] fun f vs => PySem.call f vs) : RZ.Holds := HandSHeadRun.head_any (r := RZ) (q := (PySem.W.view RZ.prog [32])) (H := hkZ) (ob := obZ) (M := 20000) (loose := namesZ) (d := (HandSHeadRun.topDef RZ.prog 32)) (kwd := []) obZ_eq f1 f2 runZ f3 f4 f5 (by rfl) f7 f8 f9 hw call
theorem f_nm : (HandSHeadRun.topDef RZ.prog 32).name = ("law" : PySem.Str) := by kernel_rfl
theorem f_df : (HandSHeadRun.topDef RZ.prog 32).params.defaults = [] := by kernel_rfl
theorem f_imp : importsNone (PySem.W.view RZ.prog [32]) = true := by kernel_rfl
end LW
set_option Elab.async false
set_option linter.all false
set_option maxRecDepth 100000
set_option maxHeartbeats 2000000
namespace AM
open PySem L2
inductive Sl where
  | no
  | dat (d : PyData)
  | own (xs : List PyData)
  | dct (ks : List Key) (xs : List PyData)
  | dcl (p : Addr) (ob : Unit → Obj) (vs : List V) (ks : List Key) (xs : List PyData)
inductive Kd where
  | l
  | d (ks : List Key)
def hoK : Kd → List V → HO
  | .l, vs => .lst vs
  | .d ks, vs => .dK (ks.zip vs)
def ownK : Sl → Option (Kd × List PyData)
  | .own xs => some (.l, xs)
  | .dct ks xs => some (.d ks, xs)
  | _ => none
inductive Rv where
  | dat (d : PyData)
  | al (i : Nat)
def lk : List Sl → Nat → Sl
  | [], _ => .no
  | s :: _, 0 => s
  | _ :: r, n + 1 => lk r n
def st : List Sl → Nat → Sl → List Sl
  | [], _, _ => []
  | _ :: r, 0, t => t :: r
  | s :: r, n + 1, t => s :: st r n t
theorem lk_st_same (g : List Sl) (i : Nat) (t : Sl) (h : i < g.length) : lk (st g i t) i = t := by
  induction g generalizing i with
  | nil => cases h
  | cons s r ih =>
    cases i with
    | zero => rfl
    | succ n => exact ih n (Nat.lt_of_succ_lt_succ h)
theorem lk_st_ne : ∀ (g : List Sl) (i j : Nat) (t : Sl), i ≠ j → lk (st g i t) j = lk g j
  | [], _, _, _, _ => rfl
  | _ :: _, 0, 0, _, h => absurd rfl h
  | _ :: _, 0, _ + 1, _, _ => rfl
  | _ :: _, _ + 1, 0, _, _ => rfl
  | _ :: r, n + 1, m + 1, t, h => lk_st_ne r n m t (fun e => h (by rw [e]))
theorem st_length : ∀ (g : List Sl) (i : Nat) (t : Sl), (st g i t).length = g.length
  | [], _, _ => rfl
  | _ :: _, 0, _ => rfl
  | _ :: r, n + 1, t => by simp [st, st_length r n t]
theorem lk_big : ∀ (g : List Sl) (i : Nat), g.length ≤ i → lk g i = .no
  | [], _, _ => rfl
  | _ :: r, 0, h => absurd h (by simp)
  | _ :: r, n + 1, h => lk_big r n (Nat.le_of_succ_le_succ h)
def inb : List Sl → Nat → Bool
  | [], _ => false
  | _ :: _, 0 => true
  | _ :: r, n + 1 => inb r n
theorem inb_lt : ∀ {g : List Sl} {i : Nat}, inb g i = true → i < g.length
  | [], _, h => by cases h
  | _ :: r, 0, _ => by simp
  | _ :: r, n + 1, h => by
    have := inb_lt (g := r) (i := n) h
    rw [List.length_cons]; omega
structure OCls (K : PySem.W.Frag) (C : Addr) : Prop where
  cl : Cls K C
  ha : PySem.W.findIn K (.ref C) "__class__" = some (some (.builtin "object.__class__"))
  hn : PySem.W.specialIn K (.builtin "object.__class__") "__get__" = some (some (.builtin "getset_descriptor.__get__"))
  htk : PySem.W.takesIn K (.builtin "object.__class__") = some true
  hm : PySem.W.mroIn K C (.type "object") = some true
  kit : ∀ T ∈ ["int", "bool", "str", "list", "tuple"], PySem.W.kitOne K (.ref C) (.type T) = some false
mutual
inductive Dq (K : PySem.W.Frag) (H : Hp) : V → PyData → Prop
  | non : Dq K H .non .none
  | bl (b : Bool) : Dq K H (.bl b) (.bool b)
  | int (i : Int) : Dq K H (.int i) (.int i)
  | str (x : Str) : Dq K H (.str x) (.str x)
  | lst {a : Addr} {xs : List V} {ds : List PyData} : H a = some (.lst xs) → DqAll K H xs ds → Dq K H (.ref a) (.list ds)
  | tup {a : Addr} {xs : List V} {ds : List PyData} : SqT K H a xs → DqAll K H xs ds → Dq K H (.ref a) (.tuple ds)
  | ins {a C dx : Addr} {fs : List (Str × V)} {kvs : List (PyData × PyData)} : OCls K C → H a = some (.ins C dx fs) → DqF K H fs kvs → Dq K H (.ref a) (.dict ((.tuple [.int (Int.ofNat C)], .none) :: kvs))
  | dk {a : Addr} {ws : List (Key × V)} {kvs : List (PyData × PyData)} : H a = some (.dK ws) → DqK K H ws kvs → Dq K H (.ref a) (.dict kvs)
inductive DqF (K : PySem.W.Frag) (H : Hp) : List (Str × V) → List (PyData × PyData) → Prop
  | nil : DqF K H [] []
  | cons {n : Str} {v : V} {fs : List (Str × V)} {d : PyData} {kvs : List (PyData × PyData)} : Dq K H v d → DqF K H fs kvs → DqF K H ((n, v) :: fs) ((.str n, d) :: kvs)
inductive DqK (K : PySem.W.Frag) (H : Hp) : List (Key × V) → List (PyData × PyData) → Prop
  | nil : DqK K H [] []
  | consI {i : Int} {v : V} {ws : List (Key × V)} {d : PyData} {kvs : List (PyData × PyData)} : Dq K H v d → DqK K H ws kvs → DqK K H ((Sum.inl i, v) :: ws) ((.int i, d) :: kvs)
  | consS {x : Str} {v : V} {ws : List (Key × V)} {d : PyData} {kvs : List (PyData × PyData)} : Dq K H v d → DqK K H ws kvs → DqK K H ((Sum.inr x, v) :: ws) ((.str x, d) :: kvs)
inductive DqAll (K : PySem.W.Frag) (H : Hp) : List V → List PyData → Prop
  | nil : DqAll K H [] []
  | cons {v : V} {vs : List V} {d : PyData} {ds : List PyData} : Dq K H v d → DqAll K H vs ds → DqAll K H (v :: vs) (d :: ds)
end
section
variable {K : PySem.W.Frag} {H : Hp}
mutual
theorem dq_dp0 : ∀ (d : PyData) (v : V), d.canLay0 = true → Dq K H v d → Dp K H v d
  | .none, _, _, h => by cases h; exact .non
  | .bool b, _, _, h => by cases h; exact .bl b
  | .int i, _, _, h => by cases h; exact .int i
  | .str x, _, _, h => by cases h; exact .str x
  | .list ds, _, l, h => by
    cases h with
    | lst q a => exact .lst (.inl (.inl q)) (dqa_dp0 ds _ (by simpa only [PyData.canLay0] using l) a)
  | .tuple ds, _, l, h => by
    cases h with
    | tup q a => exact .tup q (dqa_dp0 ds _ (by simpa only [PyData.canLay0] using l) a)
  | .dict _, _, l, _ => by simp [PyData.canLay0] at l
theorem dqa_dp0 : ∀ (ds : List PyData) (vs : List V), PyData.canLayAll0 ds = true → DqAll K H vs ds → DpAll K H vs ds
  | [], _, _, h => by cases h; exact .nil
  | d :: ds, _, l, h => by
    simp only [PyData.canLayAll0, Bool.and_eq_true] at l
    cases h with
    | cons q a => exact .cons (dq_dp0 d _ l.1 q) (dqa_dp0 ds _ l.2 a)
end
theorem dq_dp (d : PyData) (v : V) (h : Dq K H v d) (hs : SeqAt.shaped d = true) : Dp K H v d := dq_dp0 d v (by unfold SeqAt.shaped at hs; exact (Bool.and_eq_true _ _ ▸ hs).1) h
end
section
variable {K : PySem.W.Frag} {G H : Hp}
theorem rd_mono (e : Same G H) {a : Addr} {u : HO} (h : Rd G a u) : Rd H a u := by
  rcases h with h | ⟨o, h⟩
  · exact .inl (e _ _ h)
  · exact .inr ⟨o, e _ _ h⟩
theorem sqT_mono (e : Same G H) {a : Addr} {xs : List V} (h : SqT K G a xs) : SqT K H a xs := by
  rcases h with (h | ⟨o, h⟩) | h
  · exact .inl (.inl (e _ _ h))
  · exact .inl (.inr ⟨o, e _ _ h⟩)
  · exact .inr h
mutual
theorem dp_mono' (e : Same G H) : ∀ {v : V} {d : PyData}, Dq K G v d → Dq K H v d
  | _, _, .non => .non
  | _, _, .bl b => .bl b
  | _, _, .int i => .int i
  | _, _, .str x => .str x
  | _, _, .lst q a => .lst (e _ _ q) (dpa_mono' e a)
  | _, _, .tup q a => .tup (sqT_mono e q) (dpa_mono' e a)
  | _, _, .ins oc q a => .ins oc (e _ _ q) (dpf_mono' e a)
  | _, _, .dk q a => .dk (e _ _ q) (dpk_mono' e a)
theorem dpf_mono' (e : Same G H) : ∀ {fs : List (Str × V)} {kvs : List (PyData × PyData)}, DqF K G fs kvs → DqF K H fs kvs
  | _, _, .nil => .nil
  | _, _, .cons q a => .cons (dp_mono' e q) (dpf_mono' e a)
theorem dpk_mono' (e : Same G H) : ∀ {ws : List (Key × V)} {kvs : List (PyData × PyData)}, DqK K G ws kvs → DqK K H ws kvs
  | _, _, .nil => .nil
  | _, _, .consI q a => .consI (dp_mono' e q) (dpk_mono' e a)
  | _, _, .consS q a => .consS (dp_mono' e q) (dpk_mono' e a)
theorem dpa_mono' (e : Same G H) : ∀ {vs : List V} {ds : List PyData}, DqAll K G vs ds → DqAll K H vs ds
  | _, _, .nil => .nil
  | _, _, .cons q a => .cons (dp_mono' e q) (dpa_mono' e a)
end
theorem dp_mono (e : Same G H) (d : PyData) (v : V) (h : Dq K G v d) : Dq K H v d := dp_mono' e h
theorem dpa_mono (e : Same G H) (ds : List PyData) (vs : List V) (h : DqAll K G vs ds) : DqAll K H vs ds := dpa_mono' e h
theorem dpa_len : ∀ {vs : List V} {ds : List PyData}, DqAll K G vs ds → vs.length = ds.length
  | _, _, .nil => rfl
  | _, _, .cons _ r => by simp [dpa_len r]
theorem dpa_get : ∀ {vs : List V} {ds : List PyData} {i : Nat} {d : PyData}, DqAll K G vs ds → ds[i]? = some d → ∃ v, vs[i]? = some v ∧ Dq K G v d
  | _, _, _, _, .nil, e => by simp at e
  | _, _, 0, _, .cons q _, e => by simp at e; subst e; exact ⟨_, rfl, q⟩
  | _, _, i + 1, d, .cons _ r, e => by
    obtain ⟨v, h1, h2⟩ := dpa_get (i := i) (d := d) r (by simpa using e)
    exact ⟨v, by simpa using h1, h2⟩
theorem dpa_app : ∀ {vs ws : List V} {ds es : List PyData}, DqAll K G vs ds → DqAll K G ws es → DqAll K G (vs ++ ws) (ds ++ es)
  | _, _, _, _, .nil, s => s
  | _, _, _, _, .cons q r, s => .cons q (dpa_app r s)
theorem dpa_set : ∀ {vs : List V} {ds : List PyData} (i : Nat) {v : V} {d : PyData}, DqAll K G vs ds → Dq K G v d → DqAll K G (vs.set i v) (ds.set i d)
  | _, _, _, _, _, .nil, _ => .nil
  | _, _, 0, _, _, .cons _ r, q => .cons q r
  | _, _, i + 1, _, _, .cons p r, q => .cons p (dpa_set i r q)
theorem dp_int {v : V} {i : Int} (h : Dq K G v (.int i)) : v = .int i := by cases h; rfl
theorem dp_bl {v : V} {b : Bool} (h : Dq K G v (.bool b)) : v = .bl b := by cases h; rfl
theorem dp_str {v : V} {x : Str} (h : Dq K G v (.str x)) : v = .str x := by cases h; rfl
theorem dp_non {v : V} (h : Dq K G v .none) : v = .non := by cases h; rfl
theorem dp_tup {v : V} {ds : List PyData} (h : Dq K G v (.tuple ds)) : ∃ a xs, v = .ref a ∧ SqT K G a xs ∧ DqAll K G xs ds := by
  cases h with
  | tup q a => exact ⟨_, _, rfl, q, a⟩
theorem dp_lst {v : V} {ds : List PyData} (h : Dq K G v (.list ds)) : ∃ a xs, v = .ref a ∧ G a = some (.lst xs) ∧ DqAll K G xs ds := by
  cases h with
  | lst q a => exact ⟨_, _, rfl, q, a⟩
theorem dpa_ints : ∀ {vs : List V} {ns : List Int}, DqAll K G vs (ns.map .int) → vs = ns.map V.int
  | _, [], h => by cases h; rfl
  | _, n :: ns, h => by
    cases h with
    | cons q r => rw [dp_int q, dpa_ints r]; rfl
theorem dpa_bls : ∀ {vs : List V} {bs : List Bool}, DqAll K G vs (bs.map .bool) → vs = bs.map V.bl
  | _, [], h => by cases h; rfl
  | _, n :: ns, h => by
    cases h with
    | cons q r => rw [dp_bl q, dpa_bls r]; rfl
end
theorem same_upd {H : Hp} {p : Addr} {o : HO} (h : H p = none) : Same H (upd H p o) := fun b x e => by
  rw [upd_ne (ne_of_none e h)]
  exact e
structure Fx where
  B : List (Nat × Addr)
  H0 : Hp
  G0 : Hp
  T : List (Addr × Str)
def Fx.M (F : Fx) (a : Addr) : Prop := (∃ i, (i, a) ∈ F.B) ∨ ∃ q, (a, q) ∈ F.T
def NoTb (o : HO) : Prop := ∀ ps, o ≠ .tbl ps
def NT (G : Hp) : Prop := ∀ a o, G a = some o → NoTb o
theorem noTb_lst {vs : List V} : NoTb (.lst vs) := fun _ z => by cases z
theorem NT.upd {G : Hp} {p : Addr} {o : HO} (h : NT G) (ho : NoTb o) : NT (upd G p o) := fun a u e => by
  by_cases q : a = p
  · subst q; rw [upd_same] at e; cases e; exact ho
  · rw [upd_ne q] at e; exact h a u e
def pf (F : Fx) (i : Nat) : Bool := F.B.all fun q => q.1 != i
theorem pf_ne {F : Fx} {i : Nat} (h : pf F i = true) : ∀ q ∈ F.B, q.1 ≠ i := fun q hq => by
  have := List.all_eq_true.mp h q hq
  simpa using this
def SlOk (K : PySem.W.Frag) (F : Fx) (G H : Hp) : Sl → Option (Option V) → Prop
  | .no, _ => True
  | .dat d, o => ∃ v, o = some (some v) ∧ Dq K G v d
  | .own xs, o => ∃ p vs, o = some (some (.ref p)) ∧ G p = none ∧ H p = some (.lst vs) ∧ DqAll K G vs xs ∧ (F.M p ∨ F.H0 p = none)
  | .dct ks xs, o => ∃ p vs, o = some (some (.ref p)) ∧ G p = none ∧ H p = some (hoK (.d ks) vs) ∧ DqAll K G vs xs ∧ (F.M p ∨ F.H0 p = none)
  | .dcl p0 ob0 vs0 ks xs, o => ∃ p vs, o = some (some (.ref p)) ∧ G p = none ∧ (∃ _ : Unit, H p = some (.frz (ob0 ()) (hoK (.d ks) vs))) ∧ DqAll K G vs xs ∧ ((F.M p ∨ F.H0 p = none) ∧ p = p0 ∧ vs = vs0)
def Own (σ : L2.St) (Γ : List Sl) (a : Addr) : Prop := ∃ i q, ownK (lk Γ i) = some q ∧ σ[i]? = some (some (.ref a))
theorem own_l {Γ : List Sl} {i : Nat} {xs : List PyData} (e : lk Γ i = .own xs) : ownK (lk Γ i) = some (.l, xs) := by rw [e]; rfl
theorem own_d {Γ : List Sl} {i : Nat} {ks : List Key} {xs : List PyData} (e : lk Γ i = .dct ks xs) : ownK (lk Γ i) = some (.d ks, xs) := by rw [e]; rfl
structure En (K : PySem.W.Frag) (F : Fx) (G : Hp) (σ : L2.St) (H : Hp) (Γ : List Sl) : Prop where
  le : Same G H
  g0 : Same F.G0 G
  fr : ∀ a o, G a = some o → (∃ o', F.G0 a = some o') ∨ F.H0 a = none
  base : ∀ a o, ¬ F.M a → F.H0 a = some o → H a = some o
  mu : ∀ a, F.M a → ∃ o, H a = some o
  sl : ∀ i, SlOk K F G H (lk Γ i) σ[i]?
  nd : ∀ i j p xs ys, ownK (lk Γ i) = some xs → ownK (lk Γ j) = some ys → σ[i]? = some (some (.ref p)) → σ[j]? = some (some (.ref p)) → i = j
  len : σ.length = Γ.length
  pin : ∀ q ∈ F.B, σ[q.1]? = some (some (.ref q.2)) ∧ ∃ xs, lk Γ q.1 = .own xs
  tab : LamX.Tabs F.T H
  nt : NT G
theorem tabs_keep {T : List (Addr × Str)} {H H' : Hp} (t : LamX.Tabs T H) (k : ∀ a o, H a = some o → (∀ q vs, o ≠ hoK q vs) → H' a = some o) : LamX.Tabs T H' := fun p hp => by
  obtain ⟨ps, h1, h2, h3⟩ := t p hp
  refine ⟨ps, k _ _ h1 (fun q vs z => by cases q <;> cases z), h2, fun pos cv hc => ?_⟩
  obtain ⟨c, e1, e2⟩ := h3 pos cv hc
  exact ⟨c, e1, k _ _ e2 (fun q vs z => by unfold LamX.CodeO at z; cases q <;> cases z)⟩
theorem tabs_writeK {T : List (Addr × Str)} {H : Hp} {p : Addr} {q : Kd} {us : List V} {o : HO} (t : LamX.Tabs T H) (hp : H p = some (hoK q us)) : LamX.Tabs T (upd H p o) := tabs_keep t fun a u h n => by
  rw [upd_ne (fun z => n q us (by rw [z, hp] at h; exact (Option.some.inj h).symm))]
  exact h
theorem tabs_write {T : List (Addr × Str)} {H : Hp} {p : Addr} {us : List V} {o : HO} (t : LamX.Tabs T H) (hp : H p = some (.lst us)) : LamX.Tabs T (upd H p o) := tabs_writeK (q := .l) t hp
theorem tabs_ne {T : List (Addr × Str)} {H : Hp} {p : Addr} {us : List V} (t : LamX.Tabs T H) (hp : H p = some (.lst us)) : ¬ ∃ q, (p, q) ∈ T := fun ⟨q, hq⟩ => by
  obtain ⟨ps, h1, _⟩ := t _ hq
  have h1 : H p = _ := h1
  rw [hp] at h1
  cases h1
def LD : HO → Prop
  | .lst _ => True
  | .dK _ => True
  | .frz _ (.dK _) => True
  | _ => False
def Nl (H : Hp) (a : Addr) : Prop := ∀ o, LD o → H a ≠ some o
theorem Nl.none {H : Hp} {a : Addr} (h : H a = none) : Nl H a := fun o _ e => by rw [h] at e; cases e
theorem ld_lst (vs : List V) : LD (.lst vs) := trivial
theorem ld_noTb {o : HO} (h : LD o) : NoTb o := fun ps z => by subst z; exact h
theorem ld_hoK (k : Kd) (vs : List V) : LD (hoK k vs) := by cases k <;> trivial
theorem noTb_hoK (k : Kd) (vs : List V) : NoTb (hoK k vs) := fun _ z => by cases k <;> cases z
structure Step (σ : L2.St) (Γ Γ' : List Sl) (G H G' H' : Hp) : Prop where
  g : Same G G'
  f : ∀ a o, G' a = some o → (∃ o', G a = some o') ∨ Nl H a
  k : ∀ a o, H a = some o → ¬ Own σ Γ a → NoTb o → H' a = some o
  o : ∀ a, Own σ Γ' a → Own σ Γ a
  s : ∀ a o, LD o → H a = some o → ∃ o', LD o' ∧ H' a = some o'
theorem Step.nl {σ : L2.St} {Γ Γ' : List Sl} {G H G' H' : Hp} (s : Step σ Γ Γ' G H G' H') {a : Addr} (h : Nl H' a) : Nl H a := fun o l e => by
  obtain ⟨o', l', e'⟩ := s.s a o l e
  exact h o' l' e'
def Fre (F : Fx) (H : Hp) (p : Addr) : Prop := Nl H p ∧ F.H0 p = none
def VR (K : PySem.W.Frag) (G : Hp) (σ : L2.St) (v : V) : Rv → Prop
  | .dat d => Dq K G v d
  | .al i => σ[i]? = some (some v)
def tD (K : PySem.W.Frag) (F : Fx) (Γ : List Sl) (r : Rv) (Γ' : List Sl) : TE := fun σ H Q => ∃ G, En K F G σ H Γ ∧
  ∀ v H' G', Step σ Γ Γ' G H G' H' → En K F G' σ H' Γ' → VR K G' σ v r → Q v H'
def tN (K : PySem.W.Frag) (F : Fx) (Γ : List Sl) (xs : List PyData) (Γ' : List Sl) : TE := fun σ H Q => ∃ G, En K F G σ H Γ ∧
  ∀ p vs H' G', Step σ Γ Γ' G H G' H' → En K F G' σ H' Γ' → Fre F H p → G' p = none → H' p = some (.lst vs) → DqAll K G' vs xs → Q (.ref p) H'
def tDT (K : PySem.W.Frag) (F : Fx) (Γ : List Sl) (b : Bool) (Γ' : List Sl) : TT := fun σ H Q => ∃ G, En K F G σ H Γ ∧
  ∀ H' G', Step σ Γ Γ' G H G' H' → En K F G' σ H' Γ' → Q b H'
def tDA (K : PySem.W.Frag) (F : Fx) (Γ : List Sl) (rs : List Rv) (Γ' : List Sl) : TA := fun σ H Q => ∃ G, En K F G σ H Γ ∧
  ∀ vs H' G', Step σ Γ Γ' G H G' H' → En K F G' σ H' Γ' → Paired (fun v r => VR K G' σ v r) vs rs → Q vs H'
def vwS : Sl → Option PyData
  | .own xs => some (.list xs)
  | .dat d => some d
  | _ => none
def vw (Γ : List Sl) : Rv → Option PyData
  | .dat d => some d
  | .al i => vwS (lk Γ i)
section
variable {K : PySem.W.Frag} {F : Fx} {σ : L2.St} {Γ Γ1 Γ2 : List Sl} {G H G1 H1 G2 H2 : Hp}
theorem Step.refl : Step σ Γ Γ G H G H := ⟨fun _ _ h => h, fun a o h => .inl ⟨o, h⟩, fun _ _ h _ _ => h, fun _ h => h, fun _ o l h => ⟨o, l, h⟩⟩
theorem Step.trans (a : Step σ Γ Γ1 G H G1 H1) (b : Step σ Γ1 Γ2 G1 H1 G2 H2) : Step σ Γ Γ2 G H G2 H2 where
  g := fun x o h => b.g x o (a.g x o h)
  f := fun x o h => by
    rcases b.f x o h with ⟨o', h'⟩ | h'
    · exact a.f x o' h'
    · exact .inr (a.nl h')
  k := fun x o h n t => b.k x o (a.k x o h n t) (fun z => n (a.o x z)) t
  o := fun x h => a.o x (b.o x h)
  s := fun x o l h => by
    obtain ⟨o', l', h'⟩ := a.s x o l h
    exact b.s x o' l' h'
theorem VR.mono {v : V} {r : Rv} (e : Same G G1) (h : VR K G σ v r) : VR K G1 σ v r := by
  cases r with
  | dat d => exact dp_mono e d v h
  | al i => exact h
theorem En.no (E : En K F G σ H Γ) {p : Addr} (h : H p = none) : F.H0 p = none ∧ ¬ F.M p ∧ G p = none := by
  have nm : ¬ F.M p := fun z => by
    obtain ⟨o, e⟩ := E.mu p z
    rw [h] at e; cases e
  refine ⟨?_, nm, ?_⟩
  · cases q : F.H0 p with
    | none => rfl
    | some o =>
      have := E.base p o nm q
      rw [h] at this; cases this
  · cases q : G p with
    | none => rfl
    | some o =>
      have := E.le p o q
      rw [h] at this; cases this
theorem En.own (E : En K F G σ H Γ) {a : Addr} (h : Own σ Γ a) : G a = none ∧ ∃ q vs, H a = some (hoK q vs) := by
  obtain ⟨i, q, e, es⟩ := h
  have s := E.sl i
  cases ql : lk Γ i with
  | no => rw [ql] at e; cases e
  | dat d => rw [ql] at e; cases e
  | dcl p0 ob0 vs0 ks xs => rw [ql] at e; cases e
  | own xs =>
    rw [ql] at s
    obtain ⟨p, vs, e1, g, hp, _⟩ := s
    rw [es] at e1
    cases e1
    exact ⟨g, .l, vs, hp⟩
  | dct ks xs =>
    rw [ql] at s
    obtain ⟨p, vs, e1, g, hp, _⟩ := s
    rw [es] at e1
    cases e1
    exact ⟨g, .d ks, vs, hp⟩
theorem En.view (E : En K F G σ H Γ) {v : V} {r : Rv} {d : PyData} (h : VR K G σ v r) (e : vw Γ r = some d) : Dq K H v d := by
  cases r with
  | dat d' =>
    have : d' = d := Option.some.inj e
    subst this
    exact dp_mono E.le _ v h
  | al i =>
    have s := E.sl i
    have h : σ[i]? = some (some v) := h
    have e : vwS (lk Γ i) = some d := e
    cases q : lk Γ i with
    | no => rw [q] at e; cases e
    | dat d' =>
      rw [q] at e s
      have : d' = d := Option.some.inj e
      subst this
      obtain ⟨v', e1, hd⟩ := s
      rw [h] at e1
      cases e1
      exact dp_mono E.le _ _ hd
    | own xs =>
      rw [q] at e s
      have : PyData.list xs = d := Option.some.inj e
      subst this
      obtain ⟨p, vs, e1, g, hp, ha, _⟩ := s
      rw [h] at e1
      cases e1
      exact .lst hp (dpa_mono E.le _ _ ha)
    | dct ks xs => rw [q] at e; cases e
    | dcl p0 ob0 vs0 ks xs => rw [q] at e; cases e
theorem En.newDat (E : En K F G σ H Γ) {p : Addr} {o : HO} (h : H p = none) (ho : NoTb o := by intro _ z; cases z) : En K F (upd G p o) σ (upd H p o) Γ where
  le := fun a u e => by
    by_cases q : a = p
    · subst q; rw [upd_same] at e ⊢; exact e
    · rw [upd_ne q] at e ⊢; exact E.le a u e
  g0 := fun a u e => by
    have := E.g0 a u e
    rw [upd_ne (ne_of_none this (E.no h).2.2)]
    exact this
  fr := fun a u e => by
    by_cases q : a = p
    · subst q; exact .inr (E.no h).1
    · rw [upd_ne q] at e; exact E.fr a u e
  base := fun a u n e => by
    have := E.base a u n e
    rw [upd_ne (ne_of_none this h)]
    exact this
  mu := fun a m => by
    obtain ⟨u, e⟩ := E.mu a m
    exact ⟨u, by rw [upd_ne (ne_of_none e h)]; exact e⟩
  sl := fun i => by
    have s := E.sl i
    have sg : Same G (upd G p o) := same_upd (E.no h).2.2
    cases q : lk Γ i with
    | no => trivial
    | dat d =>
      rw [q] at s
      obtain ⟨v, e, hd⟩ := s
      exact ⟨v, e, dp_mono sg _ _ hd⟩
    | own xs =>
      rw [q] at s
      obtain ⟨a, vs, e, g, hp, ha, hm⟩ := s
      have ne : a ≠ p := ne_of_none hp h
      exact ⟨a, vs, e, by rw [upd_ne ne]; exact g, by rw [upd_ne ne]; exact hp, dpa_mono sg _ _ ha, hm⟩
    | dct ks xs =>
      rw [q] at s
      obtain ⟨a, vs, e, g, hp, ha, hm⟩ := s
      have ne : a ≠ p := ne_of_none hp h
      exact ⟨a, vs, e, by rw [upd_ne ne]; exact g, by rw [upd_ne ne]; exact hp, dpa_mono sg _ _ ha, hm⟩
    | dcl p0 ob0 vs0 ks xs =>
      rw [q] at s
      obtain ⟨a, vs, e, g, ⟨ob, hp⟩, ha, hm⟩ := s
      have ne : a ≠ p := ne_of_none hp h
      exact ⟨a, vs, e, by rw [upd_ne ne]; exact g, ⟨ob, by rw [upd_ne ne]; exact hp⟩, dpa_mono sg _ _ ha, hm⟩
  nd := E.nd
  len := E.len
  pin := E.pin
  tab := E.tab.ext (same_upd h)
  nt := E.nt.upd ho
theorem En.newRaw (E : En K F G σ H Γ) {p : Addr} {o : HO} (h : H p = none) : En K F G σ (upd H p o) Γ where
  le := fun a u e => by
    have := E.le a u e
    rw [upd_ne (ne_of_none this h)]; exact this
  g0 := E.g0
  fr := E.fr
  base := fun a u n e => by
    have := E.base a u n e
    rw [upd_ne (ne_of_none this h)]
    exact this
  mu := fun a m => by
    obtain ⟨u, e⟩ := E.mu a m
    exact ⟨u, by rw [upd_ne (ne_of_none e h)]; exact e⟩
  sl := fun i => by
    have s := E.sl i
    cases q : lk Γ i with
    | no => trivial
    | dat d => rw [q] at s; exact s
    | own xs =>
      rw [q] at s
      obtain ⟨a, vs, e, g, hp, ha, hm⟩ := s
      have ne : a ≠ p := ne_of_none hp h
      exact ⟨a, vs, e, g, by rw [upd_ne ne]; exact hp, ha, hm⟩
    | dct ks xs =>
      rw [q] at s
      obtain ⟨a, vs, e, g, hp, ha, hm⟩ := s
      have ne : a ≠ p := ne_of_none hp h
      exact ⟨a, vs, e, g, by rw [upd_ne ne]; exact hp, ha, hm⟩
    | dcl p0 ob0 vs0 ks xs =>
      rw [q] at s
      obtain ⟨a, vs, e, g, ⟨ob, hp⟩, ha, hm⟩ := s
      have ne : a ≠ p := ne_of_none hp h
      exact ⟨a, vs, e, g, ⟨ob, by rw [upd_ne ne]; exact hp⟩, ha, hm⟩
  nd := E.nd
  len := E.len
  pin := E.pin
  tab := E.tab.ext (same_upd h)
  nt := E.nt
theorem Step.newDat {p : Addr} {o : HO} (h : H p = none) (g : G p = none) : Step σ Γ Γ G H (upd G p o) (upd H p o) where
  g := same_upd g
  f := fun a u e => by
    by_cases q : a = p
    · subst q; exact .inr (.none h)
    · rw [upd_ne q] at e; exact .inl ⟨u, e⟩
  k := fun a u e _ _ => by rw [upd_ne (ne_of_none e h)]; exact e
  o := fun _ z => z
  s := fun a o l e => ⟨o, l, by rw [upd_ne (ne_of_none e h)]; exact e⟩
theorem Step.newRaw {p : Addr} {o : HO} (h : H p = none) : Step σ Γ Γ G H G (upd H p o) where
  g := fun _ _ e => e
  f := fun a u e => .inl ⟨u, e⟩
  k := fun a u e _ _ => by rw [upd_ne (ne_of_none e h)]; exact e
  o := fun _ z => z
  s := fun a o l e => ⟨o, l, by rw [upd_ne (ne_of_none e h)]; exact e⟩
theorem En.freeze (E : En K F G σ H Γ) {p : Addr} {o : HO} (h : H p = some o) (g : G p = none) (n : ¬ Own σ Γ p) (h0 : F.H0 p = none) (ho : NoTb o := by intro _ z; cases z) (hz : ∀ ob ws, o ≠ .frz ob (.dK ws) := by intro _ _ z; cases z) : En K F (upd G p o) σ H Γ where
  le := fun a u e => by
    by_cases q : a = p
    · subst q; rw [upd_same] at e; cases e; exact h
    · rw [upd_ne q] at e; exact E.le a u e
  g0 := fun a u e => by
    have := E.g0 a u e
    rw [upd_ne (ne_of_none this g)]
    exact this
  fr := fun a u e => by
    by_cases q : a = p
    · subst q; exact .inr h0
    · rw [upd_ne q] at e; exact E.fr a u e
  base := E.base
  mu := E.mu
  sl := fun i => by
    have s := E.sl i
    have sg : Same G (upd G p o) := same_upd g
    cases q : lk Γ i with
    | no => trivial
    | dat d =>
      rw [q] at s
      obtain ⟨v, e, hd⟩ := s
      exact ⟨v, e, dp_mono sg _ _ hd⟩
    | own xs =>
      rw [q] at s
      obtain ⟨a, vs, e, g, hp, ha, hm⟩ := s
      have ne : a ≠ p := fun z => n (by rw [← z]; exact ⟨i, _, own_l q, e⟩)
      exact ⟨a, vs, e, by rw [upd_ne ne]; exact g, hp, dpa_mono sg _ _ ha, hm⟩
    | dct ks xs =>
      rw [q] at s
      obtain ⟨a, vs, e, g, hp, ha, hm⟩ := s
      have ne : a ≠ p := fun z => n (by rw [← z]; exact ⟨i, _, own_d q, e⟩)
      exact ⟨a, vs, e, by rw [upd_ne ne]; exact g, hp, dpa_mono sg _ _ ha, hm⟩
    | dcl p0 ob0 vs0 ks xs =>
      rw [q] at s
      obtain ⟨a, vs, e, g, ⟨ob, hp⟩, ha, hm⟩ := s
      have ne : a ≠ p := fun z => by
        rw [z, h] at hp
        exact hz _ _ (Option.some.inj hp)
      exact ⟨a, vs, e, by rw [upd_ne ne]; exact g, ⟨ob, hp⟩, dpa_mono sg _ _ ha, hm⟩
  nd := E.nd
  len := E.len
  pin := E.pin
  tab := E.tab
  nt := E.nt.upd ho
theorem En.setDat (E : En K F G σ H Γ) {i : Nat} {v : V} {d : PyData} (h : Dq K G v d) (hi : i < Γ.length) (hb : pf F i = true) : En K F G (σ.set i (some v)) H (st Γ i (.dat d)) where
  le := E.le
  g0 := E.g0
  fr := E.fr
  base := E.base
  mu := E.mu
  sl := fun j => by
    by_cases q : i = j
    · subst q
      rw [lk_st_same _ _ _ hi, List.getElem?_set_self (by rw [E.len]; exact hi)]
      exact ⟨v, rfl, h⟩
    · rw [lk_st_ne _ _ _ _ q, List.getElem?_set_ne q]
      exact E.sl j
  nd := fun a b p xs ys e1 e2 e3 e4 => by
    by_cases qa : i = a
    · subst qa; rw [lk_st_same _ _ _ hi] at e1; cases e1
    · by_cases qb : i = b
      · subst qb; rw [lk_st_same _ _ _ hi] at e2; cases e2
      · rw [lk_st_ne _ _ _ _ qa] at e1
        rw [lk_st_ne _ _ _ _ qb] at e2
        rw [List.getElem?_set_ne qa] at e3
        rw [List.getElem?_set_ne qb] at e4
        exact E.nd a b p xs ys e1 e2 e3 e4
  len := by rw [List.length_set, st_length]; exact E.len
  pin := fun q hq => by
    have ne := pf_ne hb q hq
    rw [List.getElem?_set_ne (Ne.symm ne), lk_st_ne _ _ _ _ (Ne.symm ne)]
    exact E.pin q hq
  tab := E.tab
  nt := E.nt
theorem En.drop (E : En K F G σ H Γ) (i : Nat) (hb : pf F i = true) : En K F G σ H (st Γ i .no) where
  le := E.le
  g0 := E.g0
  fr := E.fr
  base := E.base
  mu := E.mu
  sl := fun j => by
    by_cases q : i = j
    · subst q
      by_cases hi : i < Γ.length
      · rw [lk_st_same _ _ _ hi]; trivial
      · rw [lk_big _ _ (by rw [st_length]; omega)]; trivial
    · rw [lk_st_ne _ _ _ _ q]
      exact E.sl j
  nd := fun a b p xs ys e1 e2 e3 e4 => by
    have aux : ∀ c zs, ownK (lk (st Γ i .no) c) = some zs → ownK (lk Γ c) = some zs := fun c zs e => by
      by_cases q : i = c
      · subst q
        by_cases hi : i < Γ.length
        · rw [lk_st_same _ _ _ hi] at e; cases e
        · rw [lk_big _ _ (by rw [st_length]; omega)] at e; cases e
      · rwa [lk_st_ne _ _ _ _ q] at e
    exact E.nd a b p xs ys (aux a xs e1) (aux b ys e2) e3 e4
  len := by rw [st_length]; exact E.len
  pin := fun q hq => by
    have ne := pf_ne hb q hq
    rw [lk_st_ne _ _ _ _ (Ne.symm ne)]
    exact E.pin q hq
  tab := E.tab
  nt := E.nt
theorem En.write (E : En K F G σ H Γ) {i : Nat} {p : Addr} {vs : List V} {xs ys : List PyData} (e : lk Γ i = .own xs) (es : σ[i]? = some (some (.ref p))) (ha : DqAll K G vs ys) :
    En K F G σ (upd H p (.lst vs)) (st Γ i (.own ys)) := by
  have hi : i < Γ.length := by
    apply Classical.byContradiction
    intro h
    rw [lk_big _ _ (by omega)] at e
    cases e
  have s0 := E.sl i
  rw [e] at s0
  obtain ⟨p', us, e1, gp, hp, _, hm⟩ := s0
  rw [es] at e1
  cases e1
  refine ⟨fun a u q => ?_, E.g0, E.fr, fun a u n q => ?_, fun a m => ?_, fun j => ?_, fun a b q' zs ws e1 e2 e3 e4 => ?_, by rw [st_length]; exact E.len, fun q hq => ⟨(E.pin q hq).1, ?_⟩, tabs_write E.tab hp, E.nt⟩
  · rw [upd_ne (ne_of_none q gp)]; exact E.le a u q
  · have ne : a ≠ p := by
      intro z
      subst z
      rcases hm with m | m
      · exact n m
      · rw [m] at q; cases q
    rw [upd_ne ne]; exact E.base a u n q
  · obtain ⟨u, q⟩ := E.mu a m
    by_cases z : a = p
    · subst z; exact ⟨_, upd_same⟩
    · exact ⟨u, by rw [upd_ne z]; exact q⟩
  · by_cases q : i = j
    · subst q
      rw [lk_st_same _ _ _ hi]
      exact ⟨p, vs, es, gp, upd_same, ha, hm⟩
    · rw [lk_st_ne _ _ _ _ q]
      have s := E.sl j
      cases ql : lk Γ j with
      | no => trivial
      | dat d => rw [ql] at s; exact s
      | own zs =>
        rw [ql] at s
        obtain ⟨a, ws, e3, g3, hp3, ha3, hm3⟩ := s
        have ne : a ≠ p := fun z => by
          subst z
          exact q (E.nd i j a _ _ (own_l e) (own_l ql) es e3)
        exact ⟨a, ws, e3, g3, by rw [upd_ne ne]; exact hp3, ha3, hm3⟩
      | dct ks zs =>
        rw [ql] at s
        obtain ⟨a, ws, e3, g3, hp3, ha3, hm3⟩ := s
        have ne : a ≠ p := fun z => by
          subst z
          exact q (E.nd i j a _ _ (own_l e) (own_d ql) es e3)
        exact ⟨a, ws, e3, g3, by rw [upd_ne ne]; exact hp3, ha3, hm3⟩
      | dcl p0 ob0 vs0 ks zs =>
        rw [ql] at s
        obtain ⟨a, ws, e3, g3, ⟨ob, hp3⟩, ha3, hm3⟩ := s
        have ne : a ≠ p := fun z => by
          rw [z, hp] at hp3
          cases hp3
        exact ⟨a, ws, e3, g3, ⟨ob, by rw [upd_ne ne]; exact hp3⟩, ha3, hm3⟩
  · have aux : ∀ c zs, ownK (lk (st Γ i (.own ys)) c) = some zs → ∃ zs', ownK (lk Γ c) = some zs' := fun c zs h => by
      by_cases q : i = c
      · subst q; exact ⟨_, own_l e⟩
      · rw [lk_st_ne _ _ _ _ q] at h; exact ⟨zs, h⟩
    obtain ⟨z1, h1⟩ := aux a zs e1
    obtain ⟨z2, h2⟩ := aux b ws e2
    exact E.nd a b q' z1 z2 h1 h2 e3 e4
  · by_cases w : i = q.1
    · rw [← w, lk_st_same _ _ _ hi]; exact ⟨ys, rfl⟩
    · rw [lk_st_ne _ _ _ _ w]; exact (E.pin q hq).2
theorem Step.write {i : Nat} {p : Addr} {vs : List V} {xs ys : List PyData} (e : lk Γ i = .own xs) (es : σ[i]? = some (some (.ref p))) : Step σ Γ (st Γ i (.own ys)) G H G (upd H p (.lst vs)) where
  g := fun _ _ h => h
  f := fun a o h => .inl ⟨o, h⟩
  k := fun a o h n _ => by
    rw [upd_ne (fun z => n (by rw [z]; exact ⟨i, _, own_l e, es⟩))]
    exact h
  o := fun a ⟨j, zs, h1, h2⟩ => by
    by_cases q : i = j
    · subst q; exact ⟨i, _, own_l e, h2⟩
    · rw [lk_st_ne _ _ _ _ q] at h1; exact ⟨j, zs, h1, h2⟩
  s := fun a o l h => by
    by_cases q : a = p
    · subst q; exact ⟨.lst vs, trivial, upd_same⟩
    · exact ⟨o, l, by rw [upd_ne q]; exact h⟩
theorem fre_of {G' H' : Hp} {Γ' : List Sl} (s : Step σ Γ Γ' G H G' H') (E : En K F G' σ H' Γ') {p : Addr} (hp : H' p = none) : Fre F H p := ⟨s.nl (.none hp), (E.no hp).1⟩
end
theorem pe_imp {X : Cx} {e : Expr} {t t' : TE} (h : PE X e t) (i : ∀ σ H Q, t' σ H Q → t σ H Q) : PE X e t' := ⟨fun pins s σ H Q I q => h.run pins s σ H Q I (i σ H Q q)⟩
theorem pt_imp {X : Cx} {e : Expr} {t t' : TT} (h : PT X e t) (i : ∀ σ H Q, t' σ H Q → t σ H Q) : PT X e t' := ⟨fun pins s σ H Q I q => h.run pins s σ H Q I (i σ H Q q)⟩
theorem pw_imp {X : Cx} {e : Expr} {t t' : TT} (h : PW X e t) (i : ∀ σ H Q, t' σ H Q → t σ H Q) : PW X e t' := ⟨fun wh pins s σ H Q I q => h.run wh pins s σ H Q I (i σ H Q q)⟩
theorem pa_imp {X : Cx} {es : List Expr} {t t' : TA} (h : PA X es t) (i : ∀ σ H Q, t' σ H Q → t σ H Q) : PA X es t' := ⟨fun pos pins s σ H Q I q => h.run pos pins s σ H Q I (i σ H Q q)⟩
theorem ps_imp {X : Cx} {s : Stmt} {t t' : TS} (h : PS X s t) (i : ∀ D σ H, t' D σ H → t D σ H) : PS X s t' := ⟨fun pins s σ H D I q => h.run pins s σ H D I (i D σ H q)⟩
theorem pss_imp {X : Cx} {s : List Stmt} {t t' : TS} (h : PSs X s t) (i : ∀ D σ H, t' D σ H → t D σ H) : PSs X s t' := ⟨fun pins s σ H D I q => h.run pins s σ H D I (i D σ H q)⟩
end AM
set_option Elab.async false
set_option linter.all false
set_option maxRecDepth 100000
set_option maxHeartbeats 2000000
namespace AM
open PySem L2
section
variable {X : Cx} {F : Fx} {Γ Γ1 Γ2 Γ3 : List Sl} {a b c e : Expr} {pos : Pos} {ra rb rc : Rv} {da db dc : PyData}
theorem de_var (i : Nat) {x : Str} {d : PyData} (hl : lk Γ i = .dat d := by rfl) (hN : X.N[i]? = some x := by rfl) (hv : Vis X.env.scope x := by first | exact Or.inl rfl | exact Or.inr (Or.inl rfl) | exact Or.inr (Or.inr rfl)) (hd : (x == ("__debug__" : Str)) = false := by decide)
    (hcd : (x == ("__classdict__" : Str)) = false := by decide) : PE X (.Name x pos) (tD X.K F Γ (.dat d) Γ) :=
  pe_imp (pe_var hN hv hd hcd) fun σ H Q ⟨G, E, k⟩ => by
    have s := E.sl i
    rw [hl] at s
    obtain ⟨v, e, hd⟩ := s
    exact ⟨v, e, k v H G Step.refl E hd⟩
theorem de_varO (i : Nat) {x : Str} {xs : List PyData} (hl : lk Γ i = .own xs := by rfl) (hN : X.N[i]? = some x := by rfl) (hv : Vis X.env.scope x := by first | exact Or.inl rfl | exact Or.inr (Or.inl rfl) | exact Or.inr (Or.inr rfl)) (hd : (x == ("__debug__" : Str)) = false := by decide)
    (hcd : (x == ("__classdict__" : Str)) = false := by decide) : PE X (.Name x pos) (tD X.K F Γ (.al i) Γ) :=
  pe_imp (pe_var hN hv hd hcd) fun σ H Q ⟨G, E, k⟩ => by
    have s := E.sl i
    rw [hl] at s
    obtain ⟨p, vs, e, _⟩ := s
    exact ⟨.ref p, e, k _ H G Step.refl E e⟩
theorem de_c {v : V} {d : PyData} (h : PE X e (tC v)) (hd : ∀ G, Dq X.K G v d) : PE X e (tD X.K F Γ (.dat d) Γ) :=
  pe_imp h fun σ H Q ⟨G, E, k⟩ => k v H G Step.refl E (hd G)
theorem de_int {i : Int} {j : Nat} : PE X (.Constant (.int i) j pos) (tD X.K F Γ (.dat (.int i)) Γ) := de_c pe_int fun _ => .int i
theorem de_bl {i : Bool} {j : Nat} : PE X (.Constant (.bool i) j pos) (tD X.K F Γ (.dat (.bool i)) Γ) := de_c pe_bl fun _ => .bl i
theorem de_non {j : Nat} : PE X (.Constant .none j pos) (tD X.K F Γ (.dat .none) Γ) := de_c pe_non fun _ => .non
theorem de_str {x : Str} {j : Nat} : PE X (.Constant (.str x) j pos) (tD X.K F Γ (.dat (.str x)) Γ) := de_c pe_str fun _ => .str x
def RD2 (K : PySem.W.Frag) (F : Fx) (Γ : List Sl) (r : R2) (ra rb rc : Rv) : Prop := ∀ G H σ x y (Q : VK), En K F G σ H Γ → VR K G σ x ra → VR K G σ y rb →
  (∀ v H' G', Step σ Γ Γ G H G' H' → En K F G' σ H' Γ → VR K G' σ v rc → Q v H') → r x y H Q
theorem td_op {K : PySem.W.Frag} {r : R2} (h : RD2 K F Γ2 r ra rb rc) {σ : L2.St} {H : Hp} {Q : VK} (q : tD K F Γ rc Γ2 σ H Q) : tOp r (tD K F Γ ra Γ1) (tD K F Γ1 rb Γ2) σ H Q := by
  obtain ⟨G, E, k⟩ := q
  refine ⟨G, E, fun x H1 G1 s1 E1 v1 => ⟨G1, E1, fun y H2 G2 s2 E2 v2 => ?_⟩⟩
  exact h G2 H2 σ x y Q E2 (v1.mono s2.g) v2 fun v H3 G3 s3 E3 v3 => k v H3 G3 ((s1.trans s2).trans s3) E3 v3
theorem de_op {op : Operator} {r : R2} (ho : OpR X (binaryOp op) r) (h : RD2 X.K F Γ2 r ra rb rc) (ha : PE X a (tD X.K F Γ ra Γ1)) (hb : PE X b (tD X.K F Γ1 rb Γ2)) : PE X (.BinOp a op b pos) (tD X.K F Γ rc Γ2) :=
  pe_imp (pe_op ho ha hb) fun _ _ _ q => td_op h q
theorem de_cmp {op : CmpOp} {r : R2} (ho : OpR X (compareOp op) r) (h : RD2 X.K F Γ2 r ra rb rc) (ha : PE X a (tD X.K F Γ ra Γ1)) (hb : PE X b (tD X.K F Γ1 rb Γ2)) (hm : behindInMarks op b = false) : PE X (.Compare a [op] [b] pos) (tD X.K F Γ rc Γ2) :=
  pe_imp (pe_cmpR ho ha hb hm) fun _ _ _ q => td_op h q
theorem dt_cmp {op : CmpOp} {r : R2} {k : Bool} (ho : OpR X (compareOp op) r) (h : RD2 X.K F Γ2 r ra rb (.dat (.bool k))) (ha : PE X a (tD X.K F Γ ra Γ1)) (hb : PE X b (tD X.K F Γ1 rb Γ2)) (hm : behindInMarks op b = false) : PT X (.Compare a [op] [b] pos) (tDT X.K F Γ k Γ2) :=
  pt_imp (pt_cmpR ho ha hb hm) fun σ H Q ⟨G, E, q⟩ => by
    refine td_op h ⟨G, E, fun v H' G' s' E' v' => ⟨k, dp_bl v', q H' G' s' E'⟩⟩
section
variable {K : PySem.W.Frag}
theorem rd_I0 {g : Int → Int → Int} {i j : Int} : RD2 K F Γ (rI0 fun i j => .int (g i j)) (.dat (.int i)) (.dat (.int j)) (.dat (.int (g i j))) := fun G H σ x y Q E vx vy k =>
  ⟨i, j, dp_int vx, dp_int vy, k _ H G Step.refl E (.int _)⟩
theorem rd_I {C : Int → Int → Prop} {g : Int → Int → Int} {i j : Int} (hc : C i j) : RD2 K F Γ (rI C fun i j => .int (g i j)) (.dat (.int i)) (.dat (.int j)) (.dat (.int (g i j))) := fun G H σ x y Q E vx vy k =>
  ⟨i, j, dp_int vx, dp_int vy, hc, k _ H G Step.refl E (.int _)⟩
theorem rd_B0 {g : Int → Int → Bool} {i j : Int} : RD2 K F Γ (rI0 fun i j => .bl (g i j)) (.dat (.int i)) (.dat (.int j)) (.dat (.bool (g i j))) := fun G H σ x y Q E vx vy k =>
  ⟨i, j, dp_int vx, dp_int vy, k _ H G Step.refl E (.bl _)⟩
theorem rd_eqI {i j : Int} : RD2 K F Γ rEq (.dat (.int i)) (.dat (.int j)) (.dat (.bool (decide (i = j)))) := fun G H σ x y Q E vx vy k => by
  have e1 := dp_int vx
  have e2 := dp_int vy
  subst e1; subst e2
  refine ⟨rfl, k _ H G Step.refl E ?_⟩
  rw [dec_int, Bool.beq_eq_decide_eq]
  exact .bl _
theorem rd_neI {i j : Int} : RD2 K F Γ rNe (.dat (.int i)) (.dat (.int j)) (.dat (.bool (!decide (i = j)))) := fun G H σ x y Q E vx vy k => by
  have e1 := dp_int vx
  have e2 := dp_int vy
  subst e1; subst e2
  refine ⟨rfl, k _ H G Step.refl E ?_⟩
  rw [dec_int, Bool.beq_eq_decide_eq]
  exact .bl _
theorem rd_eqS {i j : Str} : RD2 K F Γ rEq (.dat (.str i)) (.dat (.str j)) (.dat (.bool (decide (i = j)))) := fun G H σ x y Q E vx vy k => by
  have e1 := dp_str vx
  have e2 := dp_str vy
  subst e1; subst e2
  refine ⟨rfl, k _ H G Step.refl E ?_⟩
  have : decide (V.str i = V.str j) = decide (i = j) := by
    by_cases e : i = j
    · subst e; simp
    · rw [decide_eq_false e, decide_eq_false (fun z => e (by injection z))]
  rw [this]
  exact .bl _
theorem rd_eqD (va : vw Γ ra = some da) (vb : vw Γ rb = some db) (sa : SeqAt.shaped da = true) (sb : SeqAt.shaped db = true) : RD2 K F Γ (rEqD K) ra rb (.dat (.bool (PyData.eqv da db))) := fun G H σ x y Q E vx vy k =>
  ⟨da, db, dq_dp _ _ (E.view vx va) sa, dq_dp _ _ (E.view vy vb) sb, sa, sb, k _ H G Step.refl E (.bl _)⟩
def isNon : PyData → Bool
  | .none => true
  | _ => false
theorem dp_isN {G : Hp} {v : V} {d : PyData} (h : Dq K G v d) : decide (v = .non) = isNon d := by
  cases h <;> rfl
theorem rd_isN (va : vw Γ ra = some da) : RD2 K F Γ (fun x y H Q => y = .non ∧ Q (.bl (decide (x = .non))) H) ra (.dat .none) (.dat (.bool (isNon da))) := fun G H σ x y Q E vx vy k => by
  refine ⟨dp_non vy, k _ H G Step.refl E ?_⟩
  rw [dp_isN (E.view vx va)]
  exact .bl _
def sqOf : PyData → Option (List PyData)
  | .list ds => some ds
  | .tuple ds => some ds
  | _ => none
theorem ixN_of {G : Hp} {vs : List V} {ds : List PyData} {i : Int} {d : PyData} (h : DqAll K G vs ds) (e : atI ds i = some d) : ∃ v, atI vs i = some v ∧ Dq K G v d := by
  unfold atI at e ⊢
  rw [dpa_len h]
  cases q : ixN ds.length i with
  | none => rw [q] at e; cases e
  | some j =>
    rw [q] at e
    exact dpa_get h e
theorem rd_ix {i : Int} {ds : List PyData} {d : PyData} (va : vw Γ ra = some da) (hs : sqOf da = some ds) (hd : atI ds i = some d) : RD2 K F Γ (rIx K) (ra) (.dat (.int i)) (.dat d) := fun G H σ x y Q E vx vy k => by
  have ey := dp_int vy
  subst ey
  -- the data of the place itself: in G where the thing is data, else of an own list
  have key : ∃ (p : Addr) (vs : List V) (v : V), x = .ref p ∧ (SqL K H p vs ∨ SqT K H p vs) ∧ atI vs i = some v ∧ Dq K G v d := by
    cases ra with
    | dat d' =>
      have : d' = da := Option.some.inj va
      subst this
      have vx : Dq K G x d' := vx
      cases vx with
      | lst q al => cases hs; obtain ⟨v, h1, h2⟩ := ixN_of al hd; exact ⟨_, _, v, rfl, .inl (.inl (rd_mono E.le (.inl q))), h1, h2⟩
      | tup q al => cases hs; obtain ⟨v, h1, h2⟩ := ixN_of al hd; exact ⟨_, _, v, rfl, .inr (sqT_mono E.le q), h1, h2⟩
      | _ => cases hs
    | al j =>
      have s := E.sl j
      have va : vwS (lk Γ j) = some da := va
      have vx : σ[j]? = some (some x) := vx
      cases q : lk Γ j with
      | no => rw [q] at va; cases va
      | dat d' =>
        rw [q] at va s
        have : d' = da := Option.some.inj va
        subst this
        obtain ⟨v', e1, hd'⟩ := s
        rw [vx] at e1
        cases e1
        clear q
        cases hd' with
        | lst q2 al => cases hs; obtain ⟨v, h1, h2⟩ := ixN_of al hd; exact ⟨_, _, v, rfl, .inl (.inl (rd_mono E.le (.inl q2))), h1, h2⟩
        | tup q2 al => cases hs; obtain ⟨v, h1, h2⟩ := ixN_of al hd; exact ⟨_, _, v, rfl, .inr (sqT_mono E.le q2), h1, h2⟩
        | _ => cases hs
      | own xs =>
        rw [q] at va s
        have : PyData.list xs = da := Option.some.inj va
        subst this
        cases hs
        obtain ⟨p, vs, e1, g, hp, ha, _⟩ := s
        rw [vx] at e1
        cases e1
        obtain ⟨v, h1, h2⟩ := ixN_of ha hd
        exact ⟨p, vs, v, rfl, .inl (SqL.of hp), h1, h2⟩
      | dct ks xs => rw [q] at va; cases va
      | dcl p0 ob0 vs0 ks xs => rw [q] at va; cases va
  obtain ⟨p, vs, v, rfl, hq, h1, h2⟩ := key
  rcases hq with hq | hq
  · exact .inl ⟨p, vs, i, v, rfl, rfl, hq, h1, k v H G Step.refl E h2⟩
  · exact .inr (.inl ⟨p, vs, i, v, rfl, rfl, hq, h1, k v H G Step.refl E h2⟩)
end
theorem op_mulA : OpR X (binaryOp .Mult) (rI IntMulOk fun i j => .int (i * j)) := opI fun _ _ _ _ _ _ _ hc q => PyProof.Rows.mul_int q hc
def CDivA (_ j : Int) : Prop := j ≠ 0 ∧ j.natAbs < 2 ^ 9000
theorem log2_lt9 {n : Nat} (h : n < 2 ^ 9000) : n.log2 < 9000 := PySem.Flt.log2_lt_of (by decide) h
theorem op_fdivA : OpR X (binaryOp .FloorDiv) (rI CDivA fun i j => .int (i.fdiv j)) := opI fun _ _ _ _ _ _ _ hc q => PyProof.Rows.floordiv_int hc.1 q (.inl (PyProof.noPylong_of_log2 (log2_lt9 hc.2)))
theorem de_add {i j : Int} (ha : PE X a (tD X.K F Γ (.dat (.int i)) Γ1)) (hb : PE X b (tD X.K F Γ1 (.dat (.int j)) Γ2)) : PE X (.BinOp a .Add b pos) (tD X.K F Γ (.dat (.int (i + j))) Γ2) := de_op op_add (rd_I0 (g := fun i j => i + j)) ha hb
theorem de_sub {i j : Int} (ha : PE X a (tD X.K F Γ (.dat (.int i)) Γ1)) (hb : PE X b (tD X.K F Γ1 (.dat (.int j)) Γ2)) : PE X (.BinOp a .Sub b pos) (tD X.K F Γ (.dat (.int (i - j))) Γ2) := de_op op_sub (rd_I0 (g := fun i j => i - j)) ha hb
theorem de_mul {i j : Int} (ha : PE X a (tD X.K F Γ (.dat (.int i)) Γ1)) (hb : PE X b (tD X.K F Γ1 (.dat (.int j)) Γ2)) (hc : IntMulOk i j) : PE X (.BinOp a .Mult b pos) (tD X.K F Γ (.dat (.int (i * j))) Γ2) := de_op op_mulA (rd_I (g := fun i j => i * j) hc) ha hb
theorem de_fdiv {i j : Int} (ha : PE X a (tD X.K F Γ (.dat (.int i)) Γ1)) (hb : PE X b (tD X.K F Γ1 (.dat (.int j)) Γ2)) (hc : CDivA i j) : PE X (.BinOp a .FloorDiv b pos) (tD X.K F Γ (.dat (.int (i.fdiv j))) Γ2) := de_op op_fdivA (rd_I (g := fun i j => i.fdiv j) hc) ha hb
theorem de_mod {i j : Int} (ha : PE X a (tD X.K F Γ (.dat (.int i)) Γ1)) (hb : PE X b (tD X.K F Γ1 (.dat (.int j)) Γ2)) (hc : j ≠ 0) : PE X (.BinOp a .Mod b pos) (tD X.K F Γ (.dat (.int (i.fmod j))) Γ2) := de_op op_modN (rd_I (C := fun _ j => j ≠ 0) (g := fun i j => i.fmod j) hc) ha hb
theorem de_pow {i j : Int} (ha : PE X a (tD X.K F Γ (.dat (.int i)) Γ1)) (hb : PE X b (tD X.K F Γ1 (.dat (.int j)) Γ2)) (hc : CPow i j) : PE X (.BinOp a .Pow b pos) (tD X.K F Γ (.dat (.int (i ^ j.toNat))) Γ2) := de_op op_pow (rd_I (g := fun i j => i ^ j.toNat) hc) ha hb
theorem de_neg {i : Int} (ha : PE X a (tD X.K F Γ (.dat (.int i)) Γ1)) : PE X (.UnaryOp .USub a pos) (tD X.K F Γ (.dat (.int (-i))) Γ1) :=
  pe_imp (pe_un un_neg ha) fun σ H Q ⟨G, E, k⟩ => ⟨G, E, fun x H1 G1 s1 E1 v1 => ⟨i, dp_int v1, k _ H1 G1 s1 E1 (.int _)⟩⟩
section
variable {i j : Int}
theorem de_eqI (ha : PE X a (tD X.K F Γ (.dat (.int i)) Γ1)) (hb : PE X b (tD X.K F Γ1 (.dat (.int j)) Γ2)) : PE X (.Compare a [.Eq] [b] pos) (tD X.K F Γ (.dat (.bool (decide (i = j)))) Γ2) := de_cmp op_eq rd_eqI ha hb (nomark _)
theorem dt_lt (ha : PE X a (tD X.K F Γ (.dat (.int i)) Γ1)) (hb : PE X b (tD X.K F Γ1 (.dat (.int j)) Γ2)) : PT X (.Compare a [.Lt] [b] pos) (tDT X.K F Γ (decide (i < j)) Γ2) := dt_cmp op_lt (rd_B0 (g := fun i j => decide (i < j))) ha hb (nomark _)
theorem dt_gt (ha : PE X a (tD X.K F Γ (.dat (.int i)) Γ1)) (hb : PE X b (tD X.K F Γ1 (.dat (.int j)) Γ2)) : PT X (.Compare a [.Gt] [b] pos) (tDT X.K F Γ (decide (j < i)) Γ2) := dt_cmp op_gt (rd_B0 (g := fun i j => decide (j < i))) ha hb (nomark _)
theorem dt_ge (ha : PE X a (tD X.K F Γ (.dat (.int i)) Γ1)) (hb : PE X b (tD X.K F Γ1 (.dat (.int j)) Γ2)) : PT X (.Compare a [.GtE] [b] pos) (tDT X.K F Γ (decide (j ≤ i)) Γ2) := dt_cmp op_ge (rd_B0 (g := fun i j => decide (j ≤ i))) ha hb (nomark _)
theorem dt_eqI (ha : PE X a (tD X.K F Γ (.dat (.int i)) Γ1)) (hb : PE X b (tD X.K F Γ1 (.dat (.int j)) Γ2)) : PT X (.Compare a [.Eq] [b] pos) (tDT X.K F Γ (decide (i = j)) Γ2) := dt_cmp op_eq rd_eqI ha hb (nomark _)
theorem dt_neI (ha : PE X a (tD X.K F Γ (.dat (.int i)) Γ1)) (hb : PE X b (tD X.K F Γ1 (.dat (.int j)) Γ2)) : PT X (.Compare a [.NotEq] [b] pos) (tDT X.K F Γ (!decide (i = j)) Γ2) := dt_cmp op_ne rd_neI ha hb (nomark _)
theorem de_eqS {i j : Str} (ha : PE X a (tD X.K F Γ (.dat (.str i)) Γ1)) (hb : PE X b (tD X.K F Γ1 (.dat (.str j)) Γ2)) : PE X (.Compare a [.Eq] [b] pos) (tD X.K F Γ (.dat (.bool (decide (i = j)))) Γ2) := de_cmp op_eq rd_eqS ha hb (nomark _)
theorem dt_eqS {i j : Str} (ha : PE X a (tD X.K F Γ (.dat (.str i)) Γ1)) (hb : PE X b (tD X.K F Γ1 (.dat (.str j)) Γ2)) : PT X (.Compare a [.Eq] [b] pos) (tDT X.K F Γ (decide (i = j)) Γ2) := dt_cmp op_eq rd_eqS ha hb (nomark _)
end
section
variable {k : Nat}
theorem de_eqD (hr : Room k X.A) (ha : PE X a (tD X.K F Γ ra Γ1)) (hb : PE X b (tD X.K F Γ1 rb Γ2)) (sa : SeqAt.shaped da = true) (sb : SeqAt.shaped db = true) (va : vw Γ2 ra = some da := by rfl) (vb : vw Γ2 rb = some db := by rfl) : PE X (.Compare a [.Eq] [b] pos) (tD X.K F Γ (.dat (.bool (PyData.eqv da db))) Γ2) := de_cmp (op_eqD hr.units) (rd_eqD va vb sa sb) ha hb (nomark _)
theorem dt_eqD (hr : Room k X.A) (ha : PE X a (tD X.K F Γ ra Γ1)) (hb : PE X b (tD X.K F Γ1 rb Γ2)) (sa : SeqAt.shaped da = true) (sb : SeqAt.shaped db = true) (va : vw Γ2 ra = some da := by rfl) (vb : vw Γ2 rb = some db := by rfl) : PT X (.Compare a [.Eq] [b] pos) (tDT X.K F Γ (PyData.eqv da db) Γ2) := dt_cmp (op_eqD hr.units) (rd_eqD va vb sa sb) ha hb (nomark _)
end
theorem de_isN (ha : PE X a (tD X.K F Γ ra Γ1)) (va : vw Γ1 ra = some da := by rfl) {j : Nat} {pos' : Pos} : PE X (.Compare a [.Is] [.Constant .none j pos'] pos) (tD X.K F Γ (.dat (.bool (isNon da))) Γ1) := de_cmp op_isN (rd_isN va) ha de_non (nomark _)
theorem de_ix {i : Int} {ds : List PyData} {d : PyData} (ha : PE X a (tD X.K F Γ ra Γ1)) (hb : PE X b (tD X.K F Γ1 (.dat (.int i)) Γ2)) (hd : atI ds i = some d) (va : vw Γ2 ra = some da := by rfl) (hs : sqOf da = some ds := by rfl) (hp : PlainIx b := by exact fun _ _ => rfl) :
    PE X (.Subscript a b pos) (tD X.K F Γ (.dat d) Γ2) := pe_imp (pe_ix ix_seq ha hb hp) fun _ _ _ q => td_op (rd_ix va hs hd) q
theorem dt_b {k : Bool} (h : PE X e (tD X.K F Γ (.dat (.bool k)) Γ1)) (he : ∀ whole, isTrue e X.env whole = (do let v ← whole; standAt e.pos; holding [v] (truthy v)) := by intro _; rfl) : PT X e (tDT X.K F Γ k Γ1) :=
  pt_imp (pt_val h he) fun σ H Q ⟨G, E, q⟩ => ⟨G, E, fun v H1 G1 s1 E1 v1 => ⟨k, dp_bl v1, q H1 G1 s1 E1⟩⟩
theorem dt_not {k : Bool} (h : PT X e (tDT X.K F Γ k Γ1)) : PT X (.UnaryOp .Not e pos) (tDT X.K F Γ (!k) Γ1) := pt_imp (pt_not h) fun σ H Q ⟨G, E, q⟩ => ⟨G, E, q⟩
theorem dw_and1 {k : Bool} (h : PT X a (tDT X.K F Γ k Γ1)) : PW X (.BoolOp .And [a] pos) (tDT X.K F Γ k Γ1) := pw_and1 h
theorem dw_or1 {k : Bool} (h : PT X a (tDT X.K F Γ k Γ1)) : PW X (.BoolOp .Or [a] pos) (tDT X.K F Γ k Γ1) := pw_or1 h
theorem dw_and {k l : Bool} {rest : List Expr} (h : PT X a (tDT X.K F Γ k Γ)) (h2 : k = true → PW X (.BoolOp .And (b :: rest) pos) (tDT X.K F Γ l Γ)) : PW X (.BoolOp .And (a :: b :: rest) pos) (tDT X.K F Γ (k && l) Γ) := by
  cases k with
  | true => exact pw_imp (pw_and h (h2 rfl)) fun σ H Q ⟨G, E, q⟩ => ⟨G, E, fun H1 G1 s1 E1 => ⟨G1, E1, fun H2 G2 s2 E2 => q H2 G2 (s1.trans s2) E2⟩⟩
  | false =>
    refine ⟨fun wh pins s σ H Q I h' => ?_⟩
    refine PyProof.Rows.isTrue_and (thn (h.run pins s σ H (fun c H1 => c = false ∧ Q false H1) I ?_) fun c s1 ⟨H1, I1, q1, q2⟩ => ?_)
    · obtain ⟨G, E, q⟩ := h'
      exact ⟨G, E, fun H1 G1 s1 E1 => ⟨rfl, q H1 G1 s1 E1⟩⟩
    · subst q1
      exact ⟨H1, I1, q2⟩
theorem dw_or {k l : Bool} {rest : List Expr} (h : PT X a (tDT X.K F Γ k Γ)) (h2 : k = false → PW X (.BoolOp .Or (b :: rest) pos) (tDT X.K F Γ l Γ)) : PW X (.BoolOp .Or (a :: b :: rest) pos) (tDT X.K F Γ (k || l) Γ) := by
  cases k with
  | false => exact pw_imp (pw_or h (h2 rfl)) fun σ H Q ⟨G, E, q⟩ => ⟨G, E, fun H1 G1 s1 E1 => ⟨G1, E1, fun H2 G2 s2 E2 => q H2 G2 (s1.trans s2) E2⟩⟩
  | true =>
    refine ⟨fun wh pins s σ H Q I h' => ?_⟩
    refine PyProof.Rows.isTrue_or (thn (h.run pins s σ H (fun c H1 => c = true ∧ Q true H1) I ?_) fun c s1 ⟨H1, I1, q1, q2⟩ => ?_)
    · obtain ⟨G, E, q⟩ := h'
      exact ⟨G, E, fun H1 G1 s1 E1 => ⟨rfl, q H1 G1 s1 E1⟩⟩
    · subst q1
      exact ⟨H1, I1, q2⟩
theorem de_not {k : Bool} (h : PE X e (tD X.K F Γ (.dat (.bool k)) Γ1)) : PE X (.UnaryOp .Not e pos) (tD X.K F Γ (.dat (.bool (!k))) Γ1) :=
  pe_imp (pe_not h) fun σ H Q ⟨G, E, q⟩ => ⟨G, E, fun v H1 G1 s1 E1 v1 => ⟨k, dp_bl v1, q _ H1 G1 s1 E1 (.bl _)⟩⟩
theorem de_one {op} {r : Rv} (h : PE X a (tD X.K F Γ r Γ1)) : PE X (.BoolOp op [a] pos) (tD X.K F Γ r Γ1) := pe_one h
theorem de_and {k l : Bool} {rest : List Expr} (h : PE X a (tD X.K F Γ (.dat (.bool k)) Γ)) (h2 : k = true → PE X (.BoolOp .And (b :: rest) pos) (tD X.K F Γ (.dat (.bool l)) Γ)) : PE X (.BoolOp .And (a :: b :: rest) pos) (tD X.K F Γ (.dat (.bool (k && l))) Γ) := by
  cases k with
  | true => exact pe_imp (pe_and h (h2 rfl)) fun σ H Q ⟨G, E, q⟩ => ⟨G, E, fun v H1 G1 s1 E1 v1 => ⟨true, dp_bl v1, by
      rw [if_pos rfl]
      exact ⟨G1, E1, fun v H2 G2 s2 E2 v2 => q v H2 G2 (s1.trans s2) E2 v2⟩⟩⟩
  | false =>
    refine ⟨fun pins s σ H Q I h' => ?_⟩
    refine PyProof.Rows.BoolOp_and (thn (h.run pins s σ H (fun v H1 => v = .bl false ∧ Q (.bl false) H1) I ?_) fun v s1 ⟨x, H1, I1, r1, q1, q2⟩ => ?_)
    · obtain ⟨G, E, q⟩ := h'
      exact ⟨G, E, fun v H1 G1 s1 E1 v1 => ⟨dp_bl v1, q _ H1 G1 s1 E1 (.bl _)⟩⟩
    · subst q1
      cases r1
      exact wpAny_truthy_bool ⟨.bl false, H1, I1, rfl, q2⟩
theorem de_if {k : Bool} {r : Rv} (hc : PT X c (tDT X.K F Γ k Γ1)) (h1 : k = true → PE X a (tD X.K F Γ1 r Γ2)) (h2 : k = false → PE X b (tD X.K F Γ1 r Γ2)) : PE X (.IfExp c a b pos) (tD X.K F Γ r Γ2) := by
  refine ⟨fun pins s σ H Q I h => ?_⟩
  obtain ⟨G, E, q⟩ := h
  refine wpAny_IfExp (thn (hc.run pins s σ H (fun d H1 => d = k ∧ ∃ G1, Step σ Γ Γ1 G H G1 H1 ∧ En X.K F G1 σ H1 Γ1) I ⟨G, E, fun H1 G1 s1 E1 => ⟨rfl, G1, s1, E1⟩⟩) fun d s1 ⟨H1, I1, e1, G1, st1, E1⟩ => ?_)
  subst e1
  cases d with
  | true => exact (h1 rfl).run pins s1 σ H1 Q I1 ⟨G1, E1, fun v H2 G2 s2 E2 v2 => q v H2 G2 (st1.trans s2) E2 v2⟩
  | false => exact (h2 rfl).run pins s1 σ H1 Q I1 ⟨G1, E1, fun v H2 G2 s2 E2 v2 => q v H2 G2 (st1.trans s2) E2 v2⟩
theorem da_nil : PA X [] (tDA X.K F Γ [] Γ) := pa_imp pa_nil fun σ H Q ⟨G, E, q⟩ => q [] H G Step.refl E .nil
theorem da_cons {r : Rv} {rs : List Rv} {es : List Expr} (h : PE X a (tD X.K F Γ r Γ1)) (hr : PA X es (tDA X.K F Γ1 rs Γ2)) (hs : starEach (a :: es) X.env = (false, eval a X.env) :: starEach es X.env := by rfl) : PA X (a :: es) (tDA X.K F Γ (r :: rs) Γ2) :=
  pa_imp (pa_cons h hr hs) fun σ H Q ⟨G, E, q⟩ => ⟨G, E, fun v H1 G1 s1 E1 v1 => ⟨G1, E1, fun vs H2 G2 s2 E2 v2 => q (v :: vs) H2 G2 (s1.trans s2) E2 (.cons (v1.mono s2.g) v2)⟩⟩
def datS : List Rv → Option (List PyData)
  | [] => some []
  | .dat d :: r => (datS r).map (d :: ·)
  | .al _ :: _ => none
theorem datS_dp {K : PySem.W.Frag} {G : Hp} {σ : L2.St} : ∀ {vs : List V} {rs : List Rv} {ds : List PyData}, Paired (fun v r => VR K G σ v r) vs rs → datS rs = some ds → DqAll K G vs ds
  | _, _, _, .nil, e => by cases e; exact .nil
  | _, .dat d :: r, _, .cons q t, e => by
    unfold datS at e
    cases z : datS r with
    | none => rw [z] at e; cases e
    | some es =>
      rw [z] at e
      cases e
      exact .cons q (datS_dp t z)
  | _, .al _ :: _, _, .cons _ _, e => by cases e
theorem de_tup {rs : List Rv} {ds : List PyData} {es : List Expr} {x1} (h : PA X es (tDA X.K F Γ rs Γ1)) (hl : ds.length ≤ 100000) (hd : datS rs = some ds := by rfl) : PE X (.Tuple es x1 pos) (tD X.K F Γ (.dat (.tuple ds)) Γ1) :=
  pe_imp (pe_tup h) fun σ H Q ⟨G, E, q⟩ => ⟨G, E, fun vs H1 G1 s1 E1 v1 => by
    have a := datS_dp v1 hd
    refine ⟨by rw [dpa_len a]; exact Nat.le_trans hl (by decide), fun p hp => ?_⟩
    have g := (E1.no hp).2.2
    exact q _ _ _ (s1.trans (Step.newDat hp g)) (E1.newDat hp) (.tup (SqT.of upd_same) (dpa_mono (same_upd g) _ _ a))⟩
theorem dn_lst {rs : List Rv} {ds : List PyData} {es : List Expr} (h : PA X es (tDA X.K F Γ rs Γ1)) (hl : ds.length ≤ 100000) (hd : datS rs = some ds := by rfl) : PE X (.List es pos) (tN X.K F Γ ds Γ1) :=
  pe_imp (pe_lst h) fun σ H Q ⟨G, E, q⟩ => ⟨G, E, fun vs H1 G1 s1 E1 v1 => by
    have a := datS_dp v1 hd
    refine ⟨by rw [dpa_len a]; exact Nat.le_trans hl (by decide), fun p hp => ?_⟩
    exact q p vs _ G1 (s1.trans (Step.newRaw hp)) (E1.newRaw hp) (fre_of s1 E1 hp) (E1.no hp).2.2 upd_same a⟩
theorem own_ne {K : PySem.W.Frag} {G G' H H' : Hp} {σ : L2.St} (s : Step σ Γ Γ1 G H G' H') (E : En K F G σ H Γ) {p : Addr} (h : Nl H p) : ¬ Own σ Γ1 p := fun z => by
  obtain ⟨_, q, vs, e⟩ := E.own (s.o p z)
  exact h _ (ld_hoK q vs) e
theorem de_fz {xs : List PyData} (h : PE X e (tN X.K F Γ xs Γ1)) : PE X e (tD X.K F Γ (.dat (.list xs)) Γ1) :=
  pe_imp h fun σ H Q ⟨G, E, q⟩ => ⟨G, E, fun p vs H1 G1 s1 E1 hp g hl a => by
    have no := own_ne s1 E hp.1
    have sg : Same G1 (upd G1 p (.lst vs)) := same_upd g
    refine q _ H1 (upd G1 p (.lst vs)) ⟨fun x o z => sg x o (s1.g x o z), fun x o z => ?_, s1.k, s1.o, s1.s⟩ (E1.freeze hl g no hp.2) (.lst upd_same (dpa_mono sg _ _ a))
    by_cases w : x = p
    · subst w; exact .inr hp.1
    · rw [upd_ne w] at z; exact s1.f x o z⟩
end
end AM
set_option Elab.async false
set_option linter.all false
set_option maxRecDepth 100000
set_option maxHeartbeats 2000000
namespace AM
open PySem PySem.Spec PyProof.Rows L2
inductive Out where
  | nx (Γ : List Sl)
  | rt (d : PyData) (Γ : List Sl)
  | bk (Γ : List Sl)
  | ct (Γ : List Sl)
  | ex (c : Addr)
def tS (K : PySem.W.Frag) (F : Fx) (W : WX) (Γ : List Sl) (P : Out → Prop) : TS := fun D σ H => ∃ G, En K F G σ H Γ ∧
  (∀ Γ' σ' H' G', P (.nx Γ') → Same G G' → En K F G' σ' H' Γ' → D.nx σ' H') ∧
  (∀ d Γ' v σ' H' G', P (.rt d Γ') → Same G G' → En K F G' σ' H' Γ' → Dq K G' v d → D.rt v H') ∧
  (∀ Γ' σ' H' G', P (.bk Γ') → Same G G' → En K F G' σ' H' Γ' → D.bk σ' H') ∧
  (∀ Γ' σ' H' G', P (.ct Γ') → Same G G' → En K F G' σ' H' Γ' → D.ct σ' H') ∧
  (∀ c Γ' σ' H' G', P (.ex c) → Same G G' → En K F G' σ' H' Γ' → W (.ref c) none σ' H')
def thn' (X : Cx) (F : Fx) (W : WX) (rest : List Stmt) (P : Out → Prop) : Out → Prop
  | .nx Γ => PSs X rest (tS X.K F W Γ P)
  | o => P o
section
variable {X : Cx} {F : Fx} {W : WX} {Γ Γ1 Γ2 : List Sl} {P P' : Out → Prop} {rest body orelse : List Stmt} {e a b c : Expr} {pos pos' : Pos} {d : PyData} {xs : List PyData}
theorem Same.r {H : Hp} : Same H H := fun _ _ h => h
theorem ds_nil (h : P (.nx Γ)) : PSs X [] (tS X.K F W Γ P) := pss_imp pss_nil fun D σ H ⟨G, E, q, _⟩ => q Γ σ H G h Same.r E
theorem ds_seq {s : Stmt} (h : PS X s (tS X.K F W Γ (thn' X F W rest P))) : PSs X (s :: rest) (tS X.K F W Γ P) := by
  have hr : PSs X rest (fun D σ H => ∃ Γ', PSs X rest (tS X.K F W Γ' P) ∧ tS X.K F W Γ' P D σ H) :=
    ⟨fun pins s σ H D I ⟨Γ', p, q⟩ => p.run pins s σ H D I q⟩
  refine pss_imp (pss_cons h hr) fun D σ H ⟨G, E, q1, q2, q3, q4, q5⟩ => ⟨G, E, fun Γ' σ' H' G' p g E' => ⟨Γ', p, G', E', ?_, ?_, ?_, ?_, ?_⟩, q2, q3, q4, q5⟩
  · exact fun Γ'' σ'' H'' G'' p' g' E'' => q1 Γ'' σ'' H'' G'' p' (g.trans g') E''
  · exact fun d Γ'' v σ'' H'' G'' p' g' E'' => q2 d Γ'' v σ'' H'' G'' p' (g.trans g') E''
  · exact fun Γ'' σ'' H'' G'' p' g' E'' => q3 Γ'' σ'' H'' G'' p' (g.trans g') E''
  · exact fun Γ'' σ'' H'' G'' p' g' E'' => q4 Γ'' σ'' H'' G'' p' (g.trans g') E''
  · exact fun c Γ'' σ'' H'' G'' p' g' E'' => q5 c Γ'' σ'' H'' G'' p' (g.trans g') E''
theorem ds_imp {s : List Stmt} (h : PSs X s (tS X.K F W Γ P)) (i : ∀ o, P o → P' o) : PSs X s (tS X.K F W Γ P') :=
  pss_imp h fun D σ H ⟨G, E, q1, q2, q3, q4, q5⟩ => ⟨G, E, fun Γ' σ' H' G' p => q1 Γ' σ' H' G' (i _ p), fun d Γ' v σ' H' G' p => q2 d Γ' v σ' H' G' (i _ p), fun Γ' σ' H' G' p => q3 Γ' σ' H' G' (i _ p), fun Γ' σ' H' G' p => q4 Γ' σ' H' G' (i _ p), fun c Γ' σ' H' G' p => q5 c Γ' σ' H' G' (i _ p)⟩
theorem ds_set (i : Nat) {x : Str} (he : PE X e (tD X.K F Γ (.dat d) Γ1)) (hr : PSs X rest (tS X.K F W (st Γ1 i (.dat d)) P)) (hN : X.N.Nodup) (hi : X.N[i]? = some x := by rfl) (hx : Loc X.env.scope x := by first | exact Or.inl rfl | exact Or.inr rfl) (hl : inb Γ1 i = true := by rfl) (hb : pf F i = true := by rfl)
    (hs : swapsWith e (some (.Name x pos')) pos.line X.env = pure false := by rfl) (hf : X.fn x = true ∨ X.env.scope.names.lookup x = some .local := by first | exact .inl rfl | exact .inr rfl | assumption) :
    PSs X (.Assign [.Name x pos'] e pos :: rest) (tS X.K F W Γ P) :=
  ds_seq (ps_imp (ps_set hN hi hx he hs hf) fun D σ H ⟨G, E, q, _⟩ => ⟨G, E, fun v H1 G1 s1 E1 v1 => q (st Γ1 i (.dat d)) _ H1 G1 hr s1.g (E1.setDat v1 (inb_lt hl) hb)⟩)
theorem ds_ret (he : PE X e (tD X.K F Γ (.dat d) Γ1)) (hp : P (.rt d Γ1)) : PSs X (.Return (some e) pos :: rest) (tS X.K F W Γ P) :=
  ds_seq (ps_imp (ps_ret he) fun D σ H ⟨G, E, _, q, _⟩ => ⟨G, E, fun v H1 G1 s1 E1 v1 => q d Γ1 v σ H1 G1 hp s1.g E1 v1⟩)
theorem ds_drop (i : Nat) (h : PSs X rest (tS X.K F W (st Γ i .no) P)) (hb : pf F i = true := by rfl) : PSs X rest (tS X.K F W Γ P) :=
  pss_imp h fun D σ H ⟨G, E, q⟩ => ⟨G, E.drop i hb, q⟩
theorem ds_if {k : Bool} (hc : PT X c (tDT X.K F Γ k Γ1)) (h1 : k = true → PSs X body (tS X.K F W Γ1 (thn' X F W rest P))) (h2 : k = false → PSs X orelse (tS X.K F W Γ1 (thn' X F W rest P))) : PSs X (.If c body orelse pos :: rest) (tS X.K F W Γ P) := by
  refine ds_seq ?_
  have w1 : PSs X body (fun D σ H => k = true ∧ tS X.K F W Γ1 (thn' X F W rest P) D σ H) := ⟨fun pins s σ H D I ⟨e, q⟩ => (h1 e).run pins s σ H D I q⟩
  have w2 : PSs X orelse (fun D σ H => k = false ∧ tS X.K F W Γ1 (thn' X F W rest P) D σ H) := ⟨fun pins s σ H D I ⟨e, q⟩ => (h2 e).run pins s σ H D I q⟩
  refine ps_imp (ps_if hc w1 w2) fun D σ H ⟨G, E, q1, q2, q3, q4, q5⟩ => ⟨G, E, fun H1 G1 s1 E1 => ?_⟩
  have fin : tS X.K F W Γ1 (thn' X F W rest P) D σ H1 := ⟨G1, E1, fun Γ' σ' H' G' p g => q1 Γ' σ' H' G' p (s1.g.trans g), fun d Γ' v σ' H' G' p g => q2 d Γ' v σ' H' G' p (s1.g.trans g), fun Γ' σ' H' G' p g => q3 Γ' σ' H' G' p (s1.g.trans g), fun Γ' σ' H' G' p g => q4 Γ' σ' H' G' p (s1.g.trans g), fun c Γ' σ' H' G' p g => q5 c Γ' σ' H' G' p (s1.g.trans g)⟩
  cases k with
  | true => exact ⟨rfl, fin⟩
  | false => exact ⟨rfl, fin⟩
theorem ds_par (i j : Nat) {x y : Str} {d1 d2 : PyData} {px py pt : Pos} {kt k2 pt2} (ha : PA X [a, b] (tDA X.K F Γ [.dat d1, .dat d2] Γ1)) (hr : PSs X rest (tS X.K F W (st (st Γ1 i (.dat d1)) j (.dat d2)) P)) (hN : X.N.Nodup) (hi : X.N[i]? = some x := by rfl) (hj : X.N[j]? = some y := by rfl)
    (hc : X.calm = true := by rfl) (hij : i ≠ j := by decide) (hx : X.env.scope.names.lookup x = some .local := by rfl) (hy : X.env.scope.names.lookup y = some .local := by rfl) (hl1 : inb Γ1 i = true := by rfl) (hl2 : inb Γ1 j = true := by rfl) (hb1 : pf F i = true := by rfl) (hb2 : pf F j = true := by rfl)
    (hw : swappedStores [.Tuple [.Name x px, .Name y py] kt pt] (.Tuple [a, b] k2 pt2) X.env = pure (some [x, y]) := by rfl) (hs : swapsWithSole [.Tuple [.Name x px, .Name y py] kt pt] (.Tuple [a, b] k2 pt2) pos.line X.env = pure false := by rfl) :
    PSs X (.Assign [.Tuple [.Name x px, .Name y py] kt pt] (.Tuple [a, b] k2 pt2) pos :: rest) (tS X.K F W Γ P) :=
  ds_seq (ps_imp (ps_par hc hN hi hj hij hx hy ha hw hs) fun D σ H ⟨G, E, q, _⟩ => ⟨G, E, fun vs H1 G1 s1 E1 v1 => by
    cases v1 with
    | cons p1 r1 =>
      cases r1 with
      | cons p2 r2 =>
        cases r2
        exact ⟨_, _, rfl, q _ _ H1 G1 hr s1.g ((E1.setDat p1 (inb_lt hl1) hb1).setDat p2 (by rw [st_length]; exact inb_lt hl2) hb2)⟩⟩)
def loopP (X : Cx) (F : Fx) (W : WX) (rest : List Stmt) (P : Out → Prop) (N : List Sl → Prop) : Out → Prop
  | .nx Γ => N Γ
  | .ct Γ => N Γ
  | .bk Γ => PSs X rest (tS X.K F W Γ P)
  | o => P o
theorem ds_while (V : Nat → List Sl → Prop) (m : Nat) (h0 : V m Γ) (hp : PassesOwn (model X.prog X.w) X.A X.env X.xe)
    (turn : ∀ m Γ, V m Γ → ∃ k Γ1, PT X c (tDT X.K F Γ k Γ1) ∧ (k = true → PSs X body (tS X.K F W Γ1 (loopP X F W rest P fun Γ' => ∃ m', m' < m ∧ V m' Γ'))) ∧ (k = false → PSs X rest (tS X.K F W Γ1 P))) :
    PSs X (.While c body [] pos :: rest) (tS X.K F W Γ P) := by
  refine ds_seq ?_
  have hc : PT X c (fun σ H Q => ∃ m Γ k Γ1, V m Γ ∧ PT X c (tDT X.K F Γ k Γ1) ∧ tDT X.K F Γ k Γ1 σ H Q) := ⟨fun pins s σ H Q I ⟨_, _, _, _, _, p, q⟩ => p.run pins s σ H Q I q⟩
  have hb : PSs X body (fun D σ H => ∃ m Γ1, PSs X body (tS X.K F W Γ1 (loopP X F W rest P fun Γ' => ∃ m', m' < m ∧ V m' Γ')) ∧ tS X.K F W Γ1 (loopP X F W rest P fun Γ' => ∃ m', m' < m ∧ V m' Γ') D σ H) := ⟨fun pins s σ H D I ⟨_, _, p, q⟩ => p.run pins s σ H D I q⟩
  refine ps_imp (ps_while hp hc hb) fun D σ H ⟨G, E, q1, q2, q3, q4, q5⟩ => ?_
  refine ⟨fun m σ H => ∃ Γ G', V m Γ ∧ Same G G' ∧ En X.K F G' σ H Γ, ⟨m, Γ, G, h0, Same.r, E⟩, ?_⟩
  rintro m σ H ⟨Γ, G1, v, sg, E1⟩
  obtain ⟨k, Γ1, pt, hy, hn⟩ := turn m Γ v
  refine ⟨m, Γ, k, Γ1, v, pt, G1, E1, fun H2 G2 s2 E2 => ?_⟩
  cases k with
  | true =>
    rw [if_pos rfl]
    refine ⟨fun σ' H' => ∃ Γ' G', (∃ m', m' < m ∧ V m' Γ') ∧ Same G G' ∧ En X.K F G' σ' H' Γ', fun σ' H' ⟨Γ', G', ⟨m', h1, h2⟩, h3, h4⟩ => ⟨m', h1, Γ', G', h2, h3, h4⟩, m, Γ1, hy rfl, G2, E2, ?_, ?_, ?_, ?_, ?_⟩
    · exact fun Γ' σ' H' G' p g E' => ⟨Γ', G', p, (sg.trans s2.g).trans g, E'⟩
    · exact fun d Γ' v σ' H' G' p g E' => q2 d Γ' v σ' H' G' p ((sg.trans s2.g).trans g) E'
    · exact fun Γ' σ' H' G' p g E' => q1 Γ' σ' H' G' p ((sg.trans s2.g).trans g) E'
    · exact fun Γ' σ' H' G' p g E' => ⟨Γ', G', p, (sg.trans s2.g).trans g, E'⟩
    · exact fun c Γ' σ' H' G' p g E' => q5 c Γ' σ' H' G' p ((sg.trans s2.g).trans g) E'
  | false =>
    rw [if_neg Bool.false_ne_true]
    exact q1 Γ1 σ H2 G2 (hn rfl) (sg.trans s2.g) E2
structure ItD (K : PySem.W.Frag) (G : Hp) (J : It) (ds : List PyData) : Prop where
  go : ∀ i H, Same G H → i < ds.length → J.go i H
  yl : ∀ i H G1 x H', Same G G1 → Same G1 H → i < ds.length → J.yld i H x H' → ∃ d, ds[i]? = some d ∧ ((H' = H ∧ Dq K G1 x d) ∨ ∃ p o, H p = none ∧ NoTb o ∧ H' = upd H p o ∧ Dq K (upd G1 p o) x d)
  stop : ∀ i H, Same G H → ds.length ≤ i → J.stop i H
def tI (K : PySem.W.Frag) (F : Fx) (Γ : List Sl) (ds : List PyData) (Γ' : List Sl) : TI := fun σ H R => ∃ G, En K F G σ H Γ ∧
  ∀ J H' G', Step σ Γ Γ' G H G' H' → En K F G' σ H' Γ' → ItD K G' J ds → R J H'
def tT (K : PySem.W.Frag) (F : Fx) (A : PyData → List Sl → List Sl → Prop) : TG := fun v σ H Q => ∃ G d Γ Γ', A d Γ Γ' ∧ En K F G σ H Γ ∧ Dq K G v d ∧ ∀ σ' H' G', Same G G' → En K F G' σ' H' Γ' → Q σ' H'
theorem ds_for {tg iter : Expr} {ds : List PyData} {A : PyData → List Sl → List Sl → Prop} (V : Nat → List Sl → Prop) (hi : PI X tg iter (tI X.K F Γ ds Γ1)) (hg : PG X tg (tT X.K F A)) (h0 : V 0 Γ1) (hp : PassesOwn (model X.prog X.w) X.A X.env X.xe)
    (turn : ∀ i d Γ, ds[i]? = some d → V i Γ → ∃ Γt, A d Γ Γt ∧ PSs X body (tS X.K F W Γt (loopP X F W rest P (V (i + 1)))))
    (done : ∀ Γ, V ds.length Γ → PSs X rest (tS X.K F W Γ P)) (hc : X.calm = true := by rfl) (hs : ∀ x, foldedSetIterable iter X.env x = pure x := by intro _; rfl) :
    PSs X (.For tg iter body [] pos :: rest) (tS X.K F W Γ P) := by
  refine ds_seq ?_
  have hb : PSs X body (fun D σ H => ∃ i Γt, PSs X body (tS X.K F W Γt (loopP X F W rest P (V (i + 1)))) ∧ tS X.K F W Γt (loopP X F W rest P (V (i + 1))) D σ H) := ⟨fun pins s σ H D I ⟨_, _, p, q⟩ => p.run pins s σ H D I q⟩
  refine ps_imp (ps_for hp hc hi hg hb hs) fun D σ H ⟨G, E, q1, q2, q3, q4, q5⟩ => ⟨G, E, fun J H1 G1 s1 E1 it => ?_⟩
  refine ⟨fun i m σ H => m = ds.length - i ∧ i ≤ ds.length ∧ ∃ Γ G', V i Γ ∧ Same G1 G' ∧ En X.K F G' σ H Γ, ⟨ds.length, by simp, Nat.zero_le _, Γ1, G1, h0, Same.r, E1⟩, ?_⟩
  rintro i m σ H ⟨rfl, hle, Γ, G2, v, sg, E2⟩
  by_cases hlt : i < ds.length
  · refine .inr ⟨it.go i H (sg.trans E2.le) hlt, fun σ' H' => ∃ Γ' G', V (i + 1) Γ' ∧ Same G1 G' ∧ En X.K F G' σ' H' Γ', fun σ' H' ⟨Γ', G', h1, h2, h3⟩ => ⟨ds.length - (i + 1), by omega, rfl, hlt, Γ', G', h1, h2, h3⟩, fun x H' y => ?_⟩
    obtain ⟨d, hd, alt⟩ := it.yl i H G2 x H' sg E2.le hlt y
    obtain ⟨Γt, hA, hbody⟩ := turn i d Γ hd v
    have fin : ∀ G3, Same G2 G3 → En X.K F G3 σ H' Γ → Dq X.K G3 x d → tT X.K F A x σ H' (fun σ2 H2 => ∃ n Γt, PSs X body (tS X.K F W Γt (loopP X F W rest P (V (n + 1)))) ∧ tS X.K F W Γt (loopP X F W rest P (V (n + 1))) { D with nx := fun σ' H' => ∃ Γ' G', V (i + 1) Γ' ∧ Same G1 G' ∧ En X.K F G' σ' H' Γ', ct := fun σ' H' => ∃ Γ' G', V (i + 1) Γ' ∧ Same G1 G' ∧ En X.K F G' σ' H' Γ', bk := D.nx } σ2 H2) := fun G3 s3 E3 d3 => by
      have sg3 : Same G1 G3 := sg.trans s3
      refine ⟨G3, d, Γ, Γt, hA, E3, d3, fun σ4 H4 G4 s4 E4 => ?_⟩
      refine ⟨i, Γt, hbody, ?_⟩
      have sg4 : Same G1 G4 := sg3.trans s4
      have sgG : Same G G4 := s1.g.trans sg4
      refine ⟨G4, E4, ?_, ?_, ?_, ?_, ?_⟩
      · exact fun Γ' σ' H' G' p g E' => ⟨Γ', G', p, sg4.trans g, E'⟩
      · exact fun d Γ' v σ' H' G' p g E' => q2 d Γ' v σ' H' G' p (sgG.trans g) E'
      · exact fun Γ' σ' H' G' p g E' => q1 Γ' σ' H' G' p (sgG.trans g) E'
      · exact fun Γ' σ' H' G' p g E' => ⟨Γ', G', p, sg4.trans g, E'⟩
      · exact fun c Γ' σ' H' G' p g E' => q5 c Γ' σ' H' G' p (sgG.trans g) E'
    rcases alt with ⟨rfl, hx⟩ | ⟨p, o, hp', ho, rfl, hx⟩
    · exact fin G2 Same.r E2 hx
    · exact fin _ (same_upd (E2.no hp').2.2) (E2.newDat hp' ho) hx
  · have e : i = ds.length := by omega
    subst e
    refine .inl ⟨it.stop _ H (sg.trans E2.le) (Nat.le_refl _), q1 Γ σ H G2 (done Γ v) (s1.g.trans sg) E2⟩
def aName (F : Fx) (i : Nat) : PyData → List Sl → List Sl → Prop := fun d Γ Γ' => Γ' = st Γ i (.dat d) ∧ inb Γ i = true ∧ pf F i = true
theorem pt_name (i : Nat) {x : Str} (hN : X.N.Nodup) (hi : X.N[i]? = some x := by rfl) (hx : Loc X.env.scope x := by first | exact Or.inl rfl | exact Or.inr rfl) (hf : X.fn x = true ∨ X.env.scope.names.lookup x = some .local := by first | exact .inl rfl | exact .inr rfl | assumption) : PG X (.Name x pos) (tT X.K F (aName F i)) := by
  have h : PG X (.Name x pos) (gName i) := pg_name hN hi hx hf
  refine ⟨fun pins s σ H v u Q I r ⟨G, d, Γ, Γ', ⟨e, hl, hb⟩, E, hd, q⟩ => h.run pins s σ H v u Q I r ?_⟩
  subst e
  exact q _ H G Same.r (E.setDat hd (inb_lt hl) hb)
theorem itd_list {K : PySem.W.Frag} {G : Hp} {p : Addr} {vs : List V} {ds : List PyData} (hq : Rd G p (.lst vs)) (ha : DqAll K G vs ds) : ItD K G (Itl K p) ds where
  go := fun i H e hi => by
    obtain ⟨v, hv, _⟩ := dpa_get (i := i) ha (List.getElem?_eq_getElem hi)
    exact ⟨vs, v, .inl (rd_mono e hq), hv⟩
  yl := fun i H G1 x H' e1 e2 hi ⟨rfl, y⟩ => by
    obtain ⟨v, hv, hd⟩ := dpa_get (i := i) ha (List.getElem?_eq_getElem hi)
    have : x = v := Option.some.inj ((y vs (.inl (rd_mono (e1.trans e2) hq))).symm.trans hv)
    subst this
    exact ⟨_, List.getElem?_eq_getElem hi, .inl ⟨rfl, dp_mono e1 _ _ hd⟩⟩
  stop := fun i H e hi => ⟨vs, .inl (rd_mono e hq), by rw [dpa_len ha]; exact hi⟩
theorem itd_tup {K : PySem.W.Frag} {G : Hp} {p : Addr} {vs : List V} {ds : List PyData} (hq : SqT K G p vs) (ha : DqAll K G vs ds) : ItD K G (Itt K p) ds where
  go := fun i H e hi => by
    obtain ⟨v, hv, _⟩ := dpa_get (i := i) ha (List.getElem?_eq_getElem hi)
    exact ⟨vs, v, sqT_mono e hq, hv⟩
  yl := fun i H G1 x H' e1 e2 hi ⟨rfl, y⟩ => by
    obtain ⟨v, hv, hd⟩ := dpa_get (i := i) ha (List.getElem?_eq_getElem hi)
    have : x = v := Option.some.inj ((y vs (sqT_mono (e1.trans e2) hq)).symm.trans hv)
    subst this
    exact ⟨_, List.getElem?_eq_getElem hi, .inl ⟨rfl, dp_mono e1 _ _ hd⟩⟩
  stop := fun i H e hi => ⟨vs, sqT_mono e hq, by rw [dpa_len ha]; exact hi⟩
theorem di_list {tg : Expr} {ds : List PyData} (h : PE X e (tD X.K F Γ (.dat (.list ds)) Γ1)) : PI X tg e (tI X.K F Γ ds Γ1) := by
  have h1 : PI X tg e _ := pi_list h
  refine ⟨fun pins s σ H R I ⟨G, E, q⟩ => h1.run pins s σ H R I ⟨G, E, fun v H1 G1 s1 E1 v1 => ?_⟩⟩
  obtain ⟨p, vs, rfl, hq, ha⟩ := dp_lst v1
  exact ⟨p, rfl, ⟨vs, .inl (rd_mono E1.le (.inl hq))⟩, q _ H1 G1 s1 E1 (itd_list (.inl hq) ha)⟩
theorem di_tup {tg : Expr} {ds : List PyData} (h : PE X e (tD X.K F Γ (.dat (.tuple ds)) Γ1)) : PI X tg e (tI X.K F Γ ds Γ1) := by
  have h1 : PI X tg e _ := pi_tup h
  refine ⟨fun pins s σ H R I ⟨G, E, q⟩ => h1.run pins s σ H R I ⟨G, E, fun v H1 G1 s1 E1 v1 => ?_⟩⟩
  obtain ⟨p, vs, rfl, hq, ha⟩ := dp_tup v1
  exact ⟨p, rfl, ⟨vs, sqT_mono E1.le hq⟩, q _ H1 G1 s1 E1 (itd_tup hq ha)⟩
end
inductive Res where
  | ok (d : PyData)
  | ex (c : Addr)
structure Grown (G H G' H' : Hp) : Prop where
  h : Same H H'
  g : Same G G'
  le : Same G' H'
  f : ∀ a o, G' a = some o → (∃ o', G a = some o') ∨ H a = none
  nt : NT G'
def spP (K : PySem.W.Frag) (R : List PyData → Res → Prop) : Sp := fun vs H Q E => ∃ G ds r, Same G H ∧ NT G ∧ DqAll K G vs ds ∧ R ds r ∧
  match r with
  | .ok d => ∀ v H' G', Grown G H G' H' → Dq K G' v d → Q v H'
  | .ex c => ∀ H', Same H H' → E (.ref c) none H'
def wantP : Res → Out → Prop
  | .ok d, .rt d' _ => d' = d
  | .ok d, .nx _ => d = .none
  | .ex c, .ex c' => c' = c
  | _, _ => False
def startG (N : Nat) (ds : List PyData) : List Sl := ds.map .dat ++ List.replicate (N - ds.length) .no
theorem lk_start (N : Nat) : ∀ (ds : List PyData) (i : Nat), lk (ds.map Sl.dat ++ List.replicate (N - ds.length) .no) i = (match ds[i]? with | some d => .dat d | none => .no) := by
  have big : ∀ (n i : Nat), lk (List.replicate n Sl.no) i = .no := by
    intro n
    induction n with
    | zero => intro i; rfl
    | succ n ih =>
      intro i
      cases i with
      | zero => rfl
      | succ i => exact ih i
  have gen : ∀ (m : Nat) (ds : List PyData) (i : Nat), lk (ds.map Sl.dat ++ List.replicate m .no) i = (match ds[i]? with | some d => .dat d | none => .no) := by
    intro m ds
    induction ds with
    | nil => intro i; simpa using big m i
    | cons d ds ih =>
      intro i
      cases i with
      | zero => rfl
      | succ i => simpa [lk] using ih i
  exact fun ds i => gen _ ds i
section
variable {P : Program} {w : World} {K : PySem.W.Frag} {mg : Str → Option Value} {base : Heap}
def fx0 (H G : Hp) : Fx := ⟨[], H, G, []⟩
theorem fx0_M {H G : Hp} {a : Addr} : ¬ (fx0 H G).M a := fun h => by
  rcases h with ⟨_, h⟩ | ⟨_, h⟩ <;> cases h
theorem env_start {G H : Hp} {vs : List V} {ds : List PyData} {N : List Str} (sg : Same G H) (nt : NT G) (ha : DqAll K G vs ds) (hl : ds.length ≤ N.length) : En K (fx0 H G) G (L2.start N vs) H (startG N.length ds) where
  le := sg
  g0 := Same.r
  fr := fun a o h => .inl ⟨o, h⟩
  base := fun a o _ h => h
  mu := fun a z => (fx0_M z).elim
  sl := fun i => by
    unfold startG
    rw [lk_start]
    cases q : ds[i]? with
    | none => trivial
    | some d =>
      obtain ⟨v, hv, hd⟩ := dpa_get ha q
      refine ⟨v, ?_, hd⟩
      unfold L2.start
      rw [List.getElem?_append_left (by have := (List.getElem?_eq_some_iff.mp hv).1; simpa using this), List.getElem?_map, hv]
      rfl
  nd := fun i j p xs ys e1 => by
    unfold startG at e1
    rw [lk_start] at e1
    cases q : ds[i]? <;> rw [q] at e1 <;> cases e1
  len := by
    have e := dpa_len ha
    simp [L2.start, startG, e]
  pin := fun q hq => by cases hq
  tab := fun q hq => by cases hq
  nt := nt
structure FunG (K : PySem.W.Frag) (x qual : Str) (st : Stmt) (f : Addr) (fd : FuncData) : Prop where
  ex : ∃ (oc : Value) (od : Option Addr) (dV kV doc pm : Value) (an : Option Addr) (cdv ct : Value) (osl : Array (Option Value)),
    fd = PySem.W.fnOf x qual (defArgs st) (defBody st) (defScope st) dV kV doc pm an cdv ct ∧ K.lookup f = some ⟨oc, od, .func fd, osl⟩ ∧ PySem.W.codeIn K cdv qual = true
  kp : PySem.W.keepIn K (.ref f) = true
theorem FunG.okX {x qual : Str} {st : Stmt} {f : Addr} {fd : FuncData} {N ps : List Str} {k : Nat} {sp : Sp} (F : FunG K x qual st f fd) (S : FnScope N ps (defScope st)) (len : ∀ vs H Q E, sp vs H Q E → vs.length = ps.length)
    (hbody : ∀ (cdv : Value) (A : Around) (outer : List PySem.Env) (s : Shared) (H : Hp) (vs : List V) (Q : VK) (E : XK), Room k (A.deeper (envOfC qual (defScope st) s.heap.objs.size f cdv)) → sp vs H Q E →
      ∃ t, PSs (cxOf (L2.CX P w) P w K mg base N qual (defScope st) f cdv A outer s H E) (defBody st) t ∧ t { nx := fun _ H' => Q .non H', rt := Q } (L2.start N vs) H) : FnOk P w K mg base (L2.CX P w) (k + 1) f fd ps sp := by
  obtain ⟨oc, od, dV, kV, doc, pm, an, cdv, ct, osl, rfl, lk, hcd⟩ := F.ex
  exact fn_of lk hcd S len fun A outer s H vs Q E hr hsp => hbody cdv A outer s H vs Q E hr hsp
theorem fun_g {x qual : Str} {st : Stmt} {f : Addr} {fd : FuncData} (F : Fun K x qual st f fd) : FunG K x qual st f fd := by
  obtain ⟨oc, od, kV, doc, pm, an, cdv, ct, osl, e, lk, hcd⟩ := F.ex
  exact ⟨⟨oc, od, .none, kV, doc, pm, an, cdv, ct, osl, e, lk, hcd⟩, F.kp⟩
theorem fn_pure {x qual : Str} {st : Stmt} {f : Addr} {fd : FuncData} {N ps : List Str} {k : Nat} {R : List PyData → Res → Prop} (Fn : FunG K x qual st f fd) (S : FnScope N ps (defScope st)) (len : ∀ ds r, R ds r → ds.length = ps.length) (hle : ps.length ≤ N.length)
    (body : ∀ (cdv : Value) (A : Around) (outer : List PySem.Env) (s : Shared) (H G : Hp) (E : XK) (ds : List PyData) (r : Res), Room k (A.deeper (envOfC qual (defScope st) s.heap.objs.size f cdv)) → R ds r →
      PSs (cxOf (L2.CX P w) P w K mg base N qual (defScope st) f cdv A outer s H E) (defBody st) (tS K (fx0 H G) (fun c d _ H => E c d H) (startG N.length ds) (wantP r))) : FnOk P w K mg base (L2.CX P w) (k + 1) f fd ps (spP K R) := by
  refine Fn.okX S (fun vs H Q E h => ?_) (fun cdv A outer s H vs Q E hr h => ?_)
  · obtain ⟨G, ds, r, _, _, ha, hR, _⟩ := h
    rw [dpa_len ha]; exact len _ _ hR
  · obtain ⟨G, ds, r, sg, nt, ha, hR, q⟩ := h
    refine ⟨_, body cdv A outer s H G E ds r hr hR, ?_⟩
    have E0 := env_start (K := K) (N := N) sg nt ha (by rw [len _ _ hR]; exact hle)
    have gr : ∀ {σ' H' G' Γ'}, Same G G' → En K (fx0 H G) G' σ' H' Γ' → Grown G H G' H' := fun g E' => ⟨fun a o h => E'.base a o fx0_M h, g, E'.le, E'.fr, E'.nt⟩
    refine ⟨G, E0, ?_, ?_, ?_, ?_, ?_⟩
    · intro Γ' σ' H' G' p g E'
      cases r with
      | ok d =>
        have : d = .none := p
        subst this
        exact q .non H' G' (gr g E') .non
      | ex c => exact p.elim
    · intro d' Γ' v σ' H' G' p g E' hd
      cases r with
      | ok d =>
        have : d' = d := p
        subst this
        exact q v H' G' (gr g E') hd
      | ex c => exact p.elim
    · intro Γ' σ' H' G' p
      cases r <;> exact p.elim
    · intro Γ' σ' H' G' p
      cases r <;> exact p.elim
    · intro c Γ' σ' H' G' p g E'
      cases r with
      | ok d => exact p.elim
      | ex c' =>
        have : c = c' := p
        subst this
        exact q H' (gr g E').h
end
section
variable {X : Cx} {F : Fx} {W : WX} {Γ Γ1 Γ2 : List Sl} {a e : Expr} {es : List Expr} {pos p : Pos} {k : Nat} {f : Addr} {fd : FuncData} {ps : List Str} {x : Str} {R : List PyData → Res → Prop} {rs : List Rv} {ds : List PyData} {d : PyData}
theorem En.grown {K : PySem.W.Frag} {G H G' H' : Hp} {σ : L2.St} (E : En K F G σ H Γ) (g : Grown G H G' H') : En K F G' σ H' Γ where
  le := g.le
  g0 := fun a o h => g.g a o (E.g0 a o h)
  fr := fun a o h => by
    rcases g.f a o h with ⟨o', h'⟩ | h'
    · exact E.fr a o' h'
    · exact .inr (E.no h').1
  base := fun a o n h => g.h a o (E.base a o n h)
  mu := fun a m => by
    obtain ⟨o, h⟩ := E.mu a m
    exact ⟨o, g.h a o h⟩
  sl := fun i => by
    have s := E.sl i
    cases q : lk Γ i with
    | no => trivial
    | dat d => rw [q] at s; obtain ⟨v, e, hd⟩ := s; exact ⟨v, e, dp_mono g.g _ _ hd⟩
    | own xs =>
      rw [q] at s
      obtain ⟨p, vs, e, gp, hp, ha, hm⟩ := s
      refine ⟨p, vs, e, ?_, g.h _ _ hp, dpa_mono g.g _ _ ha, hm⟩
      cases z : G' p with
      | none => rfl
      | some o =>
        rcases g.f p o z with ⟨o', h'⟩ | h'
        · rw [gp] at h'; cases h'
        · rw [hp] at h'; cases h'
    | dct ks xs =>
      rw [q] at s
      obtain ⟨p, vs, e, gp, hp, ha, hm⟩ := s
      refine ⟨p, vs, e, ?_, g.h _ _ hp, dpa_mono g.g _ _ ha, hm⟩
      cases z : G' p with
      | none => rfl
      | some o =>
        rcases g.f p o z with ⟨o', h'⟩ | h'
        · rw [gp] at h'; cases h'
        · rw [hp] at h'; cases h'
    | dcl p0 ob0 vs0 ks xs =>
      rw [q] at s
      obtain ⟨p, vs, e, gp, ⟨ob, hp⟩, ha, hm⟩ := s
      refine ⟨p, vs, e, ?_, ⟨ob, g.h _ _ hp⟩, dpa_mono g.g _ _ ha, hm⟩
      cases z : G' p with
      | none => rfl
      | some o =>
        rcases g.f p o z with ⟨o', h'⟩ | h'
        · rw [gp] at h'; cases h'
        · rw [hp] at h'; cases h'
  nd := E.nd
  len := E.len
  pin := E.pin
  tab := E.tab.ext g.h
  nt := g.nt
theorem Grown.step {G H G' H' : Hp} {σ : L2.St} (g : Grown G H G' H') : Step σ Γ Γ G H G' H' := ⟨g.g, fun a o h => (g.f a o h).imp id Nl.none, fun a o h _ _ => g.h a o h, fun _ h => h, fun a o l h => ⟨o, l, g.h a _ h⟩⟩
theorem de_call (Gf : FnOk X.prog X.w X.K X.mg X.base (L2.CX X.prog X.w) k f fd ps (spP X.K R)) (hr : Room k X.A) (hm : X.mg x = some (.ref f)) (hk : PySem.W.keepIn X.K (.ref f) = true) (hb : Binds X.K fd ps []) (ha : PA X (e :: es) (tDA X.K F Γ rs Γ1)) (hR : R ds (.ok d)) (hd : datS rs = some ds := by rfl)
    (hg : Gl X x := by rfl) (hdb : (x == ("__debug__" : Str)) = false := by decide) (he : starEach (e :: es) X.env = (false, eval e X.env) :: starEach es X.env := by rfl) (hpl : (backTo pos (starEach es X.env)).any (·.1) = false := by rfl) :
    PE X (.Call (.Name x p) (e :: es) [] pos) (tD X.K F Γ (.dat d) Γ1) :=
  pe_imp (pe_callS (E := WE fun _ _ _ _ => False) Gf hr hg hm hk hb (fun σ => passAt takes0 σ) ha hdb he hpl) fun σ H Q ⟨G, E, q⟩ => ⟨G, E, fun vs H1 G1 s1 E1 v1 =>
    ⟨G1, ds, .ok d, E1.le, E1.nt, datS_dp v1 hd, hR, fun v H' G' g hv => q v H' G' (s1.trans g.step) (E1.grown g) hv⟩⟩
end
end AM
set_option Elab.async false
set_option linter.all false
set_option maxRecDepth 100000
set_option maxHeartbeats 2000000
namespace AM
open PySem PySem.Spec PyProof.Rows L2
section
variable {X : Cx} {F : Fx} {W : WX} {Γ Γ1 Γ2 : List Sl} {P : Out → Prop} {rest body orelse : List Stmt} {e a b c : Expr} {es : List Expr} {pos pos' p p2 : Pos} {d da db : PyData} {ra rb rc : Rv} {rs : List Rv} {xs ds : List PyData} {x : Str}
def RDC (K : PySem.W.Frag) (F : Fx) (Γ : List Sl) (r : List V → Hp → VK → Prop) (rs : List Rv) (rc : Rv) : Prop := ∀ G H σ vs (Q : VK), En K F G σ H Γ → Paired (fun v r => VR K G σ v r) vs rs →
  (∀ v H' G', Step σ Γ Γ G H G' H' → En K F G' σ H' Γ → VR K G' σ v rc → Q v H') → r vs H Q
theorem td_cb {K : PySem.W.Frag} {r : List V → Hp → VK → Prop} (h : RDC K F Γ1 r rs rc) {σ : L2.St} {H : Hp} {Q : VK} (q : tD K F Γ rc Γ1 σ H Q) : tCB r (tDA K F Γ rs Γ1) σ H Q := by
  obtain ⟨G, E, k⟩ := q
  exact ⟨G, E, fun vs H1 G1 s1 E1 v1 => h G1 H1 σ vs Q E1 v1 fun v H2 G2 s2 E2 v2 => k v H2 G2 (s1.trans s2) E2 v2⟩
theorem de_callB {id : String} {r : List V → Hp → VK → Prop} (hc : CallR X (.builtin id) r) (h : RDC X.K F Γ1 r rs rc) (ha : PA X (e :: es) (tDA X.K F Γ rs Γ1)) (hm : X.mg x = none) (hv : bootBuiltins x = some (.builtin id)) (hg : Gl X x := by rfl) (hn : x ≠ "__name__" := by decide) (hdb : (x == ("__debug__" : Str)) = false := by decide)
    (he : starEach (e :: es) X.env = (false, eval e X.env) :: starEach es X.env := by rfl) (hpl : (backTo pos (starEach es X.env)).any (·.1) = false := by rfl) : PE X (.Call (.Name x p) (e :: es) [] pos) (tD X.K F Γ rc Γ1) :=
  pe_imp (pe_callB hc hg hm hv ha hn hdb he hpl) fun _ _ _ q => td_cb h q
theorem de_callTy {id : String} {r : List V → Hp → VK → Prop} (hc : CallR X (.type id) r) (h : RDC X.K F Γ1 r rs rc) (ha : PA X (e :: es) (tDA X.K F Γ rs Γ1)) (hm : X.mg x = none) (hv : bootBuiltins x = some (.type id)) (hg : Gl X x := by rfl) (hn : x ≠ "__name__" := by decide) (hdb : (x == ("__debug__" : Str)) = false := by decide)
    (he : starEach (e :: es) X.env = (false, eval e X.env) :: starEach es X.env := by rfl) (hpl : (backTo pos (starEach es X.env)).any (·.1) = false := by rfl) : PE X (.Call (.Name x p) (e :: es) [] pos) (tD X.K F Γ rc Γ1) :=
  pe_imp (pe_callTy hc hg hm hv ha hn hdb he hpl) fun _ _ _ q => td_cb h q
section
variable {K : PySem.W.Frag}
theorem paired1 {α β : Type} {R : α → β → Prop} {vs : List α} {r : β} (h : Paired R vs [r]) : ∃ v, vs = [v] ∧ R v r := by
  cases h with
  | cons p q => cases q; exact ⟨_, rfl, p⟩
theorem paired2 {α β : Type} {R : α → β → Prop} {vs : List α} {r r2 : β} (h : Paired R vs [r, r2]) : ∃ v w, vs = [v, w] ∧ R v r ∧ R w r2 := by
  cases h with
  | cons p q => cases q with
    | cons p2 q => cases q; exact ⟨_, _, rfl, p, p2⟩
theorem paired3 {α β : Type} {R : α → β → Prop} {vs : List α} {r r2 r3 : β} (h : Paired R vs [r, r2, r3]) : ∃ v w u, vs = [v, w, u] ∧ R v r ∧ R w r2 ∧ R u r3 := by
  cases h with
  | cons p q => cases q with
    | cons p2 q => cases q with
      | cons p3 q => cases q; exact ⟨_, _, _, rfl, p, p2, p3⟩
theorem rc_abs {i : Int} : RDC K F Γ (fun xs H Q => ∃ i, xs = [.int i] ∧ Q (.int (if i < 0 then -i else i)) H) [.dat (.int i)] (.dat (.int (i.natAbs : Int))) := fun G H σ vs Q E pv k => by
  obtain ⟨v, rfl, h⟩ := paired1 pv
  refine ⟨i, by rw [dp_int h], k _ H G Step.refl E ?_⟩
  have : (if i < 0 then -i else i) = (i.natAbs : Int) := by split <;> omega
  rw [this]
  exact .int _
theorem seq_of {G H : Hp} {σ : L2.St} (E : En K F G σ H Γ) {v : V} (h : VR K G σ v ra) (va : vw Γ ra = some da) (hs : sqOf da = some ds) :
    ∃ p vs, v = .ref p ∧ ((da = .list ds ∧ Rd H p (.lst vs)) ∨ (da = .tuple ds ∧ SqT K H p vs)) ∧ DqAll K G vs ds := by
  cases ra with
  | dat d' =>
    have : d' = da := Option.some.inj va
    subst this
    have h : Dq K G v d' := h
    cases h with
    | lst q al => cases hs; exact ⟨_, _, rfl, .inl ⟨rfl, rd_mono E.le (.inl q)⟩, al⟩
    | tup q al => cases hs; exact ⟨_, _, rfl, .inr ⟨rfl, sqT_mono E.le q⟩, al⟩
    | _ => cases hs
  | al j =>
    have s := E.sl j
    have va : vwS (lk Γ j) = some da := va
    have h : σ[j]? = some (some v) := h
    cases q : lk Γ j with
    | no => rw [q] at va; cases va
    | dat d' =>
      rw [q] at va s
      have : d' = da := Option.some.inj va
      subst this
      obtain ⟨v', e1, hd'⟩ := s
      rw [h] at e1
      cases e1
      clear q
      cases hd' with
      | lst q al => cases hs; exact ⟨_, _, rfl, .inl ⟨rfl, rd_mono E.le (.inl q)⟩, al⟩
      | tup q al => cases hs; exact ⟨_, _, rfl, .inr ⟨rfl, sqT_mono E.le q⟩, al⟩
      | _ => cases hs
    | own ys =>
      rw [q] at va s
      have : PyData.list ys = da := Option.some.inj va
      subst this
      cases hs
      obtain ⟨p, vs, e1, g, hp, ha, _⟩ := s
      rw [h] at e1
      cases e1
      exact ⟨p, vs, rfl, .inl ⟨rfl, .inl hp⟩, ha⟩
    | dct ks ys => rw [q] at va; cases va
    | dcl p0 ob0 vs0 ks ys => rw [q] at va; cases va
theorem rc_len (va : vw Γ ra = some da) (hs : sqOf da = some ds) : RDC K F Γ (fun xs H Q => ∃ p ys, xs = [.ref p] ∧ (SqL K H p ys ∨ SqT K H p ys) ∧ Q (.int ys.length) H) [ra] (.dat (.int (ds.length : Int))) := fun G H σ vs Q E pv k => by
  obtain ⟨v, rfl, h⟩ := paired1 pv
  obtain ⟨p, vs, rfl, alt, al⟩ := seq_of E h va hs
  refine ⟨p, vs, rfl, ?_, k _ H G Step.refl E ?_⟩
  · rcases alt with ⟨_, q⟩ | ⟨_, q⟩
    · exact .inl (.inl q)
    · exact .inr q
  · rw [dpa_len al]; exact .int _
theorem rc_all {bs : List Bool} (va : vw Γ ra = some (.list (bs.map .bool))) : RDC K F Γ (rAll K) [ra] (.dat (.bool (bs.all id))) := fun G H σ vs Q E pv k => by
  obtain ⟨v, rfl, h⟩ := paired1 pv
  obtain ⟨p, vs, rfl, alt, al⟩ := seq_of E h va rfl
  rcases alt with ⟨_, q⟩ | ⟨e, _⟩
  · rw [dpa_bls al] at q
    exact ⟨p, bs, rfl, .inl q, k _ H G Step.refl E (.bl _)⟩
  · cases e
end
theorem de_abs {i : Int} (ha : PE X a (tD X.K F Γ (.dat (.int i)) Γ1)) (hm : X.mg "abs" = none) (hg : Gl X "abs" := by rfl) (he : starEach [a] X.env = (false, eval a X.env) :: starEach [] X.env := by rfl) : PE X (.Call (.Name "abs" p) [a] [] pos) (tD X.K F Γ (.dat (.int (i.natAbs : Int))) Γ1) :=
  de_callB call_abs rc_abs (da_cons ha da_nil he) hm (by decide +kernel) hg (he := he)
theorem de_len (ha : PE X a (tD X.K F Γ ra Γ1)) (hm : X.mg "len" = none) (va : vw Γ1 ra = some da := by rfl) (hs : sqOf da = some ds := by rfl) (hg : Gl X "len" := by rfl) (he : starEach [a] X.env = (false, eval a X.env) :: starEach [] X.env := by rfl) : PE X (.Call (.Name "len" p) [a] [] pos) (tD X.K F Γ (.dat (.int (ds.length : Int))) Γ1) :=
  de_callB call_len_seq (rc_len va hs) (da_cons ha da_nil he) hm PySem.boot_len hg (he := he)
theorem de_all {bs : List Bool} (ha : PE X a (tD X.K F Γ ra Γ1)) (hm : X.mg "all" = none) (va : vw Γ1 ra = some (.list (bs.map .bool)) := by rfl) (hc : X.calm = true := by rfl) (hg : Gl X "all" := by rfl) (he : starEach [a] X.env = (false, eval a X.env) :: starEach [] X.env := by rfl) : PE X (.Call (.Name "all" p) [a] [] pos) (tD X.K F Γ (.dat (.bool (bs.all id))) Γ1) :=
  de_callB (cr_all hc) (rc_all va) (da_cons ha da_nil he) hm (by decide +kernel) hg (he := he)
def tyD : PyData → String
  | .none => "NoneType"
  | .bool _ => "bool"
  | .int _ => "int"
  | .str _ => "str"
  | .list _ => "list"
  | .tuple _ => "tuple"
  | .dict _ => "dict"
def isiD (T : String) (d : PyData) : Bool := (kitB (tyD d) T).getD false
theorem kit_isi (T : String) (hT : T = "int" ∨ T = "bool" ∨ T = "str" ∨ T = "list" ∨ T = "tuple") (d : PyData) : kitB (tyD d) T = some (isiD T d) := by
  have key : ∀ T ∈ ["int", "bool", "str", "list", "tuple"], ∀ U ∈ ["NoneType", "bool", "int", "str", "list", "tuple", "dict"], kitB U T = some ((kitB U T).getD false) := by decide +kernel
  have hU : tyD d ∈ ["NoneType", "bool", "int", "str", "list", "tuple", "dict"] := by cases d <;> simp [tyD]
  exact key T (by rcases hT with h | h | h | h | h <;> simp [h]) _ hU
theorem dq_ty {K : PySem.W.Frag} {H : Hp} {v : V} (h : Dq K H v d) : ∃ t, TyX K H v t ∧ ∀ T : String, (T = "int" ∨ T = "bool" ∨ T = "str" ∨ T = "list" ∨ T = "tuple") → PySem.W.kitOne K t (.type T) = some (isiD T d) := by
  have b : ∀ d : PyData, ∀ T : String, (T = "int" ∨ T = "bool" ∨ T = "str" ∨ T = "list" ∨ T = "tuple") → PySem.W.kitOne K (.type (tyD d)) (.type T) = some (isiD T d) := fun d T hT => kit_ty (kit_isi T hT d)
  cases h with
  | non => exact ⟨_, .base .non, b .none⟩
  | bl b' => exact ⟨_, .base (.bl b'), b (.bool b')⟩
  | int i => exact ⟨_, .base (.int i), b (.int i)⟩
  | str x => exact ⟨_, .base (.str x), b (.str x)⟩
  | lst q _ => exact ⟨_, .base (.lst q), b (.list _)⟩
  | tup q _ =>
    rcases q with (q | ⟨o, q⟩) | ⟨o, its, n, h1, h2, _⟩
    · exact ⟨_, .base (.tup q), b (.tuple _)⟩
    · exact ⟨_, .fTuple q, b (.tuple _)⟩
    · exact ⟨_, .kTuple h1 h2, b (.tuple _)⟩
  | dk q _ => exact ⟨_, .base (.dK q), b (.dict _)⟩
  | ins oc q _ =>
    refine ⟨_, .base (.ins q oc.cl oc.ha oc.hn oc.htk oc.hm), fun T hT => ?_⟩
    rw [oc.kit T (by rcases hT with h | h | h | h | h <;> simp [h])]
    rcases hT with h | h | h | h | h <;> subst h
    · exact congrArg some (by decide +kernel : (kitB "dict" "int").getD false = false).symm
    · exact congrArg some (by decide +kernel : (kitB "dict" "bool").getD false = false).symm
    · exact congrArg some (by decide +kernel : (kitB "dict" "str").getD false = false).symm
    · exact congrArg some (by decide +kernel : (kitB "dict" "list").getD false = false).symm
    · exact congrArg some (by decide +kernel : (kitB "dict" "tuple").getD false = false).symm
def isI : PyData → Bool
  | .bool _ => true
  | .int _ => true
  | _ => false
def isB : PyData → Bool
  | .bool _ => true
  | _ => false
def isS : PyData → Bool
  | .str _ => true
  | _ => false
def isL : PyData → Bool
  | .list _ => true
  | _ => false
def isT : PyData → Bool
  | .tuple _ => true
  | _ => false
theorem isi_int (d : PyData) : isiD "int" d = isI d := by
  cases d with
  | none => exact (by decide +kernel : (kitB "NoneType" "int").getD false = false)
  | bool b => exact (by decide +kernel : (kitB "bool" "int").getD false = true)
  | int i => exact (by decide +kernel : (kitB "int" "int").getD false = true)
  | str x => exact (by decide +kernel : (kitB "str" "int").getD false = false)
  | list l => exact (by decide +kernel : (kitB "list" "int").getD false = false)
  | tuple l => exact (by decide +kernel : (kitB "tuple" "int").getD false = false)
  | dict l => exact (by decide +kernel : (kitB "dict" "int").getD false = false)
theorem isi_bool (d : PyData) : isiD "bool" d = isB d := by
  cases d with
  | none => exact (by decide +kernel : (kitB "NoneType" "bool").getD false = false)
  | bool b => exact (by decide +kernel : (kitB "bool" "bool").getD false = true)
  | int i => exact (by decide +kernel : (kitB "int" "bool").getD false = false)
  | str x => exact (by decide +kernel : (kitB "str" "bool").getD false = false)
  | list l => exact (by decide +kernel : (kitB "list" "bool").getD false = false)
  | tuple l => exact (by decide +kernel : (kitB "tuple" "bool").getD false = false)
  | dict l => exact (by decide +kernel : (kitB "dict" "bool").getD false = false)
theorem isi_str (d : PyData) : isiD "str" d = isS d := by
  cases d with
  | none => exact (by decide +kernel : (kitB "NoneType" "str").getD false = false)
  | bool b => exact (by decide +kernel : (kitB "bool" "str").getD false = false)
  | int i => exact (by decide +kernel : (kitB "int" "str").getD false = false)
  | str x => exact (by decide +kernel : (kitB "str" "str").getD false = true)
  | list l => exact (by decide +kernel : (kitB "list" "str").getD false = false)
  | tuple l => exact (by decide +kernel : (kitB "tuple" "str").getD false = false)
  | dict l => exact (by decide +kernel : (kitB "dict" "str").getD false = false)
theorem isi_list (d : PyData) : isiD "list" d = isL d := by
  cases d with
  | none => exact (by decide +kernel : (kitB "NoneType" "list").getD false = false)
  | bool b => exact (by decide +kernel : (kitB "bool" "list").getD false = false)
  | int i => exact (by decide +kernel : (kitB "int" "list").getD false = false)
  | str x => exact (by decide +kernel : (kitB "str" "list").getD false = false)
  | list l => exact (by decide +kernel : (kitB "list" "list").getD false = true)
  | tuple l => exact (by decide +kernel : (kitB "tuple" "list").getD false = false)
  | dict l => exact (by decide +kernel : (kitB "dict" "list").getD false = false)
theorem isi_tuple (d : PyData) : isiD "tuple" d = isT d := by
  cases d with
  | none => exact (by decide +kernel : (kitB "NoneType" "tuple").getD false = false)
  | bool b => exact (by decide +kernel : (kitB "bool" "tuple").getD false = false)
  | int i => exact (by decide +kernel : (kitB "int" "tuple").getD false = false)
  | str x => exact (by decide +kernel : (kitB "str" "tuple").getD false = false)
  | list l => exact (by decide +kernel : (kitB "list" "tuple").getD false = false)
  | tuple l => exact (by decide +kernel : (kitB "tuple" "tuple").getD false = true)
  | dict l => exact (by decide +kernel : (kitB "dict" "tuple").getD false = false)
theorem de_isi (T : String) (hT : T = "int" ∨ T = "bool" ∨ T = "str" ∨ T = "list" ∨ T = "tuple") {t : Str} (ha : PE X a (tD X.K F Γ ra Γ1)) (hm : X.mg "isinstance" = none) (hmT : X.mg t = none) (hvT : bootBuiltins t = some (.type T)) (va : vw Γ1 ra = some da := by rfl)
    (hg : Gl X "isinstance" := by rfl) (hgT : Gl X t := by rfl) (hn : t ≠ "__name__" := by decide) (hdb : (t == ("__debug__" : Str)) = false := by decide)
    (he : starEach [a, .Name t p2] X.env = (false, eval a X.env) :: starEach [.Name t p2] X.env := by rfl) (he2 : starEach [.Name t p2] X.env = (false, eval (.Name t p2) X.env) :: starEach [] X.env := by rfl) (hpl : (backTo pos (starEach [.Name t p2] X.env)).any (·.1) = false := by rfl) :
    PE X (.Call (.Name "isinstance" p) [a, .Name t p2] [] pos) (tD X.K F Γ (.dat (.bool (isiD T da))) Γ1) := by
  have hA : PA X [a, .Name t p2] _ := pa_cons ha (pa_cons (pe_bltn (v := .ty T) (pos := p2) hgT hmT hvT rfl hn hdb) pa_nil he2) he
  refine pe_imp (pe_callB call_isi hg hm (by decide +kernel) hA (he := he) (hpl := hpl)) fun σ H Q ⟨G, E, q⟩ => ⟨G, E, fun v H1 G1 s1 E1 v1 => ?_⟩
  obtain ⟨t', ty, ki⟩ := dq_ty (E1.view v1 va)
  exact ⟨v, .ty T, _, _, _, rfl, .ty T, ty, ki T hT, q _ H1 G1 s1 E1 (.bl _)⟩
structure TyN (X : Cx) (t : Str) (T : String) : Prop where
  ok : T = "int" ∨ T = "bool" ∨ T = "str" ∨ T = "list" ∨ T = "tuple"
  mg : X.mg t = none
  bt : bootBuiltins t = some (.type T)
theorem kitAny_isi {K : PySem.W.Frag} {t : Value} (d : PyData) (ki : ∀ T : String, (T = "int" ∨ T = "bool" ∨ T = "str" ∨ T = "list" ∨ T = "tuple") → PySem.W.kitOne K t (.type T) = some (isiD T d)) : ∀ (Ts : List String), (∀ T ∈ Ts, T = "int" ∨ T = "bool" ∨ T = "str" ∨ T = "list" ∨ T = "tuple") → PySem.W.kitAny K t (Ts.map Value.type) = some (Ts.any fun T => isiD T d)
  | [], _ => rfl
  | T :: Ts, h => by
    have h1 := ki T (h T List.mem_cons_self)
    have h2 := kitAny_isi d ki Ts fun T' m => h T' (List.mem_cons_of_mem _ m)
    refine kitAny_cons h1 (fun e => ?_) (fun e => ?_)
    · rw [h2, List.any_cons, e, Bool.false_or]
    · rw [List.any_cons, e, Bool.true_or]
theorem paired_ty : ∀ Ts : List String, Paired ClsV (Ts.map V.ty) (Ts.map Value.type)
  | [] => .nil
  | T :: Ts => .cons (.ty T) (paired_ty Ts)
theorem de_isi3 (T1 T2 T3 : String) {t1 t2 t3 : Str} {q1 q2 q3 : Pos} {kk : Nat} (h1 : TyN X t1 T1) (h2 : TyN X t2 T2) (h3 : TyN X t3 T3) (ha : PE X a (tD X.K F Γ ra Γ1)) (hm : X.mg "isinstance" = none) (va : vw Γ1 ra = some da := by rfl)
    (hg : Gl X "isinstance" := by rfl) (hg1 : Gl X t1 := by rfl) (hg2 : Gl X t2 := by rfl) (hg3 : Gl X t3 := by rfl) (hn : t1 ≠ "__name__" ∧ t2 ≠ "__name__" ∧ t3 ≠ "__name__" := by decide) (hdb : (t1 == ("__debug__" : Str)) = false ∧ (t2 == ("__debug__" : Str)) = false ∧ (t3 == ("__debug__" : Str)) = false := by decide)
    (he : starEach [a, .Tuple [.Name t1 q1, .Name t2 q2, .Name t3 q3] kk p2] X.env = (false, eval a X.env) :: starEach [.Tuple [.Name t1 q1, .Name t2 q2, .Name t3 q3] kk p2] X.env := by rfl) (he2 : starEach [.Tuple [.Name t1 q1, .Name t2 q2, .Name t3 q3] kk p2] X.env = (false, eval (.Tuple [.Name t1 q1, .Name t2 q2, .Name t3 q3] kk p2) X.env) :: starEach [] X.env := by rfl)
    (he3 : starEach [.Name t1 q1, .Name t2 q2, .Name t3 q3] X.env = (false, eval (.Name t1 q1) X.env) :: starEach [.Name t2 q2, .Name t3 q3] X.env := by rfl) (he4 : starEach [.Name t2 q2, .Name t3 q3] X.env = (false, eval (.Name t2 q2) X.env) :: starEach [.Name t3 q3] X.env := by rfl) (he5 : starEach [.Name t3 q3] X.env = (false, eval (.Name t3 q3) X.env) :: starEach [] X.env := by rfl)
    (hpl : (backTo pos (starEach [.Tuple [.Name t1 q1, .Name t2 q2, .Name t3 q3] kk p2] X.env)).any (·.1) = false := by rfl) :
    PE X (.Call (.Name "isinstance" p) [a, .Tuple [.Name t1 q1, .Name t2 q2, .Name t3 q3] kk p2] [] pos) (tD X.K F Γ (.dat (.bool ([T1, T2, T3].any fun T => isiD T da))) Γ1) := by
  have hT : PE X (.Tuple [.Name t1 q1, .Name t2 q2, .Name t3 q3] kk p2) _ := pe_tup (pa_cons (pe_bltn (v := .ty T1) hg1 h1.mg h1.bt rfl hn.1 hdb.1) (pa_cons (pe_bltn (v := .ty T2) hg2 h2.mg h2.bt rfl hn.2.1 hdb.2.1) (pa_cons (pe_bltn (v := .ty T3) hg3 h3.mg h3.bt rfl hn.2.2 hdb.2.2) pa_nil he5) he4) he3)
  have hA : PA X [a, .Tuple [.Name t1 q1, .Name t2 q2, .Name t3 q3] kk p2] _ := pa_cons ha (pa_cons hT pa_nil he2) he
  refine pe_imp (pe_callB call_isiT hg hm (by decide +kernel) hA (he := he) (hpl := hpl)) fun σ H Q ⟨G, E, q⟩ => ⟨G, E, fun v H1 G1 s1 E1 v1 => ⟨by show 3 ≤ sizeLine; decide, fun tp htp => ?_⟩⟩
  have E2 := E1.newRaw (o := .tup [.ty T1, .ty T2, .ty T3]) htp
  obtain ⟨t', ty, ki⟩ := dq_ty (E2.view v1 va)
  refine ⟨v, tp, [T1, T2, T3].map V.ty, _, [T1, T2, T3].map Value.type, _, rfl, upd_same, paired_ty _, ty, kitAny_isi da ki [T1, T2, T3] ?_, q _ _ G1 (s1.trans (Step.newRaw htp)) E2 (.bl _)⟩
  intro T m
  rcases List.mem_cons.mp m with rfl | m
  · exact h1.ok
  · rcases List.mem_cons.mp m with rfl | m
    · exact h2.ok
    · rcases List.mem_cons.mp m with rfl | m
      · exact h3.ok
      · cases m
section
variable {K : PySem.W.Frag} {as bs : List PyData}
def rCatR : R2 := fun x y H Q => ∃ l b xs zs, x = .ref l ∧ y = .ref b ∧ Rd H l (.lst xs) ∧ Rd H b (.lst zs) ∧ xs.length + zs.length ≤ sizeLine ∧ ∀ p, H p = none → Q (.ref p) (upd H p (.lst (xs ++ zs)))
theorem inv_rd {pins : List (Addr × Obj)} {σ : L2.St} {H : Hp} {s : Shared} (I : Inv X pins σ H s) {l : Addr} {xs : List V} (h : Rd H l (.lst xs)) : xs.length ≤ sizeLine ∧ ∃ (its : List Value) (n : Nat), Vals xs its ∧ xs.length = its.length ∧ s.heap.get? l = some { cls := .type "list", data := .seq its.toArray n } := by
  obtain ⟨z, its, n, r, e⟩ := h.ok I.hok
  exact ⟨z, its, n, r, r.length, e⟩
theorem op_catR : OpR X (binaryOp .Add) rCatR := by
  intro pins s σ H x y v u Q I rx ry h
  obtain ⟨l, b, xs, zs, rfl, rfl, hH, hB, hz, q⟩ := h
  cases rx
  cases ry
  obtain ⟨z, its, n, r, hl, e⟩ := inv_rd I hH
  obtain ⟨z2, its2, n2, r2, hl2, e2⟩ := inv_rd I hB
  refine PySem.P.add_list e e2 ?_ (by rw [List.size_toArray, List.size_toArray]; omega)
  have ea : its.toArray ++ its2.toArray = (its ++ its2).toArray := by simp
  rw [ea]
  exact ⟨.ref _, _, I.lnew (t' := s.toks) (r.append r2) (by rw [List.length_append]; omega), rfl, q _ I.fresh⟩
end
theorem own_at {K : PySem.W.Frag} {G H : Hp} {σ : L2.St} (E : En K F G σ H Γ) {i : Nat} (h : lk Γ i = .own xs) : ∃ p vs, σ[i]? = some (some (.ref p)) ∧ G p = none ∧ H p = some (.lst vs) ∧ DqAll K G vs xs := by
  have s := E.sl i
  rw [h] at s
  obtain ⟨p, vs, e, g, hp, ha, _⟩ := s
  exact ⟨p, vs, e, g, hp, ha⟩
theorem ds_item {i : Nat} {k : Int} {j : Nat} {o ix : Expr} {Γ3 : List Sl} (he : PE X e (tD X.K F Γ (.dat d) Γ1)) (ho : PE X o (tD X.K F Γ1 (.al i) Γ2)) (hi : PE X ix (tD X.K F Γ2 (.dat (.int k)) Γ3)) (hj : ixN xs.length k = some j)
    (hr : PSs X rest (tS X.K F W (st Γ3 i (.own (xs.set j d))) P)) (hl : lk Γ3 i = .own xs := by rfl)
    (ha : ∀ v, assign (.Subscript o ix pos') X.env v = (do
      let ov ← holding [v] (eval o X.env)
      let iv ← holding [v, ov] (eval ix X.env)
      standAt pos'
      holding [v, ov, iv] (setItem ov iv v)
      release [v, ov, iv] []) := by intro _; rfl)
    (hs : swapsWithSole [.Subscript o ix pos'] e pos.line X.env = pure false := by rfl) (hw : swappedStores [.Subscript o ix pos'] e X.env = pure none := by rfl)
    (h1 : (assignEach [.Subscript o ix pos'] X.env).map (·.2) = [assign (.Subscript o ix pos') X.env] := by rfl) :
    PSs X (.Assign [.Subscript o ix pos'] e pos :: rest) (tS X.K F W Γ P) :=
  ds_seq (ps_imp (ps_asg he (pg_sub ho hi set_list ha) hs hw h1) fun D σ H ⟨G, E, q, _⟩ => ⟨G, E, fun v H1 G1 s1 E1 v1 => ⟨G1, E1, fun ov H2 G2 s2 E2 v2 => ⟨G2, E2, fun iv H3 G3 s3 E3 v3 => by
    obtain ⟨p, vs, es, g, hp, al⟩ := own_at E3 hl
    have v2 : σ[i]? = some (some ov) := v2
    rw [es] at v2
    have : V.ref p = ov := Option.some.inj (Option.some.inj v2)
    subst this
    refine ⟨p, vs, k, j, rfl, dp_int v3, hp, by rw [dpa_len al]; exact hj, ?_⟩
    have hd3 : Dq X.K G3 v d := dp_mono (s2.g.trans s3.g) _ _ v1
    exact q _ _ _ G3 hr ((s1.trans s2).trans s3).g (E3.write hl es (dpa_set j al hd3))⟩⟩⟩)
end
end AM
set_option Elab.async false
set_option linter.all false
set_option maxRecDepth 100000
set_option maxHeartbeats 2000000
namespace AM
open PySem PySem.Spec PyProof.Rows L2
def wpG (Γ : List Sl) : List Nat → List Sl
  | [] => Γ
  | v :: vs => st (wpG Γ vs) v .no
theorem lk_no (Γ : List Sl) (i : Nat) : lk (st Γ i .no) i = .no := by
  by_cases h : i < Γ.length
  · exact lk_st_same _ _ _ h
  · exact lk_big _ _ (by rw [st_length]; omega)
theorem lk_wpG {Γ : List Sl} {i : Nat} : ∀ {vs : List Nat}, i ∈ vs → lk (wpG Γ vs) i = .no
  | v :: vs, h => by
    unfold wpG
    by_cases e : v = i
    · subst e; exact lk_no _ _
    · rw [lk_st_ne _ _ _ _ e]
      exact lk_wpG ((List.mem_cons.mp h).resolve_left (Ne.symm e))
section
variable {K : PySem.W.Frag} {F : Fx} {σ : L2.St} {Γ Γ1 : List Sl} {G H : Hp}
theorem En.wipe1 (E : En K F G σ H Γ) (v : Nat) (hb : pf F v = true) : En K F G (σ.set v none) H (st Γ v .no) where
  le := E.le
  g0 := E.g0
  fr := E.fr
  base := E.base
  mu := E.mu
  sl := fun j => by
    by_cases q : v = j
    · subst q; rw [lk_no]; trivial
    · rw [lk_st_ne _ _ _ _ q, List.getElem?_set_ne q]; exact E.sl j
  nd := fun a b p xs ys e1 e2 e3 e4 => by
    have na : v ≠ a := fun q => by subst q; rw [lk_no] at e1; cases e1
    have nb : v ≠ b := fun q => by subst q; rw [lk_no] at e2; cases e2
    rw [lk_st_ne _ _ _ _ na] at e1
    rw [lk_st_ne _ _ _ _ nb] at e2
    rw [List.getElem?_set_ne na] at e3
    rw [List.getElem?_set_ne nb] at e4
    exact E.nd a b p xs ys e1 e2 e3 e4
  len := by rw [List.length_set, st_length]; exact E.len
  pin := fun q hq => by
    have ne := pf_ne hb q hq
    rw [List.getElem?_set_ne (Ne.symm ne), lk_st_ne _ _ _ _ (Ne.symm ne)]
    exact E.pin q hq
  tab := E.tab
  nt := E.nt
theorem En.wipe (E : En K F G σ H Γ) : ∀ vs : List Nat, vs.all (pf F) = true → En K F G (L2.wipe σ vs) H (wpG Γ vs)
  | [], _ => E
  | v :: vs, h => by
    rw [List.all_cons, Bool.and_eq_true] at h
    exact (E.wipe vs h.2).wipe1 v h.1
theorem En.unwipe {vs : List Nat} (E : En K F G (L2.wipe σ vs) H Γ) (h : ∀ v ∈ vs, lk Γ v = .no) : En K F G σ H Γ where
  le := E.le
  g0 := E.g0
  fr := E.fr
  base := E.base
  mu := E.mu
  sl := fun j => by
    by_cases q : j ∈ vs
    · rw [h j q]; trivial
    · have s := E.sl j
      rw [wipe_out q] at s
      exact s
  nd := fun a b p xs ys e1 e2 e3 e4 => by
    have na : a ∉ vs := fun q => by rw [h a q] at e1; cases e1
    have nb : b ∉ vs := fun q => by rw [h b q] at e2; cases e2
    exact E.nd a b p xs ys e1 e2 (by rw [wipe_out na]; exact e3) (by rw [wipe_out nb]; exact e4)
  len := by rw [← E.len, wipe_length]
  pin := fun q hq => ⟨(wipe_some (E.pin q hq).1).1, (E.pin q hq).2⟩
  tab := E.tab
  nt := E.nt
theorem En.raw (E : En K F G σ H Γ) {p : Addr} {o : HO} {us : List V} (hp : H p = some (.lst us)) (g : G p = none) (n : ¬ Own σ Γ p) (h0 : F.H0 p = none) (m : ¬ F.M p) : En K F G σ (upd H p o) Γ where
  le := fun a u e => by
    rw [upd_ne (ne_of_none e g)]; exact E.le a u e
  g0 := E.g0
  fr := E.fr
  base := fun a u nm e => by
    rw [upd_ne (ne_of_none e h0)]; exact E.base a u nm e
  mu := fun a ma => by
    obtain ⟨u, e⟩ := E.mu a ma
    exact ⟨u, by rw [upd_ne (fun z => m (by rw [← z]; exact ma))]; exact e⟩
  sl := fun i => by
    have s := E.sl i
    cases q : lk Γ i with
    | no => trivial
    | dat d => rw [q] at s; exact s
    | own xs =>
      rw [q] at s
      obtain ⟨a, vs, e, g, hp, ha, hm⟩ := s
      have ne : a ≠ p := fun z => n (by rw [← z]; exact ⟨i, _, own_l q, e⟩)
      exact ⟨a, vs, e, g, by rw [upd_ne ne]; exact hp, ha, hm⟩
    | dct ks xs =>
      rw [q] at s
      obtain ⟨a, vs, e, g, hp, ha, hm⟩ := s
      have ne : a ≠ p := fun z => n (by rw [← z]; exact ⟨i, _, own_d q, e⟩)
      exact ⟨a, vs, e, g, by rw [upd_ne ne]; exact hp, ha, hm⟩
    | dcl p0 ob0 vs0 ks xs =>
      rw [q] at s
      obtain ⟨a, vs, e, g, ⟨ob, hq⟩, ha, hm⟩ := s
      have ne : a ≠ p := fun z => by
        rw [z, hp] at hq
        cases hq
      exact ⟨a, vs, e, g, ⟨ob, by rw [upd_ne ne]; exact hq⟩, ha, hm⟩
  nd := E.nd
  len := E.len
  pin := E.pin
  tab := tabs_write E.tab hp
  nt := E.nt
theorem own_wipe {vs : List Nat} {a : Addr} (h : ∀ v ∈ vs, lk Γ v = .no) : Own (L2.wipe σ vs) Γ a ↔ Own σ Γ a := by
  constructor
  · rintro ⟨i, xs, e, es⟩
    have ni : i ∉ vs := fun q => by rw [h i q] at e; cases e
    rw [wipe_out ni] at es
    exact ⟨i, xs, e, es⟩
  · rintro ⟨i, xs, e, es⟩
    have ni : i ∉ vs := fun q => by rw [h i q] at e; cases e
    exact ⟨i, xs, e, by rw [wipe_out ni]; exact es⟩
end
theorem wipe_same {σ τ : L2.St} {vs : List Nat} (hl : τ.length = σ.length) (h : ∀ i, i ∉ vs → τ[i]? = σ[i]?) : L2.wipe τ vs = L2.wipe σ vs := by
  have no : ∀ (ρ : L2.St) (i : Nat), i ∈ vs → i < ρ.length → (L2.wipe ρ vs)[i]? = some none := by
    intro ρ i hi hlt
    have hlt' : i < (L2.wipe ρ vs).length := by rw [wipe_length]; exact hlt
    cases q : (L2.wipe ρ vs)[i]? with
    | none => rw [List.getElem?_eq_none_iff] at q; omega
    | some o =>
      cases o with
      | none => rfl
      | some v => exact absurd hi (wipe_some q).2
  apply List.ext_getElem?
  intro i
  by_cases hi : i ∈ vs
  · by_cases hlt : i < σ.length
    · rw [no σ i hi hlt, no τ i hi (by omega)]
    · rw [List.getElem?_eq_none_iff.mpr (by rw [wipe_length]; omega), List.getElem?_eq_none_iff.mpr (by rw [wipe_length]; omega)]
  · rw [wipe_out hi, wipe_out hi]; exact h i hi
structure Tgt (K : PySem.W.Frag) (F : Fx) (g : TG) (vs : List Nat) (A : PyData → List Sl → List Sl → Prop) : Prop where
  run : ∀ G H σ Γ Γ' v d (Q : L2.St → Hp → Prop), En K F G σ H Γ → Dq K G v d → A d Γ Γ' → (∀ σ', En K F G σ' H Γ' → σ'.length = σ.length → (∀ i, i ∉ vs → σ'[i]? = σ[i]?) → (∀ a, Own σ' Γ' a → Own σ Γ a) → Q σ' H) → g v σ H Q
theorem own_setDat {σ : L2.St} {Γ : List Sl} {i : Nat} {v : V} {d : PyData} {a : Addr} (hi : i < Γ.length) (h : Own (σ.set i (some v)) (st Γ i (.dat d)) a) : Own σ Γ a := by
  obtain ⟨j, xs, e1, e2⟩ := h
  by_cases q : i = j
  · subst q; rw [lk_st_same _ _ _ hi] at e1; cases e1
  · rw [lk_st_ne _ _ _ _ q] at e1
    rw [List.getElem?_set_ne q] at e2
    exact ⟨j, xs, e1, e2⟩
theorem tgt_name {K : PySem.W.Frag} {F : Fx} (i : Nat) : Tgt K F (gName i) [i] (aName F i) := ⟨fun G H σ Γ Γ' v d Q E hd ⟨e, hl, hb⟩ q => by
  subst e
  refine q _ (E.setDat hd (inb_lt hl) hb) (by rw [List.length_set]) (fun j hj => ?_) fun a h => own_setDat (inb_lt hl) h
  rw [List.getElem?_set_ne (fun z => hj (by simp [z]))]⟩
def aPair (F : Fx) (i j : Nat) : PyData → List Sl → List Sl → Prop := fun d Γ Γ' => ∃ d1 d2, d = .tuple [d1, d2] ∧ Γ' = st (st Γ i (.dat d1)) j (.dat d2) ∧ inb Γ i = true ∧ inb Γ j = true ∧ pf F i = true ∧ pf F j = true
theorem tgt_pair {K : PySem.W.Frag} {F : Fx} (i j : Nat) : Tgt K F (gTup K 2 (gCons (gName i) (gCons (gName j) gNil))) [i, j] (aPair F i j) := ⟨fun G H σ Γ Γ' v d Q E hd ⟨d1, d2, e, e2, h1, h2, b1, b2⟩ q => by
  subst e e2
  obtain ⟨p, vs, rfl, hq, ha⟩ := dp_tup hd
  cases ha with
  | cons a1 r1 =>
    cases r1 with
    | cons a2 r2 =>
      cases r2
      refine ⟨p, _, rfl, sqT_mono E.le hq, rfl, _, _, rfl, _, _, rfl, rfl, ?_⟩
      refine q _ ((E.setDat a1 (inb_lt h1) b1).setDat a2 (by rw [st_length]; exact inb_lt h2) b2) (by rw [List.length_set, List.length_set]) (fun k hk => ?_) fun a h => own_setDat (inb_lt h1) (own_setDat (by rw [st_length]; exact inb_lt h2) h)
      rw [List.getElem?_set_ne (fun z => hk (by simp [z])), List.getElem?_set_ne (fun z => hk (by simp [z]))]⟩
theorem lk_wpG_out (Γ : List Sl) {i : Nat} : ∀ {vs : List Nat}, i ∉ vs → lk (wpG Γ vs) i = lk Γ i
  | [], _ => rfl
  | v :: vs, h => by
    unfold wpG
    rw [lk_st_ne _ _ _ _ (fun z => h (by simp [z]))]
    exact lk_wpG_out Γ fun z => h (List.mem_cons_of_mem _ z)
theorem Step.out {σ σ2 : L2.St} {Γ Γt Γx : List Sl} {G H G' H' : Hp} {vs : List Nat} (s : Step σ2 Γt Γx G H G' H') (hO : ∀ a, Own σ2 Γt a → Own σ Γ a) (hag : ∀ i, i ∉ vs → σ2[i]? = σ[i]?) : Step σ Γ (wpG Γx vs) G H G' H' where
  g := s.g
  f := s.f
  k := fun a o h n t => s.k a o h (fun z => n (hO a z)) t
  o := fun a ⟨i, ys, e1, e2⟩ => by
    have ni : i ∉ vs := fun z => by rw [lk_wpG z] at e1; cases e1
    rw [lk_wpG_out _ ni] at e1
    exact hO a (s.o a ⟨i, ys, e1, by rw [hag i ni]; exact e2⟩)
  s := s.s
section
variable {X : Cx} {F : Fx} {W : WX} {Γ Γ1 Γ2 : List Sl} {P : Out → Prop} {rest body : List Stmt} {e a b c elt iter tg : Expr} {ifs : List Expr} {pos pos' : Pos} {ds xs : List PyData} {scope : Scope} {own : List (Str × Nat)} {g : TG} {A : PyData → List Sl → List Sl → Prop}
theorem pg_tgt {vs : List Nat} (T : Tgt X.K F g vs A) (h : PG X tg g) : PG X tg (tT X.K F A) :=
  ⟨fun pins s σ H v u Q I r ⟨G, d, Γ, Γ', hA, E, hd, q⟩ => h.run pins s σ H v u Q I r (T.run G H σ Γ Γ' v d Q E hd hA fun σ' E' _ _ _ => q σ' H G Same.r E')⟩
theorem pt_pair (i j : Nat) {x y : Str} {px py pt : Pos} {k : Nat} (hN : X.N.Nodup) (hi : X.N[i]? = some x := by rfl) (hj : X.N[j]? = some y := by rfl) (hx : Loc X.env.scope x := by first | exact Or.inl rfl | exact Or.inr rfl) (hy : Loc X.env.scope y := by first | exact Or.inl rfl | exact Or.inr rfl) (hc : X.calm = true := by rfl)
    (hf : X.fn x = true ∨ X.env.scope.names.lookup x = some .local := by first | exact .inl rfl | exact .inr rfl) (hf2 : X.fn y = true ∨ X.env.scope.names.lookup y = some .local := by first | exact .inl rfl | exact .inr rfl)
    (hs1 : (assignEach [.Name x px, .Name y py] X.env).map (·.2) = assign (.Name x px) X.env :: (assignEach [.Name y py] X.env).map (·.2) := by rfl) (hs2 : (assignEach [.Name y py] X.env).map (·.2) = assign (.Name y py) X.env :: (assignEach [] X.env).map (·.2) := by rfl)
    (hn : (assignEach [.Name x px, .Name y py] X.env).length = 2 := by rfl) (hst : (assignEach [.Name x px, .Name y py] X.env).findIdx? (·.1) = none := by rfl) : PG X (.Tuple [.Name x px, .Name y py] k pt) (gTup X.K 2 (gCons (gName i) (gCons (gName j) gNil))) :=
  pg_tup hc (pgs_cons (pg_name hN hi hx hf) (pgs_cons (pg_name hN hj hy hf2) pgs_nil hs2) hs1) hn hst
def LcR (X : Cx) (F : Fx) (Γ : List Sl) (elt tg iter : Expr) (ifs : List Expr) (scope : Scope) (own : List (Str × Nat)) (xs : List PyData) (Γ2 : List Sl) : Prop :=
  ∃ (wi : TI) (g : TG) (tt : TT) (te : TE), X.N.Nodup ∧ PI X tg iter wi ∧ BlkOk X.N X.env.scope scope own ∧ (∀ (s : Shared) (H : Hp) (C : Addr) (cl : List (Str × Addr)) (fp : List Addr), PG (X.blk s H scope (compEnvC scope cl C X.env) fp) tg g) ∧
    (∀ (s : Shared) (H : Hp) (C : Addr) (cl : List (Str × Addr)) (fp : List Addr), PTs (X.blk s H scope (compEnvC scope cl C X.env) fp) ifs tt) ∧ (∀ (s : Shared) (H : Hp) (C : Addr) (cl : List (Str × Addr)) (fp : List Addr), PE (X.blk s H scope (compEnvC scope cl C X.env) fp) elt te) ∧
    ∀ σ H Q, tN X.K F Γ xs Γ2 σ H Q → tLc wi g tt te (own.map (·.2)) σ H Q
theorem LcR.pe (h : LcR X F Γ elt tg iter ifs scope own xs Γ2) (hc : X.calm = true := by rfl) (hs : ∀ x, foldedSetIterable iter X.env x = pure x := by intro _; rfl) : PE X (.ListComp elt [⟨tg, iter, ifs, 0⟩] scope pos) (tN X.K F Γ xs Γ2) := by
  obtain ⟨wi, g, tt, te, hN, hi, ok, hg, ht, he, q⟩ := h
  exact pe_imp (pe_lc hc hN hi ok hg ht he hs) q
theorem lr_lc (V : Nat → List PyData → List Sl → Prop) (hi : PI X tg iter (tI X.K F Γ ds Γ1)) (T : Tgt X.K F g (own.map (·.2)) A) (hN : X.N.Nodup) (ok : BlkOk X.N X.env.scope scope own)
    (hg : ∀ (s : Shared) (H : Hp) (C : Addr) (cl : List (Str × Addr)) (fp : List Addr), PG (X.blk s H scope (compEnvC scope cl C X.env) fp) tg g)
    (h0 : V 0 [] (wpG Γ1 (own.map (·.2)))) (hz : ds.length < 100000)
    (turn : ∀ j d acc Γ, ds[j]? = some d → V j acc Γ → ∃ Γt k, A d Γ Γt ∧ (∀ (s : Shared) (H : Hp) (C : Addr) (cl : List (Str × Addr)) (fp : List Addr), PTs (X.blk s H scope (compEnvC scope cl C X.env) fp) ifs (tDT X.K F Γt k Γt)) ∧
      (k = false → V (j + 1) acc (wpG Γt (own.map (·.2)))) ∧ (k = true → ∃ y Γ2, (∀ (s : Shared) (H : Hp) (C : Addr) (cl : List (Str × Addr)) (fp : List Addr), PE (X.blk s H scope (compEnvC scope cl C X.env) fp) elt (tD X.K F Γt (.dat y) Γ2)) ∧ V (j + 1) (acc ++ [y]) (wpG Γ2 (own.map (·.2)))))
    (done : ∀ acc Γ, V ds.length acc Γ → acc = xs ∧ Γ = Γ2) (hpf : (own.map (·.2)).all (pf F) = true := by rfl) : LcR X F Γ elt tg iter ifs scope own xs Γ2 := by
  have ht : ∀ (s : Shared) (H : Hp) (C : Addr) (cl : List (Str × Addr)) (fp : List Addr), PTs (X.blk s H scope (compEnvC scope cl C X.env) fp) ifs (fun σ H Q => ∃ Γt k, (∀ (s : Shared) (H : Hp) (C : Addr) (cl : List (Str × Addr)) (fp : List Addr), PTs (X.blk s H scope (compEnvC scope cl C X.env) fp) ifs (tDT X.K F Γt k Γt)) ∧ tDT X.K F Γt k Γt σ H Q) :=
    fun s H C cl fp => ⟨fun pins s' σ H' Q I ⟨Γt, k, h, q⟩ => (h s H C cl fp).run pins s' σ H' Q I q⟩
  have he : ∀ (s : Shared) (H : Hp) (C : Addr) (cl : List (Str × Addr)) (fp : List Addr), PE (X.blk s H scope (compEnvC scope cl C X.env) fp) elt (fun σ H Q => ∃ Γt y Γ2, (∀ (s : Shared) (H : Hp) (C : Addr) (cl : List (Str × Addr)) (fp : List Addr), PE (X.blk s H scope (compEnvC scope cl C X.env) fp) elt (tD X.K F Γt (.dat y) Γ2)) ∧ tD X.K F Γt (.dat y) Γ2 σ H Q) :=
    fun s H C cl fp => ⟨fun pins s' σ H' Q I ⟨Γt, y, Γ2, h, q⟩ => (h s H C cl fp).run pins s' σ H' Q I q⟩
  refine ⟨_, _, _, _, hN, hi, ok, hg, ht, he, fun σ H Q ⟨G, E, q⟩ => ⟨G, E, fun J H1 G1 s1 E1 it D hD => ?_⟩⟩
  have HD := fre_of s1 E1 hD
  have d0 := E1.no hD
  have E1' := E1.newRaw (o := .lst []) hD
  have nO : ¬ Own σ Γ1 D := own_ne s1 E HD.1
  -- the state between the turns
  refine ⟨fun i m H' => m = ds.length - i ∧ i ≤ ds.length ∧ ∃ acc Γ' G' vs, V i acc Γ' ∧ (∀ v ∈ own.map (·.2), lk Γ' v = .no) ∧ Step σ Γ1 Γ' G1 H1 G' H' ∧ En X.K F G' (L2.wipe σ (own.map (·.2))) H' Γ' ∧ G' D = none ∧ H' D = some (.lst vs) ∧ DqAll X.K G' vs acc ∧ acc.length ≤ i, ?_, ?_⟩
  · refine ⟨ds.length, by simp, Nat.zero_le _, [], _, G1, [], h0, fun v hv => lk_wpG hv, ?_, E1'.wipe _ hpf, (E1.no hD).2.2, upd_same, .nil, Nat.le_refl _⟩
    exact (Step.newRaw (σ := σ) (Γ := Γ1) hD).out (fun _ z => z) (fun _ _ => rfl)
  · rintro i m H' ⟨rfl, hle, acc, Γ', G', vs, hV, hno, sp, E', gD, hD', al, hlen⟩
    have leH : Same G1 H' := fun a o h => E'.le a o (sp.g a o h)
    by_cases hlt : i < ds.length
    · refine .inr ⟨it.go i H' leH hlt, fun H'' => i + 1 ≤ ds.length ∧ ∃ acc Γ' G' vs, V (i + 1) acc Γ' ∧ (∀ v ∈ own.map (·.2), lk Γ' v = .no) ∧ Step σ Γ1 Γ' G1 H1 G' H'' ∧ En X.K F G' (L2.wipe σ (own.map (·.2))) H'' Γ' ∧ G' D = none ∧ H'' D = some (.lst vs) ∧ DqAll X.K G' vs acc ∧ acc.length ≤ i + 1, fun H'' h'' => ⟨ds.length - (i + 1), by omega, rfl, h''⟩, fun x H2 y => ?_⟩
      obtain ⟨d, hd, alt⟩ := it.yl i H' G' x H2 sp.g E'.le hlt y
      obtain ⟨Γt, k, hA, pT, hn, hy⟩ := turn i d acc Γ' hd hV
      obtain ⟨G3, s3, E3, hx, gD3, hD3⟩ : ∃ G3, (∀ τ, Step τ Γ' Γ' G' H' G3 H2) ∧ En X.K F G3 (L2.wipe σ (own.map (·.2))) H2 Γ' ∧ Dq X.K G3 x d ∧ G3 D = none ∧ H2 D = some (.lst vs) := by
        rcases alt with ⟨rfl, hx⟩ | ⟨p, o, hp, ho, rfl, hx⟩
        · exact ⟨G', fun τ => Step.refl, E', hx, gD, hD'⟩
        · have ne : D ≠ p := ne_of_none hD' hp
          exact ⟨_, fun τ => Step.newDat hp (E'.no hp).2.2, E'.newDat hp ho, hx, by rw [upd_ne ne]; exact gD, by rw [upd_ne ne]; exact hD'⟩
      refine T.run G3 H2 _ Γ' Γt x d _ E3 hx hA fun σ2 E4 hl2 hag hown => ?_
      have hag2 : ∀ i, i ∉ own.map (·.2) → σ2[i]? = σ[i]? := fun i hi => by rw [hag i hi, wipe_out hi]
      have hO : ∀ a, Own σ2 Γt a → Own σ Γ' a := fun a z => (own_wipe hno).mp (hown a z)
      have hw : L2.wipe σ2 (own.map (·.2)) = L2.wipe σ (own.map (·.2)) := wipe_same (by rw [hl2, wipe_length]) hag2
      have nOt : ¬ Own σ2 Γt D := fun z => nO (sp.o D (hO D z))
      have al3 : DqAll X.K G3 vs acc := dpa_mono (s3 σ).g _ _ al
      refine ⟨hw, Γt, k, pT, G3, E4, fun H5 G5 s5 E5 => ?_⟩
      have hD5 : H5 D = some (.lst vs) := s5.k D _ hD3 nOt noTb_lst
      have gD5 : G5 D = none := by
        cases z : G5 D with
        | none => rfl
        | some o =>
          rcases s5.f D o z with ⟨o', z'⟩ | z'
          · rw [gD3] at z'; cases z'
          · exact (z' _ (ld_lst _) hD3).elim
      cases k with
      | false =>
        refine iteF ?_
        have E6 := E5.wipe (own.map (·.2)) hpf
        rw [hw] at E6
        exact ⟨hlt, acc, _, G5, vs, hn rfl, fun v hv => lk_wpG hv, sp.trans ((s3 σ).trans (s5.out hO hag2)), E6, gD5, hD5, dpa_mono s5.g _ _ al3, by omega⟩
      | true =>
        refine iteT ?_
        obtain ⟨yv, Γ3, pE, hV3⟩ := hy rfl
        refine ⟨Γt, yv, Γ3, pE, G5, E5, fun v H6 G6 s6 E6 v6 => ?_⟩
        have s56 := s5.trans s6
        have hD6 : H6 D = some (.lst vs) := s6.k D _ hD5 nOt noTb_lst
        have gD6 : G6 D = none := by
          cases z : G6 D with
          | none => rfl
          | some o =>
            rcases s6.f D o z with ⟨o', z'⟩ | z'
            · rw [gD5] at z'; cases z'
            · exact (z' _ (ld_lst _) hD5).elim
        have lv : vs.length = acc.length := dpa_len al
        refine ⟨vs, hD6, by rw [lv]; exact Nat.lt_of_lt_of_le (Nat.lt_of_le_of_lt hlen (Nat.lt_trans hlt hz)) (by decide), hlt, acc ++ [yv], _, G6, vs ++ [v], hV3, fun v hv => lk_wpG hv, ?_, ?_, gD6, upd_same, dpa_app (dpa_mono s56.g _ _ al3) (.cons v6 .nil), by rw [List.length_append]; simp; omega⟩
        · have S := sp.trans ((s3 σ).trans (s56.out hO hag2))
          refine ⟨S.g, S.f, fun a o h n t => ?_, S.o, fun a us l h => ?_⟩
          · rw [upd_ne (ne_of_none h hD)]; exact S.k a o h n t
          · rw [upd_ne (ne_of_none h hD)]; exact S.s a us l h
        · have E7 := (E6.raw (o := .lst (vs ++ [v])) hD6 gD6 (fun z => nOt (s56.o D z)) d0.1 d0.2.1).wipe (own.map (·.2)) hpf
          rw [hw] at E7
          exact E7
    · have e : i = ds.length := by omega
      subst e
      obtain ⟨e1, e2⟩ := done acc Γ' hV
      subst e1 e2
      exact .inl ⟨it.stop _ H' leH (Nat.le_refl _), q D vs H' G' (s1.trans sp) (E'.unwipe hno) HD gD hD' al⟩
theorem pts_no : PTs X [] (tDT X.K F Γ true Γ) := ⟨fun pins s σ H Q I ⟨G, E, q⟩ => pts_nil.run pins s σ H Q I (q H G Step.refl E)⟩
theorem pts_if {k : Bool} (h : PT X c (tDT X.K F Γ k Γ)) : PTs X [c] (tDT X.K F Γ k Γ) := pts_one h
end
section
variable {X : Cx} {F : Fx} {Γ Γ1 Γ2 : List Sl} {a b : Expr} {pos p : Pos} {K : PySem.W.Frag}
def zipD (as bs : List PyData) : List PyData := List.zipWith (fun x y => .tuple [x, y]) as bs
theorem zipD_get {as bs : List PyData} {i : Nat} {x y : PyData} (h1 : as[i]? = some x) (h2 : bs[i]? = some y) : (zipD as bs)[i]? = some (.tuple [x, y]) := by
  unfold zipD
  rw [List.getElem?_zipWith, h1, h2]
theorem zipD_len (as bs : List PyData) : (zipD as bs).length = min as.length bs.length := by unfold zipD; rw [List.length_zipWith]
theorem itd_zipL {G : Hp} {p1 p2 : Addr} {v1 v2 : List V} {as bs : List PyData} (q1 : Rd G p1 (.lst v1)) (a1 : DqAll K G v1 as) (q2 : Rd G p2 (.lst v2)) (a2 : DqAll K G v2 bs) : ItD K G (Itz K p1 p2) (zipD as bs) where
  go := fun i H e hi => by
    rw [zipD_len] at hi
    obtain ⟨x, hx, _⟩ := dpa_get (i := i) a1 (List.getElem?_eq_getElem (by omega))
    obtain ⟨y, hy, _⟩ := dpa_get (i := i) a2 (List.getElem?_eq_getElem (by omega))
    exact ⟨v1, v2, x, y, .inl (rd_mono e q1), .inl (rd_mono e q2), hx, hy⟩
  yl := fun i H G1 x H' e1 e2 hi ⟨T, x1, x2, ex, hT, eH, f1, f2⟩ => by
    rw [zipD_len] at hi
    obtain ⟨x, hx, dx⟩ := dpa_get (i := i) a1 (List.getElem?_eq_getElem (by omega))
    obtain ⟨y, hy, dy⟩ := dpa_get (i := i) a2 (List.getElem?_eq_getElem (by omega))
    have h1 : x1 = x := Option.some.inj ((f1 _ (.inl (rd_mono (e1.trans e2) q1))).symm.trans hx)
    have h2 : x2 = y := Option.some.inj ((f2 _ (.inl (rd_mono (e1.trans e2) q2))).symm.trans hy)
    subst h1 h2 ex eH
    have g1 : G1 T = none := by
      cases z : G1 T with
      | none => rfl
      | some o => have := e2 T o z; rw [hT] at this; cases this
    refine ⟨_, zipD_get (List.getElem?_eq_getElem (by omega)) (List.getElem?_eq_getElem (by omega)), .inr ⟨T, _, hT, (fun _ z => by cases z), rfl, .tup (SqT.of upd_same) (.cons ?_ (.cons ?_ .nil))⟩⟩
    · exact dp_mono (e1.trans (same_upd g1)) _ _ dx
    · exact dp_mono (e1.trans (same_upd g1)) _ _ dy
  stop := fun i H e hi => by
    rw [zipD_len] at hi
    refine ⟨v1, v2, .inl (rd_mono e q1), .inl (rd_mono e q2), ?_⟩
    rw [dpa_len a1, dpa_len a2]
    omega
theorem itd_zipT {G : Hp} {p1 p2 : Addr} {v1 v2 : List V} {as bs : List PyData} (q1 : SqT K G p1 v1) (a1 : DqAll K G v1 as) (q2 : SqT K G p2 v2) (a2 : DqAll K G v2 bs) : ItD K G (RZ.ItzT K p1 p2) (zipD as bs) where
  go := fun i H e hi => by
    rw [zipD_len] at hi
    obtain ⟨x, hx, _⟩ := dpa_get (i := i) a1 (List.getElem?_eq_getElem (by omega))
    obtain ⟨y, hy, _⟩ := dpa_get (i := i) a2 (List.getElem?_eq_getElem (by omega))
    exact ⟨v1, v2, x, y, sqT_mono e q1, sqT_mono e q2, hx, hy⟩
  yl := fun i H G1 x H' e1 e2 hi ⟨T, x1, x2, ex, hT, eH, f1, f2⟩ => by
    rw [zipD_len] at hi
    obtain ⟨x, hx, dx⟩ := dpa_get (i := i) a1 (List.getElem?_eq_getElem (by omega))
    obtain ⟨y, hy, dy⟩ := dpa_get (i := i) a2 (List.getElem?_eq_getElem (by omega))
    have h1 : x1 = x := Option.some.inj ((f1 _ (sqT_mono (e1.trans e2) q1)).symm.trans hx)
    have h2 : x2 = y := Option.some.inj ((f2 _ (sqT_mono (e1.trans e2) q2)).symm.trans hy)
    subst h1 h2 ex eH
    have g1 : G1 T = none := by
      cases z : G1 T with
      | none => rfl
      | some o => have := e2 T o z; rw [hT] at this; cases this
    refine ⟨_, zipD_get (List.getElem?_eq_getElem (by omega)) (List.getElem?_eq_getElem (by omega)), .inr ⟨T, _, hT, (fun _ z => by cases z), rfl, .tup (SqT.of upd_same) (.cons ?_ (.cons ?_ .nil))⟩⟩
    · exact dp_mono (e1.trans (same_upd g1)) _ _ dx
    · exact dp_mono (e1.trans (same_upd g1)) _ _ dy
  stop := fun i H e hi => by
    rw [zipD_len] at hi
    refine ⟨v1, v2, sqT_mono e q1, sqT_mono e q2, ?_⟩
    rw [dpa_len a1, dpa_len a2]
    omega
theorem di_zipL {as bs : List PyData} {elts : List Expr} {kk : Nat} {tpos : Pos} (ha : PA X [a, b] (tDA X.K F Γ [.dat (.list as), .dat (.list bs)] Γ1)) (hm : X.mg "zip" = none) (hg : Gl X "zip" := by rfl) (hs : starEach [a, b] X.env = (false, eval a X.env) :: starEach [b] X.env := by rfl) (hpl : (backTo pos (starEach [b] X.env)).any (·.1) = false := by rfl) :
    PI X (.Tuple elts kk tpos) (.Call (.Name "zip" p) [a, b] [] pos) (tI X.K F Γ (zipD as bs) Γ1) := by
  have h := RZ.pi_zipA (elts := elts) (kk := kk) (tpos := tpos) (p := p) (pos := pos) hg hm ha hs hpl
  refine ⟨fun pins s σ H R I ⟨G, E, q⟩ => h.run pins s σ H R I ⟨G, E, fun vs H1 G1 s1 E1 v1 => ?_⟩⟩
  obtain ⟨v, w, rfl, h1, h2⟩ := paired2 v1
  obtain ⟨p1, u1, rfl, q1, a1⟩ := dp_lst h1
  obtain ⟨p2, u2, rfl, q2, a2⟩ := dp_lst h2
  exact ⟨p1, p2, u1, u2, rfl, .inl ⟨.inl (rd_mono E1.le (.inl q1)), .inl (rd_mono E1.le (.inl q2)), q _ H1 G1 s1 E1 (itd_zipL (.inl q1) a1 (.inl q2) a2)⟩⟩
theorem di_zipT {as bs : List PyData} {elts : List Expr} {kk : Nat} {tpos : Pos} (ha : PA X [a, b] (tDA X.K F Γ [.dat (.tuple as), .dat (.tuple bs)] Γ1)) (hm : X.mg "zip" = none) (hg : Gl X "zip" := by rfl) (hs : starEach [a, b] X.env = (false, eval a X.env) :: starEach [b] X.env := by rfl) (hpl : (backTo pos (starEach [b] X.env)).any (·.1) = false := by rfl) :
    PI X (.Tuple elts kk tpos) (.Call (.Name "zip" p) [a, b] [] pos) (tI X.K F Γ (zipD as bs) Γ1) := by
  have h := RZ.pi_zipA (elts := elts) (kk := kk) (tpos := tpos) (p := p) (pos := pos) hg hm ha hs hpl
  refine ⟨fun pins s σ H R I ⟨G, E, q⟩ => h.run pins s σ H R I ⟨G, E, fun vs H1 G1 s1 E1 v1 => ?_⟩⟩
  obtain ⟨v, w, rfl, h1, h2⟩ := paired2 v1
  obtain ⟨p1, u1, rfl, q1, a1⟩ := dp_tup h1
  obtain ⟨p2, u2, rfl, q2, a2⟩ := dp_tup h2
  exact ⟨p1, p2, u1, u2, rfl, .inr ⟨sqT_mono E1.le q1, sqT_mono E1.le q2, q _ H1 G1 s1 E1 (itd_zipT q1 a1 q2 a2)⟩⟩
end
end AM
set_option Elab.async false
set_option linter.all false
set_option maxRecDepth 100000
set_option maxHeartbeats 2000000
namespace AM
open PySem PySem.Spec PyProof.Rows L2
def spB (K : PySem.W.Frag) (R : List PyData → List PyData → PyData → List PyData → Prop) : Sp := fun vs H Q _ => ∃ G p xs ds bs ws d xs', vs = .ref p :: ws ∧ Same G H ∧ NT G ∧ G p = none ∧ H p = some (.lst bs) ∧ DqAll K G bs xs ∧ DqAll K G ws ds ∧ R xs ds d xs' ∧
  ∀ v H' G' bs', (∀ a o, a ≠ p → H a = some o → H' a = some o) → Same G G' → Same G' H' → (∀ a o, G' a = some o → (∃ o', G a = some o') ∨ H a = none) → NT G' → H' p = some (.lst bs') → DqAll K G' bs' xs' → Dq K G' v d → Q v H'
def wantB (d : PyData) (xs : List PyData) : Out → Prop
  | .rt d' Γ => d' = d ∧ lk Γ 0 = .own xs
  | .nx Γ => d = .none ∧ lk Γ 0 = .own xs
  | _ => False
def startB (N : Nat) (xs ds : List PyData) : List Sl := .own xs :: (ds.map .dat ++ List.replicate (N - 1 - ds.length) .no)
section
variable {P : Program} {w : World} {K : PySem.W.Frag} {mg : Str → Option Value} {base : Heap}
def fxB (i : Nat) (p : Addr) (H G : Hp) (T : List (Addr × Str) := []) : Fx := ⟨[(i, p)], H, G, T⟩
theorem fxB_M {i : Nat} {p : Addr} {H G : Hp} {a : Addr} : (fxB i p H G).M a ↔ a = p := by
  constructor
  · rintro (⟨j, h⟩ | ⟨q, h⟩)
    · rcases List.mem_cons.mp h with h | h
      · cases h; rfl
      · cases h
    · cases h
  · rintro rfl
    exact .inl ⟨i, List.mem_cons_self⟩
theorem fxB_MT {i : Nat} {p : Addr} {H G : Hp} {T : List (Addr × Str)} {a : Addr} : (fxB i p H G T).M a ↔ a = p ∨ ∃ q, (a, q) ∈ T := by
  constructor
  · rintro (⟨j, h⟩ | h)
    · rcases List.mem_cons.mp h with h | h
      · cases h; exact .inl rfl
      · cases h
    · exact .inr h
  · rintro (rfl | h)
    · exact .inl ⟨i, List.mem_cons_self⟩
    · exact .inr h
theorem lk_startB (N : Nat) (xs ds : List PyData) (i : Nat) : lk (startB N xs ds) i = (match i with | 0 => .own xs | i + 1 => (match ds[i]? with | some d => .dat d | none => .no)) := by
  cases i with
  | zero => rfl
  | succ i =>
    show lk (ds.map .dat ++ List.replicate (N - 1 - ds.length) .no) i = _
    exact lk_start (N - 1) ds i
theorem env_startB {G H : Hp} {p : Addr} {bs ws : List V} {xs ds : List PyData} {N : List Str} (sg : Same G H) (nt : NT G) (gp : G p = none) (hp : H p = some (.lst bs)) (hb : DqAll K G bs xs) (ha : DqAll K G ws ds) (hl : ds.length + 1 ≤ N.length) :
    En K (fxB 0 p H G) G (L2.start N (.ref p :: ws)) H (startB N.length xs ds) where
  le := sg
  g0 := Same.r
  fr := fun a o h => .inl ⟨o, h⟩
  base := fun a o _ h => h
  mu := fun a z => by rw [fxB_M] at z; subst z; exact ⟨_, hp⟩
  sl := fun i => by
    rw [lk_startB]
    cases i with
    | zero => exact ⟨p, bs, rfl, gp, hp, hb, .inl (fxB_M.mpr rfl)⟩
    | succ i =>
      show SlOk K _ G H (match ds[i]? with | some d => .dat d | none => .no) _
      cases q : ds[i]? with
      | none => trivial
      | some d =>
        obtain ⟨v, hv, hd⟩ := dpa_get ha q
        refine ⟨v, ?_, hd⟩
        unfold L2.start
        rw [List.getElem?_append_left (by have := (List.getElem?_eq_some_iff.mp hv).1; simp; omega), List.getElem?_map]
        simp [hv]
  nd := fun i j p' ys zs e1 e2 _ _ => by
    have aux : ∀ i ys, ownK (lk (startB N.length xs ds) i) = some ys → i = 0 := fun i ys e => by
      rw [lk_startB] at e
      cases i with
      | zero => rfl
      | succ i =>
        have e : ownK (match ds[i]? with | some d => Sl.dat d | none => .no) = some ys := e
        cases q : ds[i]? <;> rw [q] at e <;> cases e
    rw [aux i ys e1, aux j zs e2]
  len := by
    have e := dpa_len ha
    simp [L2.start, startB, e]
    omega
  pin := fun q hq => by
    rcases List.mem_cons.mp hq with rfl | hq
    · exact ⟨rfl, xs, rfl⟩
    · cases hq
  tab := fun q hq => by cases hq
  nt := nt
theorem fn_bag {x qual : Str} {st : Stmt} {f : Addr} {fd : FuncData} {N ps : List Str} {k : Nat} {R : List PyData → List PyData → PyData → List PyData → Prop} (Fn : FunG K x qual st f fd) (S : FnScope N ps (defScope st)) (len : ∀ xs ds d xs', R xs ds d xs' → ds.length + 1 = ps.length) (hle : ps.length ≤ N.length)
    (body : ∀ (cdv : Value) (A : Around) (outer : List PySem.Env) (s : Shared) (H G : Hp) (E : XK) (p : Addr) (xs ds : List PyData) (d : PyData) (xs' : List PyData), Room k (A.deeper (envOfC qual (defScope st) s.heap.objs.size f cdv)) → R xs ds d xs' →
      PSs (cxOf (L2.CX P w) P w K mg base N qual (defScope st) f cdv A outer s H E) (defBody st) (tS K (fxB 0 p H G) (fun c d _ H => E c d H) (startB N.length xs ds) (wantB d xs'))) : FnOk P w K mg base (L2.CX P w) (k + 1) f fd ps (spB K R) := by
  refine Fn.okX S (fun vs H Q E h => ?_) (fun cdv A outer s H vs Q E hr h => ?_)
  · obtain ⟨G, p, xs, ds, bs, ws, d, xs', rfl, _, _, _, _, _, ha, hR, _⟩ := h
    rw [List.length_cons, dpa_len ha]; exact len _ _ _ _ hR
  · obtain ⟨G, p, xs, ds, bs, ws, d, xs', rfl, sg, nt, gp, hp, hb, ha, hR, q⟩ := h
    refine ⟨_, body cdv A outer s H G E p xs ds d xs' hr hR, ?_⟩
    have E0 := env_startB (K := K) (N := N) sg nt gp hp hb ha (by rw [len _ _ _ _ hR]; exact hle)
    have fin : ∀ {v σ' H' G' Γ'}, Same G G' → En K (fxB 0 p H G) G' σ' H' Γ' → lk Γ' 0 = .own xs' → Dq K G' v d → Q v H' := fun {v σ' H' G' Γ'} g E' e hd => by
      obtain ⟨e1, _⟩ := E'.pin (0, p) List.mem_cons_self
      have s := E'.sl 0
      rw [e] at s
      obtain ⟨p', bs', e2, g2, hp2, ha2, _⟩ := s
      have e1 : σ'[0]? = some (some (.ref p)) := e1
      rw [e1] at e2
      cases e2
      exact q v H' G' bs' (fun a o ne h => E'.base a o (fun z => ne (fxB_M.mp z)) h) g E'.le E'.fr E'.nt hp2 ha2 hd
    refine ⟨G, E0, ?_, ?_, ?_, ?_, ?_⟩
    · intro Γ' σ' H' G' ⟨p1, p2⟩ g E'
      subst p1
      exact fin g E' p2 .non
    · intro d' Γ' v σ' H' G' ⟨p1, p2⟩ g E' hd
      subst p1
      exact fin g E' p2 hd
    · intro Γ' σ' H' G' p; exact p.elim
    · intro Γ' σ' H' G' p; exact p.elim
    · intro c Γ' σ' H' G' p; exact p.elim
end
section
variable {X : Cx} {F : Fx} {Γ Γ1 Γ2 : List Sl} {a e : Expr} {es : List Expr} {pos p : Pos} {k : Nat} {f : Addr} {fd : FuncData} {ps : List Str} {x : Str} {R : List PyData → List PyData → PyData → List PyData → Prop} {rs : List Rv} {xs xs' ds : List PyData} {d : PyData} {i : Nat}
theorem de_bag (Gf : FnOk X.prog X.w X.K X.mg X.base (L2.CX X.prog X.w) k f fd ps (spB X.K R)) (hr : Room k X.A) (hm : X.mg x = some (.ref f)) (hk : PySem.W.keepIn X.K (.ref f) = true) (hb : Binds X.K fd ps []) (ha : PA X (e :: es) (tDA X.K F Γ (.al i :: rs) Γ1)) (hR : R xs ds d xs') (hl : lk Γ1 i = .own xs := by rfl) (hd : datS rs = some ds := by rfl)
    (hg : Gl X x := by rfl) (hdb : (x == ("__debug__" : Str)) = false := by decide) (he : starEach (e :: es) X.env = (false, eval e X.env) :: starEach es X.env := by rfl) (hpl : (backTo pos (starEach es X.env)).any (·.1) = false := by rfl) :
    PE X (.Call (.Name x p) (e :: es) [] pos) (tD X.K F Γ (.dat d) (st Γ1 i (.own xs'))) :=
  pe_imp (pe_callS (E := WE fun _ _ _ _ => False) Gf hr hg hm hk hb (fun σ => passAt takes0 σ) ha hdb he hpl) fun σ H Q ⟨G, E, q⟩ => ⟨G, E, fun vs H1 G1 s1 E1 v1 => by
    cases v1 with
    | cons hv v1 =>
      rename_i v0 ws
      obtain ⟨p, bs, es', gp, hp, hbs⟩ := own_at E1 hl
      have hv : σ[i]? = some (some v0) := hv
      rw [es'] at hv
      have : V.ref p = v0 := Option.some.inj (Option.some.inj hv)
      subst this
      refine ⟨G1, p, xs, ds, bs, ws, d, xs', rfl, E1.le, E1.nt, gp, hp, hbs, datS_dp v1 hd, hR, fun v H' G' bs' k1 g1 le1 f1 nt1 hp' hb' hv' => ?_⟩
      have hi : i < Γ1.length := by
        apply Classical.byContradiction
        intro z
        rw [lk_big _ _ (by omega)] at hl
        cases hl
      have gp' : G' p = none := by
        cases z : G' p with
        | none => rfl
        | some o =>
          rcases f1 p o z with ⟨o', z'⟩ | z'
          · rw [gp] at z'; cases z'
          · rw [hp] at z'; cases z'
      have hO : Own σ Γ1 p := ⟨i, _, own_l hl, es'⟩
      have hown := E1.sl i
      rw [hl] at hown
      obtain ⟨p2, bs2, e2, _, _, _, hm2⟩ := hown
      rw [es'] at e2
      cases e2
      refine q v H' G' (s1.trans ⟨g1, fun a o h => (f1 a o h).imp id Nl.none, fun a o h n _ => k1 a o (fun z => n (by rw [z]; exact hO)) h, fun a ⟨j, ys, z1, z2⟩ => ?_, fun a us l h => ?_⟩) ⟨le1, fun a o h => g1 a o (E1.g0 a o h), fun a o h => ?_, fun a o n h => ?_, fun a m => ?_, fun j => ?_, fun a b p' ys zs e1 e2 e3 e4 => ?_, by rw [st_length]; exact E1.len, fun q hq => ⟨(E1.pin q hq).1, ?_⟩, tabs_keep E1.tab fun a o h n => k1 a o (fun z => n .l bs (by rw [z, hp] at h; exact (Option.some.inj h).symm)) h, nt1⟩ hv'
      · by_cases w : i = j
        · subst w; exact ⟨i, _, own_l hl, z2⟩
        · rw [lk_st_ne _ _ _ _ w] at z1; exact ⟨j, ys, z1, z2⟩
      · by_cases w : a = p
        · subst w; exact ⟨_, ld_lst _, hp'⟩
        · exact ⟨us, l, k1 a _ w h⟩
      · rcases f1 a o h with ⟨o', h'⟩ | h'
        · exact E1.fr a o' h'
        · exact .inr (E1.no h').1
      · have := E1.base a o n h
        refine k1 a o (fun w => ?_) this
        subst w
        rcases hm2 with m | m
        · exact n m
        · rw [m] at h; cases h
      · obtain ⟨o, h⟩ := E1.mu a m
        by_cases w : a = p
        · subst w; exact ⟨_, hp'⟩
        · exact ⟨o, k1 a o w h⟩
      · by_cases w : i = j
        · subst w
          rw [lk_st_same _ _ _ hi]
          exact ⟨p, bs', es', gp', hp', hb', hm2⟩
        · rw [lk_st_ne _ _ _ _ w]
          have s := E1.sl j
          cases ql : lk Γ1 j with
          | no => trivial
          | dat d' => rw [ql] at s; obtain ⟨v', z1, z2⟩ := s; exact ⟨v', z1, dp_mono g1 _ _ z2⟩
          | own zs =>
            rw [ql] at s
            obtain ⟨a', ws', e3, g3, hp3, ha3, hm3⟩ := s
            have ne : a' ≠ p := fun z => by
              subst z
              exact w (E1.nd i j a' _ _ (own_l hl) (own_l ql) es' e3)
            refine ⟨a', ws', e3, ?_, k1 _ _ ne hp3, dpa_mono g1 _ _ ha3, hm3⟩
            cases z : G' a' with
            | none => rfl
            | some o =>
              rcases f1 a' o z with ⟨o', z'⟩ | z'
              · rw [g3] at z'; cases z'
              · rw [hp3] at z'; cases z'
          | dct ks zs =>
            rw [ql] at s
            obtain ⟨a', ws', e3, g3, hp3, ha3, hm3⟩ := s
            have ne : a' ≠ p := fun z => by
              subst z
              exact w (E1.nd i j a' _ _ (own_l hl) (own_d ql) es' e3)
            refine ⟨a', ws', e3, ?_, k1 _ _ ne hp3, dpa_mono g1 _ _ ha3, hm3⟩
            cases z : G' a' with
            | none => rfl
            | some o =>
              rcases f1 a' o z with ⟨o', z'⟩ | z'
              · rw [g3] at z'; cases z'
              · rw [hp3] at z'; cases z'
          | dcl p0 ob0 vs0 ks zs =>
            rw [ql] at s
            obtain ⟨a', ws', e3, g3, ⟨ob, hp3⟩, ha3, hm3⟩ := s
            have ne : a' ≠ p := fun z => by
              rw [z, hp] at hp3
              cases hp3
            refine ⟨a', ws', e3, ?_, ⟨ob, k1 _ _ ne hp3⟩, dpa_mono g1 _ _ ha3, hm3⟩
            cases z : G' a' with
            | none => rfl
            | some o =>
              rcases f1 a' o z with ⟨o', z'⟩ | z'
              · rw [g3] at z'; cases z'
              · rw [hp3] at z'; cases z'
      · have aux : ∀ c zs, ownK (lk (st Γ1 i (.own xs')) c) = some zs → ∃ zs', ownK (lk Γ1 c) = some zs' := fun c zs h => by
          by_cases w : i = c
          · subst w; exact ⟨_, own_l hl⟩
          · rw [lk_st_ne _ _ _ _ w] at h; exact ⟨zs, h⟩
        obtain ⟨y1, h1⟩ := aux a ys e1
        obtain ⟨y2, h2⟩ := aux b zs e2
        exact E1.nd a b p' y1 y2 h1 h2 e3 e4
      · by_cases w : i = q.1
        · rw [← w, lk_st_same _ _ _ hi]; exact ⟨xs', rfl⟩
        · rw [lk_st_ne _ _ _ _ w]; exact (E1.pin q hq).2⟩
end
structure Bag where
  x : Int
  y : Int
  z : Int
def bagD (b : Bag) : List PyData := [.int b.x, .int b.y, .int b.z]
def bagV (b : Bag) : List V := [.int b.x, .int b.y, .int b.z]
structure BagOk (n : Int) (b : Bag) : Prop where
  y0 : 0 ≤ b.y
  y1 : b.y < 2305843009213693951
  z0 : 0 ≤ b.z
  z1 : b.z ≤ n
theorem BagOk.mono {n m : Int} {b : Bag} (h : BagOk n b) (e : n ≤ m) : BagOk m b := ⟨h.y0, h.y1, h.z0, Int.le_trans h.z1 e⟩
def P61 : Int := 2305843009213693951
def take (b : Bag) (m : Int) : Int × Bag :=
  if 0 < b.x then (b.x.fmod m, ⟨b.x.fdiv m, b.y, b.z⟩)
  else
    let n := (b.y + 1000003 * (b.z + 1)).fmod P61
    let n2 := (n * n + 7919 * (b.z + 1) ^ 2 + 5).fmod P61
    ((((n2 ^ 3).fmod P61).fdiv 13).fmod m, ⟨b.x, b.y, b.z + 1⟩)
theorem fmod_rng (a : Int) {m : Int} (h : 0 < m) : 0 ≤ a.fmod m ∧ a.fmod m < m := ⟨by rw [Int.fmod_eq_emod_of_nonneg _ (by omega)]; exact Int.emod_nonneg _ (by omega), by rw [Int.fmod_eq_emod_of_nonneg _ (by omega)]; exact Int.emod_lt_of_pos _ h⟩
theorem take_rng (b : Bag) {m : Int} (h : 0 < m) : 0 ≤ (take b m).1 ∧ (take b m).1 < m := by
  unfold take
  split
  · exact fmod_rng _ h
  · exact fmod_rng _ h
theorem take_ok {n : Int} {b : Bag} (h : BagOk n b) (m : Int) : BagOk (n + 1) (take b m).2 := by
  have h1 := h.z0
  have h2 := h.z1
  unfold take
  split
  · exact ⟨h.y0, h.y1, h.z0, by show b.z ≤ n + 1; omega⟩
  · exact ⟨h.y0, h.y1, by show 0 ≤ b.z + 1; omega, by show b.z + 1 ≤ n + 1; omega⟩
def tBags (K : PySem.W.Frag) : TE := fun σ H Q => (∃ (a : Addr) (ns : List Int), σ[0]? = some (some (.ref a)) ∧ SqL K H a (ns.map V.int) ∧ ns.length ≤ 63) ∧
  ∀ (l : Addr) (bs : List Addr) (H' : Hp), Same H H' → H' l = some (.lst (bs.map V.ref)) → bs.Nodup → l ∉ bs → (∀ b ∈ bs, ∃ B : Bag, BagOk 100000 B ∧ H' b = some (.lst (bagV B))) → Q (.ref l) H'
def bagΓ (n ib : Nat) (B : Bag) : List Sl := st (List.replicate n .no) ib (.own (bagD B))
def lawP (n : Nat) : Out → Prop
  | .nx Γ => Γ.length = n
  | .ct Γ => Γ.length = n
  | _ => False
theorem lk_rep (n i : Nat) : lk (List.replicate n Sl.no) i = .no := by
  induction n generalizing i with
  | zero => rfl
  | succ n ih =>
    cases i with
    | zero => rfl
    | succ i => exact ih i
theorem bagV_D {K : PySem.W.Frag} {G : Hp} (B : Bag) : DqAll K G (bagV B) (bagD B) := .cons (.int _) (.cons (.int _) (.cons (.int _) .nil))
def cln (H : Hp) : Hp := fun a => match H a with
  | some (.tbl _) => none
  | o => o
theorem cln_le (H : Hp) : Same (cln H) H := fun a o h => by
  unfold cln at h
  cases q : H a with
  | none => rw [q] at h; cases h
  | some u => rw [q] at h; cases u <;> first | exact h | cases h
theorem cln_nt (H : Hp) : NT (cln H) := fun a o h ps z => by
  subst z
  unfold cln at h
  cases q : H a with
  | none => rw [q] at h; cases h
  | some u => rw [q] at h; cases u <;> cases h
theorem cln_lst {H : Hp} {a : Addr} {vs : List V} (h : H a = some (.lst vs)) : cln H a = some (.lst vs) := by unfold cln; rw [h]
theorem env_bag {K : PySem.W.Frag} {H : Hp} {σ : L2.St} {n ib : Nat} {p : Addr} {B : Bag} {T : List (Addr × Str)} (hl : σ.length = n) (hi : ib < n) (hp : H p = some (.lst (bagV B))) (es : σ[ib]? = some (some (.ref p))) (tb : LamX.Tabs T H) : En K (fxB ib p (cln H) (fun _ => none) T) (fun _ => none) σ H (bagΓ n ib B) := by
  have hn : ib < (List.replicate n Sl.no).length := by rw [List.length_replicate]; exact hi
  have lkE : ∀ j, lk (bagΓ n ib B) j = if ib = j then .own (bagD B) else .no := fun j => by
    unfold bagΓ
    by_cases w : ib = j
    · subst w; rw [if_pos rfl]; exact lk_st_same _ _ _ hn
    · rw [if_neg w, lk_st_ne _ _ _ _ w, lk_rep]
  refine ⟨fun a o h => (by cases h), fun a o h => (by cases h), fun a o h => (by cases h), fun a o _ h => cln_le H a o h, fun a m => ?_, fun j => ?_, fun i j p' xs ys e1 e2 _ _ => ?_, ?_, fun q hq => ?_, tb, fun a o h => (by cases h)⟩
  · rw [fxB_MT] at m
    rcases m with rfl | ⟨q, m⟩
    · exact ⟨_, hp⟩
    · obtain ⟨ps, h1, _⟩ := tb _ m
      exact ⟨_, h1⟩
  · rw [lkE]
    by_cases w : ib = j
    · subst w
      rw [if_pos rfl]
      exact ⟨p, _, es, rfl, hp, bagV_D B, .inl (fxB_MT.mpr (.inl rfl))⟩
    · rw [if_neg w]; trivial
  · rw [lkE] at e1 e2
    by_cases w1 : ib = i
    · by_cases w2 : ib = j
      · rw [← w1, ← w2]
      · rw [if_neg w2] at e2; cases e2
    · rw [if_neg w1] at e1; cases e1
  · unfold bagΓ; rw [st_length, List.length_replicate]; exact hl
  · rcases List.mem_cons.mp hq with rfl | hq
    · exact ⟨es, bagD B, by rw [lkE, if_pos rfl]⟩
    · cases hq
def TZ (T : List (Addr × Str)) (H : Hp) : Prop := ∀ p ∈ T, H p.1 = none
theorem cln_tz {T : List (Addr × Str)} {H : Hp} (tb : LamX.Tabs T H) : TZ T (cln H) := fun p hp => by
  obtain ⟨ps, h1, _⟩ := tb p hp
  unfold cln
  rw [h1]
def tBody (K : PySem.W.Frag) (n ib : Nat) (T : List (Addr × Str)) : TS := fun D σ H => ∃ (H0 : Hp) (p : Addr) (B : Bag), BagOk 100000 B ∧ (NT H0 ∧ TZ T H0) ∧ tS K (fxB ib p H0 (fun _ => none) T) (fun _ _ _ _ => False) (bagΓ n ib B) (lawP n) D σ H
theorem law_loop {X : Cx} {iter : Expr} {body : List Stmt} {x : Str} {n : Nat} {p1 p2 p3 p4 : Pos} {j : Nat} {T : List (Addr × Str)} (ib : Nat) (hit : PE X iter (tBags X.K)) (hN : X.N.Nodup) (hn : X.N.length = n) (hp : PassesOwn (model X.prog X.w) X.A X.env X.xe) (hib : ib < n)
    (hb : ∀ (H : Hp) (p : Addr) (B : Bag), BagOk 100000 B → NT H ∧ TZ T H → PSs X body (tS X.K (fxB ib p H (fun _ => none) T) (fun _ _ _ _ => False) (bagΓ n ib B) (lawP n)))
    (hi : X.N[ib]? = some x := by rfl) (hx : Loc X.env.scope x := by first | exact Or.inl rfl | exact Or.inr rfl) (hc : X.calm = true := by rfl) (hf : X.fn x = true ∨ X.env.scope.names.lookup x = some .local := by first | exact .inl rfl | exact .inr rfl) (hs : ∀ x, foldedSetIterable iter X.env x = pure x := by intro _; rfl) :
    PSs X [.For (.Name x p1) iter body [] p2, .Return (some (.Constant (.bool true) j p3)) p4] (fun D σ H => σ.length = n ∧ (∃ (a : Addr) (ns : List Int), σ[0]? = some (some (.ref a)) ∧ SqL X.K H a (ns.map V.int) ∧ ns.length ≤ 63) ∧ LamX.Tabs T H ∧ ∀ H', D.rt (.bl true) H') := by
  have hB : PSs X body (tBody X.K n ib T) := ⟨fun pins s σ H D I ⟨H0, p, B, ok, nt, q⟩ => (hb H0 p B ok nt).run pins s σ H D I q⟩
  refine pss_imp (pss_cons (ps_for hp hc (pi_list hit) (pg_name hN hi hx hf) hB hs) (pss_one (ps_ret pe_bl))) fun D σ H ⟨hl, hsc, tb0, q⟩ => ⟨hsc, fun l bs H1 sm1 h1 nd nl hbs => ⟨l, rfl, ⟨_, .inl (.inl h1)⟩, ?_⟩⟩
  refine for_list (K := X.K) (a := l) (xs := bs.map V.ref) (g := gName ib) (tb := tBody X.K n ib T) (D := { D with nx := tRet (tC (.bl true)) D }) (fun i σ H => σ.length = n ∧ LamX.Tabs T H ∧ H l = some (.lst (bs.map V.ref)) ∧ ∀ j, i ≤ j → ∀ b, bs[j]? = some b → ∃ B : Bag, BagOk 100000 B ∧ H b = some (.lst (bagV B))) ⟨hl, tb0.ext sm1, h1, fun j _ b e => hbs b (List.mem_of_getElem? e)⟩ (fun i σ H _ ⟨_, _, h, _⟩ => .inl (.inl h)) ?_ ?_
  · rintro i v σ H hv ⟨hl', tb, hL, hBs⟩
    rw [List.getElem?_map] at hv
    obtain ⟨b, hb', rfl⟩ := Option.map_eq_some_iff.mp hv
    obtain ⟨B, ok, hbB⟩ := hBs i (Nat.le_refl _) b hb'
    refine ⟨cln H, b, B, ok, ⟨cln_nt H, cln_tz tb⟩, fun _ => none, env_bag (by rw [List.length_set]; exact hl') hib hbB (List.getElem?_set_self (by rw [hl']; exact hib)) tb, ?_⟩
    have nlb : l ≠ b := fun z => nl (by rw [z]; exact List.mem_of_getElem? hb')
    have fin : ∀ Γ' σ' H' G', Γ'.length = n → En X.K (fxB ib b (cln H) (fun _ => none) T) G' σ' H' Γ' → (σ'.length = n ∧ LamX.Tabs T H' ∧ H' l = some (.lst (bs.map V.ref)) ∧ ∀ j, i + 1 ≤ j → ∀ b, bs[j]? = some b → ∃ B : Bag, BagOk 100000 B ∧ H' b = some (.lst (bagV B))) := fun Γ' σ' H' G' hΓ E' => by
      refine ⟨by rw [E'.len]; exact hΓ, E'.tab, E'.base l _ (fun z => (fxB_MT.mp z).elim nlb (tabs_ne tb hL)) (cln_lst hL), fun j hj c hc' => ?_⟩
      obtain ⟨B', ok', hc2⟩ := hBs j (by omega) c hc'
      refine ⟨B', ok', E'.base c _ (fun z => ?_) (cln_lst hc2)⟩
      have e : c = b := (fxB_MT.mp z).elim id fun z => (tabs_ne tb hc2 z).elim
      subst e
      have := (List.getElem?_inj (by have := (List.getElem?_eq_some_iff.mp hb').1; omega : i < bs.length) nd).mp (hb'.trans hc'.symm)
      omega
    refine ⟨fun Γ' σ' H' G' hp _ E' => fin Γ' σ' H' G' hp E', fun d Γ' v σ' H' G' hp => hp.elim, fun Γ' σ' H' G' hp => hp.elim, fun Γ' σ' H' G' hp _ E' => fin Γ' σ' H' G' hp E', fun c Γ' σ' H' G' hp => hp.elim⟩
  · rintro σ H ⟨_, _, _⟩
    exact q H
def spLaw (K : PySem.W.Frag) (T : List (Addr × Str) := []) : Sp := fun vs H Q _ => ∃ (a : Addr) (ns : List Int), vs = [.ref a] ∧ SqL K H a (ns.map V.int) ∧ ns.length ≤ 63 ∧ LamX.Tabs T H ∧ ∀ H', Q (.bl true) H'
def spWell (K : PySem.W.Frag) : Sp := fun vs H Q _ => ∃ (c t : Int), vs = [.int c, .int t] ∧ 0 ≤ t ∧ t ≤ 100000 ∧ ∀ p H' B, Same H H' → H p = none → H' p = some (.lst (bagV B)) → BagOk 100000 B → Q (.ref p) H'
def spBags (K : PySem.W.Frag) : Sp := fun vs H Q _ => ∃ (a : Addr) (ns : List Int) (m : Int), vs = [.ref a, .int m] ∧ SqL K H a (ns.map V.int) ∧ ns.length ≤ 63 ∧
  ∀ (l : Addr) (bs : List Addr) (H' : Hp), Same H H' → H' l = some (.lst (bs.map V.ref)) → bs.Nodup → l ∉ bs → (∀ b ∈ bs, ∃ B : Bag, BagOk 100000 B ∧ H' b = some (.lst (bagV B))) → Q (.ref l) H'
end AM
set_option Elab.async false
set_option linter.all false
set_option maxRecDepth 100000
set_option maxHeartbeats 2000000
namespace AM
open PySem PySem.Spec PyProof.Rows L2
structure Bt (mg : Str → Option Value) : Prop where
  isi : mg "isinstance" = none
  int : mg "int" = none
  bool : mg "bool" = none
  str : mg "str" = none
  list : mg "list" = none
  tuple : mg "tuple" = none
  len : mg "len" = none
  abs : mg "abs" = none
  max : mg "max" = none
  min : mg "min" = none
  all : mg "all" = none
  any : mg "any" = none
  sum : mg "sum" = none
  range : mg "range" = none
  enum : mg "enumerate" = none
  zip : mg "zip" = none
  sorted : mg "sorted" = none
  dict : mg "dict" = none
  set : mg "set" = none
theorem bt_int : bootBuiltins "int" = some (.type "int") := by decide +kernel
theorem bt_bool : bootBuiltins "bool" = some (.type "bool") := by decide +kernel
theorem bt_str : bootBuiltins "str" = some (.type "str") := by decide +kernel
theorem bt_list : bootBuiltins "list" = some (.type "list") := by decide +kernel
theorem bt_tuple : bootBuiltins "tuple" = some (.type "tuple") := by decide +kernel
structure Def (K : PySem.W.Frag) (mg : Str → Option Value) (x : Str) (st : Stmt) (ps : List Str) : Prop where
  ex : ∃ f fd, FunG K x x st f fd ∧ mg x = some (.ref f) ∧ Binds K fd ps []
structure Cal (P : Program) (w : World) (K : PySem.W.Frag) (mg : Str → Option Value) (base : Heap) (k : Nat) (x : Str) (ps : List Str) (sp : Sp) : Prop where
  ex : ∃ f fd, FnOk P w K mg base (L2.CX P w) k f fd ps sp ∧ mg x = some (.ref f) ∧ PySem.W.keepIn K (.ref f) = true ∧ Binds K fd ps []
section
variable {P : Program} {w : World} {K : PySem.W.Frag} {mg : Str → Option Value} {base : Heap} {k : Nat} {x : Str} {st : Stmt} {N ps : List Str} {sp sp' : Sp}
theorem Cal.mono {j : Nat} (C : Cal P w K mg base j x ps sp) (h : j ≤ k) : Cal P w K mg base k x ps sp := by
  obtain ⟨f, fd, h1, h2, h3, h4⟩ := C.ex
  exact ⟨f, fd, h1.mono h, h2, h3, h4⟩
theorem Cal.imp (C : Cal P w K mg base k x ps sp) (h : ∀ vs H Q E, sp' vs H Q E → sp vs H Q E) : Cal P w K mg base k x ps sp' := by
  obtain ⟨f, fd, h1, h2, h3, h4⟩ := C.ex
  exact ⟨f, fd, h1.imp h, h2, h3, h4⟩
theorem cal_pure {R : List PyData → Res → Prop} (D : Def K mg x st ps) (S : FnScope N ps (defScope st)) (len : ∀ ds r, R ds r → ds.length = ps.length) (hle : ps.length ≤ N.length)
    (body : ∀ (f : Addr) (cdv : Value) (A : Around) (outer : List PySem.Env) (s : Shared) (H G : Hp) (E : XK) (ds : List PyData) (r : Res), Room k (A.deeper (envOfC x (defScope st) s.heap.objs.size f cdv)) → R ds r →
      PSs (cxOf (L2.CX P w) P w K mg base N x (defScope st) f cdv A outer s H E) (defBody st) (tS K (fx0 H G) (fun c d _ H => E c d H) (startG N.length ds) (wantP r))) : Cal P w K mg base (k + 1) x ps (spP K R) := by
  obtain ⟨f, fd, F, h1, h2⟩ := D.ex
  exact ⟨f, fd, fn_pure F S len hle (body f), h1, F.kp, h2⟩
theorem cal_bag {R : List PyData → List PyData → PyData → List PyData → Prop} (D : Def K mg x st ps) (S : FnScope N ps (defScope st)) (len : ∀ xs ds d xs', R xs ds d xs' → ds.length + 1 = ps.length) (hle : ps.length ≤ N.length)
    (body : ∀ (f : Addr) (cdv : Value) (A : Around) (outer : List PySem.Env) (s : Shared) (H G : Hp) (E : XK) (p : Addr) (xs ds : List PyData) (d : PyData) (xs' : List PyData), Room k (A.deeper (envOfC x (defScope st) s.heap.objs.size f cdv)) → R xs ds d xs' →
      PSs (cxOf (L2.CX P w) P w K mg base N x (defScope st) f cdv A outer s H E) (defBody st) (tS K (fxB 0 p H G) (fun c d _ H => E c d H) (startB N.length xs ds) (wantB d xs'))) : Cal P w K mg base (k + 1) x ps (spB K R) := by
  obtain ⟨f, fd, F, h1, h2⟩ := D.ex
  exact ⟨f, fd, fn_bag F S len hle (body f), h1, F.kp, h2⟩
theorem cal_raw (D : Def K mg x st ps) (S : FnScope N ps (defScope st)) (len : ∀ vs H Q E, sp vs H Q E → vs.length = ps.length)
    (body : ∀ (f : Addr) (cdv : Value) (A : Around) (outer : List PySem.Env) (s : Shared) (H : Hp) (vs : List V) (Q : VK) (E : XK), Room k (A.deeper (envOfC x (defScope st) s.heap.objs.size f cdv)) → sp vs H Q E →
      ∃ t, PSs (cxOf (L2.CX P w) P w K mg base N x (defScope st) f cdv A outer s H E) (defBody st) t ∧ t { nx := fun _ H' => Q .non H', rt := Q } (L2.start N vs) H) : Cal P w K mg base (k + 1) x ps sp := by
  obtain ⟨f, fd, F, h1, h2⟩ := D.ex
  exact ⟨f, fd, F.okX S len (body f), h1, F.kp, h2⟩
end
section
variable {X : Cx} {F : Fx} {Γ Γ1 Γ2 : List Sl} {a b c e : Expr} {es : List Expr} {pos p p2 : Pos} {k : Nat} {ps : List Str} {x : Str} {rs : List Rv} {xs xs' ds : List PyData} {d da : PyData} {i : Nat} {ra : Rv}
theorem dc {R : List PyData → Res → Prop} (C : Cal X.prog X.w X.K X.mg X.base k x ps (spP X.K R)) (hr : Room k X.A) (ha : PA X (e :: es) (tDA X.K F Γ rs Γ1)) (hR : R ds (.ok d)) (hd : datS rs = some ds := by rfl)
    (hg : Gl X x := by rfl) (hdb : (x == ("__debug__" : Str)) = false := by decide) (he : starEach (e :: es) X.env = (false, eval e X.env) :: starEach es X.env := by rfl) (hpl : (backTo pos (starEach es X.env)).any (·.1) = false := by rfl) :
    PE X (.Call (.Name x p) (e :: es) [] pos) (tD X.K F Γ (.dat d) Γ1) := by
  obtain ⟨f, fd, h1, h2, h3, h4⟩ := C.ex
  exact de_call h1 hr h2 h3 h4 ha hR hd hg hdb he hpl
theorem dcb {R : List PyData → List PyData → PyData → List PyData → Prop} (C : Cal X.prog X.w X.K X.mg X.base k x ps (spB X.K R)) (hr : Room k X.A) (ha : PA X (e :: es) (tDA X.K F Γ (.al i :: rs) Γ1)) (hR : R xs ds d xs') (hl : lk Γ1 i = .own xs := by rfl) (hd : datS rs = some ds := by rfl)
    (hg : Gl X x := by rfl) (hdb : (x == ("__debug__" : Str)) = false := by decide) (he : starEach (e :: es) X.env = (false, eval e X.env) :: starEach es X.env := by rfl) (hpl : (backTo pos (starEach es X.env)).any (·.1) = false := by rfl) :
    PE X (.Call (.Name x p) (e :: es) [] pos) (tD X.K F Γ (.dat d) (st Γ1 i (.own xs'))) := by
  obtain ⟨f, fd, h1, h2, h3, h4⟩ := C.ex
  exact de_bag h1 hr h2 h3 h4 ha hR hl hd hg hdb he hpl
theorem de_isiI (B : Bt X.mg) (ha : PE X a (tD X.K F Γ ra Γ1)) (va : vw Γ1 ra = some da := by rfl) (hg : Gl X "isinstance" := by rfl) (hgT : Gl X "int" := by rfl)
    (he : starEach [a, .Name "int" p2] X.env = (false, eval a X.env) :: starEach [.Name "int" p2] X.env := by rfl) (he2 : starEach [.Name "int" p2] X.env = (false, eval (.Name "int" p2) X.env) :: starEach [] X.env := by rfl) (hpl : (backTo pos (starEach [.Name "int" p2] X.env)).any (·.1) = false := by rfl) :
    PE X (.Call (.Name "isinstance" p) [a, .Name "int" p2] [] pos) (tD X.K F Γ (.dat (.bool (isI da))) Γ1) := by
  have h := de_isi (p := p) (pos := pos) (p2 := p2) "int" (.inl rfl) ha B.isi B.int bt_int va hg hgT (by decide) (by decide) he he2 hpl
  rw [isi_int] at h
  exact h
theorem de_isiB (B : Bt X.mg) (ha : PE X a (tD X.K F Γ ra Γ1)) (va : vw Γ1 ra = some da := by rfl) (hg : Gl X "isinstance" := by rfl) (hgT : Gl X "bool" := by rfl)
    (he : starEach [a, .Name "bool" p2] X.env = (false, eval a X.env) :: starEach [.Name "bool" p2] X.env := by rfl) (he2 : starEach [.Name "bool" p2] X.env = (false, eval (.Name "bool" p2) X.env) :: starEach [] X.env := by rfl) (hpl : (backTo pos (starEach [.Name "bool" p2] X.env)).any (·.1) = false := by rfl) :
    PE X (.Call (.Name "isinstance" p) [a, .Name "bool" p2] [] pos) (tD X.K F Γ (.dat (.bool (isB da))) Γ1) := by
  have h := de_isi (p := p) (pos := pos) (p2 := p2) "bool" (.inr (.inl rfl)) ha B.isi B.bool bt_bool va hg hgT (by decide) (by decide) he he2 hpl
  rw [isi_bool] at h
  exact h
theorem de_isiS (B : Bt X.mg) (ha : PE X a (tD X.K F Γ ra Γ1)) (va : vw Γ1 ra = some da := by rfl) (hg : Gl X "isinstance" := by rfl) (hgT : Gl X "str" := by rfl)
    (he : starEach [a, .Name "str" p2] X.env = (false, eval a X.env) :: starEach [.Name "str" p2] X.env := by rfl) (he2 : starEach [.Name "str" p2] X.env = (false, eval (.Name "str" p2) X.env) :: starEach [] X.env := by rfl) (hpl : (backTo pos (starEach [.Name "str" p2] X.env)).any (·.1) = false := by rfl) :
    PE X (.Call (.Name "isinstance" p) [a, .Name "str" p2] [] pos) (tD X.K F Γ (.dat (.bool (isS da))) Γ1) := by
  have h := de_isi (p := p) (pos := pos) (p2 := p2) "str" (.inr (.inr (.inl rfl))) ha B.isi B.str bt_str va hg hgT (by decide) (by decide) he he2 hpl
  rw [isi_str] at h
  exact h
theorem de_isiL (B : Bt X.mg) (ha : PE X a (tD X.K F Γ ra Γ1)) (va : vw Γ1 ra = some da := by rfl) (hg : Gl X "isinstance" := by rfl) (hgT : Gl X "list" := by rfl)
    (he : starEach [a, .Name "list" p2] X.env = (false, eval a X.env) :: starEach [.Name "list" p2] X.env := by rfl) (he2 : starEach [.Name "list" p2] X.env = (false, eval (.Name "list" p2) X.env) :: starEach [] X.env := by rfl) (hpl : (backTo pos (starEach [.Name "list" p2] X.env)).any (·.1) = false := by rfl) :
    PE X (.Call (.Name "isinstance" p) [a, .Name "list" p2] [] pos) (tD X.K F Γ (.dat (.bool (isL da))) Γ1) := by
  have h := de_isi (p := p) (pos := pos) (p2 := p2) "list" (.inr (.inr (.inr (.inl rfl)))) ha B.isi B.list bt_list va hg hgT (by decide) (by decide) he he2 hpl
  rw [isi_list] at h
  exact h
theorem de_isiT (B : Bt X.mg) (ha : PE X a (tD X.K F Γ ra Γ1)) (va : vw Γ1 ra = some da := by rfl) (hg : Gl X "isinstance" := by rfl) (hgT : Gl X "tuple" := by rfl)
    (he : starEach [a, .Name "tuple" p2] X.env = (false, eval a X.env) :: starEach [.Name "tuple" p2] X.env := by rfl) (he2 : starEach [.Name "tuple" p2] X.env = (false, eval (.Name "tuple" p2) X.env) :: starEach [] X.env := by rfl) (hpl : (backTo pos (starEach [.Name "tuple" p2] X.env)).any (·.1) = false := by rfl) :
    PE X (.Call (.Name "isinstance" p) [a, .Name "tuple" p2] [] pos) (tD X.K F Γ (.dat (.bool (isT da))) Γ1) := by
  have h := de_isi (p := p) (pos := pos) (p2 := p2) "tuple" (.inr (.inr (.inr (.inr rfl)))) ha B.isi B.tuple bt_tuple va hg hgT (by decide) (by decide) he he2 hpl
  rw [isi_tuple] at h
  exact h
theorem ty_bool (B : Bt X.mg) : TyN X "bool" "bool" := ⟨.inr (.inl rfl), B.bool, bt_bool⟩
theorem ty_list (B : Bt X.mg) : TyN X "list" "list" := ⟨.inr (.inr (.inr (.inl rfl))), B.list, bt_list⟩
theorem ty_tuple (B : Bt X.mg) : TyN X "tuple" "tuple" := ⟨.inr (.inr (.inr (.inr rfl))), B.tuple, bt_tuple⟩
theorem isi_blt (d : PyData) : (["bool", "list", "tuple"].any fun T => isiD T d) = (isB d || isL d || isT d) := by
  simp only [List.any_cons, List.any_nil, isi_bool, isi_list, isi_tuple, Bool.or_false, Bool.or_assoc]
theorem de_as {r r' : Rv} (h : PE X e (tD X.K F Γ r Γ1)) (hr : r = r') : PE X e (tD X.K F Γ r' Γ1) := hr ▸ h
theorem dt_as {k k' : Bool} (h : PT X e (tDT X.K F Γ k Γ1)) (hr : k = k') : PT X e (tDT X.K F Γ k' Γ1) := hr ▸ h
end
end AM
namespace AM
open PySem PySem.Spec PyProof.Rows L2
theorem mulL {i j : Int} (h : i.natAbs < 2 ^ 64) : IntMulOk i j := .of_left (intBits_le_iff.mpr h)
theorem divC (i : Int) {j : Int} (h0 : j ≠ 0) (n : Nat) (h : j.natAbs < 2 ^ n) (hn : n ≤ 9000) : CDivA i j := ⟨h0, Nat.lt_of_lt_of_le h (Nat.pow_le_pow_right (by decide) hn)⟩
section
variable {X : Cx} {F : Fx} {Γ Γ1 Γ2 : List Sl} {a b e elt iter : Expr} {pos p p2 : Pos} {scope : Scope} {ds : List PyData} {x : Str} {px : Pos}
theorem de_pw {i j : Int} (m : Int) (ha : PE X a (tD X.K F Γ (.dat (.int i)) Γ1)) (hb : PE X b (tD X.K F Γ1 (.dat (.int j)) Γ2)) (hc : CPow i j := by exact ⟨by decide, by decide, by decide⟩) (hm : i ^ j.toNat = m := by decide) : PE X (.BinOp a .Pow b pos) (tD X.K F Γ (.dat (.int m)) Γ2) := hm ▸ de_pow ha hb hc
end
def isWhole : PyData → Bool
  | .int _ => true
  | _ => false
theorem isWhole_eq (d : PyData) : (isI d && !isB d) = isWhole d := by cases d <;> rfl
end AM
namespace AM
open PySem PySem.Spec PyProof.Rows L2
section
variable {X : Cx} {F : Fx} {Γ Γ1 Γ2 : List Sl} {a b e elt iter tg c : Expr} {pos p p2 : Pos} {scope : Scope} {ds : List PyData} {own : List (Str × Nat)} {g : TG} {A : PyData → List Sl → List Sl → Prop}
theorem lr_mapT (f : PyData → PyData) (hi : PI X tg iter (tI X.K F Γ ds Γ1)) (T : Tgt X.K F g (own.map (·.2)) A) (hN : X.N.Nodup) (ok : BlkOk X.N X.env.scope scope own)
    (hg : ∀ (s : Shared) (H : Hp) (C : Addr) (cl : List (Str × Addr)) (fp : List Addr), PG (X.blk s H scope (compEnvC scope cl C X.env) fp) tg g) (hz : ds.length < 100000)
    (turn : ∀ d, d ∈ ds → ∃ Γt, A d (wpG Γ1 (own.map (·.2))) Γt ∧ wpG Γt (own.map (·.2)) = wpG Γ1 (own.map (·.2)) ∧ ∀ (s : Shared) (H : Hp) (C : Addr) (cl : List (Str × Addr)) (fp : List Addr), PE (X.blk s H scope (compEnvC scope cl C X.env) fp) elt (tD X.K F Γt (.dat (f d)) Γt))
    (hpf : (own.map (·.2)).all (pf F) = true := by rfl) :
    LcR X F Γ elt tg iter [] scope own (ds.map f) (wpG Γ1 (own.map (·.2))) := by
  refine lr_lc (own := own) (A := A) (fun j acc Γ => acc = (ds.take j).map f ∧ Γ = wpG Γ1 (own.map (·.2))) hi T hN ok hg ⟨by simp, rfl⟩ hz (fun j d acc Γ hd ⟨e1, e2⟩ => ?_) (fun acc Γ ⟨e1, e2⟩ => ⟨by rw [e1, List.take_length], e2⟩) hpf
  subst e1 e2
  obtain ⟨Γt, hA, hw, he⟩ := turn d (List.mem_of_getElem? hd)
  refine ⟨Γt, true, hA, fun _ _ _ _ _ => pts_no, fun h => (by cases h), fun _ => ⟨f d, Γt, he, ?_, hw⟩⟩
  rw [List.take_add_one, hd, List.map_append]; rfl
end
mutual
def sameD : PyData → PyData → Bool
  | .none, .none => true
  | .bool a, .bool b => decide (a = b)
  | .int a, .int b => decide (a = b)
  | .str a, .str b => decide (a = b)
  | .list as, .list bs => sameAll as bs
  | .tuple as, .tuple bs => sameAll as bs
  | _, _ => false
def sameAll : List PyData → List PyData → Bool
  | [], [] => true
  | a :: as, b :: bs => sameD a b && sameAll as bs
  | _, _ => false
end
def samePair : PyData → Bool
  | .tuple [x, y] => sameD x y
  | _ => false
theorem sameAll_eq : ∀ as bs : List PyData, sameAll as bs = (decide (as.length = bs.length) && ((zipD as bs).map samePair).all id)
  | [], [] => rfl
  | [], b :: bs => by simp [sameAll]
  | a :: as, [] => by simp [sameAll]
  | a :: as, b :: bs => by
    have ih := sameAll_eq as bs
    simp only [sameAll, ih, zipD, List.zipWith_cons_cons, List.map_cons, List.all_cons, List.length_cons, id, samePair]
    by_cases h : as.length = bs.length
    · simp [h]
    · simp [h]
def okS : Nat → PyData → Prop
  | 0, .list _ => False
  | 0, .tuple _ => False
  | n + 1, .list ds => ds.length < 100000 ∧ ∀ d ∈ ds, okS n d
  | n + 1, .tuple ds => ds.length < 100000 ∧ ∀ d ∈ ds, okS n d
  | _, _ => True
mutual
def noDict : PyData → Bool
  | .dict _ => false
  | .list ds => noDictA ds
  | .tuple ds => noDictA ds
  | _ => true
def noDictA : List PyData → Bool
  | [] => true
  | d :: ds => noDict d && noDictA ds
end
mutual
theorem sameD_refl : ∀ d : PyData, noDict d = true → sameD d d = true
  | .none, _ => rfl
  | .bool b, _ => by simp [sameD]
  | .int b, _ => by simp [sameD]
  | .str b, _ => by simp [sameD]
  | .list ds, h => by simp only [sameD]; exact sameAll_refl ds (by simpa [noDict] using h)
  | .tuple ds, h => by simp only [sameD]; exact sameAll_refl ds (by simpa [noDict] using h)
  | .dict _, h => by simp [noDict] at h
theorem sameAll_refl : ∀ ds : List PyData, noDictA ds = true → sameAll ds ds = true
  | [], _ => rfl
  | d :: ds, h => by
    simp only [noDictA, Bool.and_eq_true] at h
    simp only [sameAll, sameD_refl d h.1, sameAll_refl ds h.2, Bool.and_self]
end
def R_same (n : Nat) : List PyData → Res → Prop := fun ds r => ∃ a b, ds = [a, b] ∧ okS n a ∧ okS n b ∧ r = .ok (.bool (sameD a b))
theorem zipD_mem {as bs : List PyData} {d : PyData} (h : d ∈ zipD as bs) : ∃ x y, d = .tuple [x, y] ∧ x ∈ as ∧ y ∈ bs := by
  induction as generalizing bs with
  | nil => cases h
  | cons a as ih =>
    cases bs with
    | nil => cases h
    | cons b bs =>
      rcases List.mem_cons.mp h with rfl | h
      · exact ⟨a, b, rfl, List.mem_cons_self, List.mem_cons_self⟩
      · obtain ⟨x, y, e, h1, h2⟩ := ih h
        exact ⟨x, y, e, List.mem_cons_of_mem _ h1, List.mem_cons_of_mem _ h2⟩
end AM
namespace AM
open PySem PySem.Spec PyProof.Rows L2
end AM
namespace AM
open PySem PySem.Spec PyProof.Rows L2
theorem ds_skip {X : Cx} {F : Fx} {W : WX} {Γ : List Sl} {P : Out → Prop} {rest : List Stmt} (h : PSs X rest (tS X.K F W Γ P)) : PSs X [] (tS X.K F W Γ (thn' X F W rest P)) := ds_nil h
theorem cx_no {P : Program} {w : World} {o : List PySem.Env} {H : Hp} {s s' : Shared} {e : Value} (h : L2.CX P w o H s (fun _ _ _ => False) e s') : False := by
  obtain ⟨_, _, _, _, _, _, _, _, _, _, _, _, z⟩ := h
  exact z
end AM
namespace AM
open PySem PySem.Spec PyProof.Rows L2
theorem de_nilT {X : Cx} {F : Fx} {Γ : List Sl} {x1} {pos : Pos} : PE X (.Tuple [] x1 pos) (tD X.K F Γ (.dat (.tuple [])) Γ) := de_tup (ds := []) da_nil (by decide)
theorem dn_nilL {X : Cx} {F : Fx} {Γ : List Sl} {pos : Pos} : PE X (.List [] pos) (tN X.K F Γ [] Γ) := dn_lst (ds := []) da_nil (by decide)
end AM
namespace AM
open PySem PySem.Spec PyProof.Rows L2
def wellB (c t : Int) : Bag := if 1000000000000000000 ≤ c then ⟨c - 1000000000000000000, c.fmod P61, t⟩ else ⟨0, c.fmod P61, t⟩
def R_well : List PyData → Res → Prop := fun ds r => ∃ c t : Int, ds = [.int c, .int t] ∧ r = .ok (.list (bagD (wellB c t)))
theorem wellB_ok {c t : Int} (h0 : 0 ≤ t) (h1 : t ≤ 100000) : BagOk 100000 (wellB c t) := by
  have r := fmod_rng c (m := P61) (by decide)
  unfold wellB
  split
  · exact ⟨r.1, r.2, h0, h1⟩
  · exact ⟨r.1, r.2, h0, h1⟩
theorem well_imp {K : PySem.W.Frag} (vs : List V) (H : Hp) (Q : VK) (E : XK) (h : spWell K vs H Q E) : spP K R_well vs H Q E := by
  obtain ⟨c, t, rfl, h0, h1, q⟩ := h
  refine ⟨fun _ => none, [.int c, .int t], _, fun a o h => (by cases h), fun a o h => (by cases h), .cons (.int _) (.cons (.int _) .nil), ⟨c, t, rfl, rfl⟩, fun v H' G' g hv => ?_⟩
  obtain ⟨p, vs, rfl, hp, ha⟩ := dp_lst hv
  have e : vs = bagV (wellB c t) := by
    have : bagD (wellB c t) = [(wellB c t).x, (wellB c t).y, (wellB c t).z].map .int := rfl
    rw [this] at ha
    rw [dpa_ints ha]; rfl
  subst e
  have hn : H p = none := by
    rcases g.f p _ hp with ⟨o, z⟩ | z
    · cases z
    · exact z
  exact q p H' (wellB c t) g.h hn (g.le _ _ hp) (wellB_ok h0 h1)
def R_take : List PyData → List PyData → PyData → List PyData → Prop := fun xs ds d xs' => ∃ (b : Bag) (m n : Int), BagOk n b ∧ n ≤ 1000000000 ∧ 0 < m ∧ m < 2 ^ 63 ∧ xs = bagD b ∧ ds = [.int m] ∧ d = .int (take b m).1 ∧ xs' = bagD (take b m).2
def RB (M : Int) (f : Bag → Int × Bag) : List PyData → List PyData → PyData → List PyData → Prop := fun xs ds d xs' => ∃ (b : Bag) (n : Int), BagOk n b ∧ n ≤ M ∧ xs = bagD b ∧ ds = [] ∧ d = .int (f b).1 ∧ xs' = bagD (f b).2
theorem rb {M : Int} {f : Bag → Int × Bag} {b : Bag} {n : Int} (ok : BagOk n b) (hn : n ≤ M) : RB M f (bagD b) [] (.int (f b).1) (bagD (f b).2) := ⟨b, n, ok, hn, rfl, rfl, rfl, rfl⟩
end AM
namespace AM
open PySem PySem.Spec PyProof.Rows L2
theorem rd_eqB {K : PySem.W.Frag} {F : Fx} {Γ : List Sl} {i j : Bool} : RD2 K F Γ rEq (.dat (.bool i)) (.dat (.bool j)) (.dat (.bool (decide (i = j)))) := fun G H σ x y Q E vx vy k => by
  have e1 := dp_bl vx
  have e2 := dp_bl vy
  subst e1; subst e2
  refine ⟨rfl, k _ H G Step.refl E ?_⟩
  rw [dec_bl, Bool.beq_eq_decide_eq]
  exact .bl _
end AM
namespace AM
open PySem PySem.Spec PyProof.Rows L2
theorem dec_cast (m n : Nat) : decide ((m : Int) = (n : Int)) = decide (m = n) := decide_eq_decide.mpr (by omega)
def bagsW (H1 : Hp) (us : List V) (l D : Addr) (i : Nat) (H : Hp) : Prop := Same H1 H ∧ H l = some (.lst us) ∧ ∃ bs : List Addr, H D = some (.lst (bs.map V.ref)) ∧ bs.Nodup ∧ D ∉ bs ∧ bs.length = i ∧ ∀ b ∈ bs, ∃ B : Bag, BagOk 100000 B ∧ H b = some (.lst (bagV B))
theorem bags_lc {K : PySem.W.Frag} {σ : L2.St} {H1 : Hp} {l D : Addr} {us : List V} {vs : List Nat} {te : TE} {Q : VK} (ik ic : Nat) (hvs : vs = [ik, ic]) (hne : ik ≠ ic) (hk : ik < σ.length) (hc : ic < σ.length) (hl : H1 l = some (.lst us)) (hD : H1 D = none) (hus : us.length ≤ 64) (hint : ∀ u ∈ us, ∃ i, u = V.int i)
    (hte : ∀ (i : Nat) (c : Int) (σ2 : L2.St) (H : Hp) (Q : VK), i < 64 → σ2[ik]? = some (some (.int (i : Int))) → σ2[ic]? = some (some (.int c)) → (∀ p H' B, Same H H' → H p = none → H' p = some (.lst (bagV B)) → BagOk 100000 B → Q (.ref p) H') → te σ2 H Q)
    (q : ∀ (bs : List Addr) (H' : Hp), Same H1 H' → H' D = some (.lst (bs.map V.ref)) → bs.Nodup → D ∉ bs → (∀ b ∈ bs, ∃ B : Bag, BagOk 100000 B ∧ H' b = some (.lst (bagV B))) → Q (.ref D) H') :
    ∃ W : Nat → Nat → Hp → Prop, (∃ m, W 0 m (upd H1 D (.lst []))) ∧ ∀ i m H, W i m H →
      ((Ite K l).stop i H ∧ Q (.ref D) H) ∨ ((Ite K l).go i H ∧ ∃ Nx : Hp → Prop, (∀ H', Nx H' → ∃ m', m' < m ∧ W (i + 1) m' H') ∧ ∀ x H', (Ite K l).yld i H x H' → gTup K 2 (gCons (gName ik) (gCons (gName ic) gNil)) x (wipe σ vs) H' fun σ2 H2 => wipe σ2 vs = wipe σ vs ∧ tYes σ2 H2 fun b H3 =>
        if b = true then te σ2 H3 fun y H4 => ∃ acc, H4 D = some (.lst acc) ∧ acc.length < sizeLine ∧ Nx (upd H4 D (.lst (acc ++ [y]))) else Nx H3) := by
  have nDl : l ≠ D := ne_of_none hl hD
  refine ⟨fun i m H => m = us.length - i ∧ i ≤ us.length ∧ bagsW H1 us l D i H, ⟨us.length, by simp, Nat.zero_le _, same_upd hD, (by rw [upd_ne nDl]; exact hl), [], upd_same, List.nodup_nil, (by simp), rfl, (by simp)⟩, ?_⟩
  rintro i m H ⟨rfl, hle, sm, hL, bs, hB, nd, nD, len, ok⟩
  by_cases hlt : i < us.length
  · refine .inr ⟨⟨us, us[i], .inl (.inl hL), List.getElem?_eq_getElem hlt⟩, fun H' => i + 1 ≤ us.length ∧ bagsW H1 us l D (i + 1) H', fun H' h => ⟨us.length - (i + 1), by omega, rfl, h⟩, fun x H' ⟨T, x1, ex, hT, eH, f1⟩ => ?_⟩
    subst ex eH
    have e1 : x1 = us[i] := Option.some.inj ((f1 us (.inl (.inl hL))).symm.trans (List.getElem?_eq_getElem hlt))
    obtain ⟨c, hcI⟩ := hint _ (List.getElem_mem hlt)
    rw [hcI] at e1
    subst e1
    refine ⟨T, _, rfl, .inl (.inl upd_same), rfl, _, _, rfl, _, _, rfl, rfl, ?_⟩
    have lw : (wipe σ vs).length = σ.length := wipe_length σ vs
    refine ⟨wipe_same (by rw [List.length_set, List.length_set, lw]) fun j hj => ?_, ?_⟩
    · rw [hvs] at hj
      rw [List.getElem?_set_ne (fun z => hj (by simp [z])), List.getElem?_set_ne (fun z => hj (by simp [z])), wipe_out (by rw [hvs]; exact hj)]
    · refine hte i c _ _ _ (by omega) ?_ ?_ fun p H4 B s4 np hp okB => ?_
      · rw [List.getElem?_set_ne (Ne.symm hne), List.getElem?_set_self (by rw [lw]; exact hk)]
      · rw [List.getElem?_set_self (by rw [List.length_set, lw]; exact hc)]
      · have hD2 : (upd H T (.tup [V.int (i : Nat), V.int c])) D = some (.lst (bs.map V.ref)) := by rw [upd_ne (ne_of_none hB hT)]; exact hB
        have hD4 := s4 _ _ hD2
        have npD : p ≠ D := fun z => by rw [z, hD2] at np; cases np
        have nb : ∀ b ∈ bs, b ≠ p ∧ b ≠ D ∧ ∃ B : Bag, BagOk 100000 B ∧ H4 b = some (.lst (bagV B)) := fun b hb => by
          obtain ⟨B', ok', h'⟩ := ok b hb
          have h2 : (upd H T (.tup [V.int (i : Nat), V.int c])) b = some (.lst (bagV B')) := by rw [upd_ne (ne_of_none h' hT)]; exact h'
          exact ⟨fun z => (by rw [z, np] at h2; cases h2), fun z => nD (by rw [← z]; exact hb), B', ok', s4 _ _ h2⟩
        have hl2 : (upd H T (.tup [V.int (i : Nat), V.int c])) l = some (.lst us) := by rw [upd_ne (ne_of_none hL hT)]; exact hL
        refine ⟨_, hD4, by rw [List.length_map, len]; exact Nat.lt_of_lt_of_le (show i < 64 by omega) (by decide), hlt, fun a o h => by rw [upd_ne (ne_of_none h hD)]; exact s4 _ _ (by rw [upd_ne (ne_of_none (sm a o h) hT)]; exact sm a o h), by rw [upd_ne nDl]; exact s4 _ _ hl2, bs ++ [p], by rw [upd_same, List.map_append]; rfl, ?_, ?_, by rw [List.length_append, len]; rfl, fun b hb => ?_⟩
        · rw [List.nodup_append]
          refine ⟨nd, by simp, fun a ha b hb => ?_⟩
          rw [List.mem_singleton] at hb
          subst hb
          exact (nb a ha).1
        · rw [List.mem_append, List.mem_singleton]
          rintro (z | z)
          · exact nD z
          · exact npD z.symm
        · rcases List.mem_append.mp hb with hb | hb
          · obtain ⟨_, n2, B', ok', h'⟩ := nb b hb
            exact ⟨B', ok', by rw [upd_ne n2]; exact h'⟩
          · rw [List.mem_singleton] at hb
            subst hb
            exact ⟨B, okB, by rw [upd_ne npD]; exact hp⟩
  · have e : i = us.length := by omega
    subst e
    exact .inl ⟨⟨us, .inl (.inl hL), Nat.le_refl _⟩, q bs H sm hB nd nD ok⟩
theorem cut_le {us : List V} (m : Int) : (cutV us none (some m)).length ≤ us.length := by
  unfold cutV
  rw [List.length_take, List.length_drop]
  omega
theorem cut_mem {us : List V} {m : Int} {u : V} (h : u ∈ cutV us none (some m)) : u ∈ us := by
  unfold cutV at h
  exact List.mem_of_mem_drop (List.mem_of_mem_take h)
end AM
set_option Elab.async false
set_option linter.all false
set_option maxRecDepth 100000
set_option maxHeartbeats 2000000
namespace AM
open PySem PySem.Spec PyProof.Rows L2
section
variable {X : Cx} {F : Fx} {W : WX} {P : Out → Prop} {Γ Γ1 Γ2 : List Sl} {a b c e : Expr} {es : List Expr} {pos p p2 : Pos} {k : Nat} {rest : List Stmt}
theorem dw_orT {rs : List Expr} (h : PT X a (tDT X.K F Γ true Γ1)) : PW X (.BoolOp .Or (a :: b :: rs) pos) (tDT X.K F Γ true Γ1) := by
  refine ⟨fun wh pins s σ H Q I h' => ?_⟩
  refine PyProof.Rows.isTrue_or (thn (h.run pins s σ H (fun c H1 => c = true ∧ Q true H1) I ?_) fun c s1 ⟨H1, I1, q1, q2⟩ => ?_)
  · obtain ⟨G, E, q⟩ := h'
    exact ⟨G, E, fun H1 G1 s1 E1 => ⟨rfl, q H1 G1 s1 E1⟩⟩
  · subst q1
    exact ⟨H1, I1, q2⟩
theorem dw_orF {l : Bool} {rs : List Expr} (h : PT X a (tDT X.K F Γ false Γ1)) (h2 : PW X (.BoolOp .Or (b :: rs) pos) (tDT X.K F Γ1 l Γ2)) : PW X (.BoolOp .Or (a :: b :: rs) pos) (tDT X.K F Γ l Γ2) :=
  pw_imp (pw_or h h2) fun σ H Q ⟨G, E, q⟩ => ⟨G, E, fun H1 G1 s1 E1 => ⟨G1, E1, fun H2 G2 s2 E2 => q H2 G2 (s1.trans s2) E2⟩⟩
theorem ds_cut {s : Stmt} (J : List Sl → Prop) (t : ∀ Γ, J Γ → PSs X rest (tS X.K F W Γ P)) (h : (∀ Γ, J Γ → PSs X rest (tS X.K F W Γ P)) → PSs X (s :: rest) (tS X.K F W Γ P)) : PSs X (s :: rest) (tS X.K F W Γ P) := h t
theorem ds_to {s : List Stmt} {Γ' : List Sl} (h : PSs X s (tS X.K F W Γ P)) (e : Γ = Γ') : PSs X s (tS X.K F W Γ' P) := e ▸ h
end
def pl : Nat → PyData → Prop
  | _, .none => True
  | _, .bool _ => True
  | _, .int _ => True
  | _, .str s => PyData.canLay0 (.str s) = true
  | n + 1, .list ds => ds.length < 100000 ∧ ∀ d ∈ ds, pl n d
  | n + 1, .tuple ds => ds.length < 100000 ∧ ∀ d ∈ ds, pl n d
  | _, _ => False
theorem pl_okS : ∀ {n : Nat} {d : PyData}, pl n d → okS n d
  | 0, .none, _ => trivial
  | 0, .bool _, _ => trivial
  | 0, .int _, _ => trivial
  | 0, .str _, _ => trivial
  | _ + 1, .none, _ => trivial
  | _ + 1, .bool _, _ => trivial
  | _ + 1, .int _, _ => trivial
  | _ + 1, .str _, _ => trivial
  | 0, .list _, h => h.elim
  | 0, .tuple _, h => h.elim
  | 0, .dict _, h => h.elim
  | _ + 1, .dict _, h => h.elim
  | n + 1, .list ds, h => ⟨h.1, fun d m => pl_okS (h.2 d m)⟩
  | n + 1, .tuple ds, h => ⟨h.1, fun d m => pl_okS (h.2 d m)⟩
theorem noDictA_of {ds : List PyData} (h : ∀ d ∈ ds, noDict d = true) : noDictA ds = true := by
  induction ds with
  | nil => rfl
  | cons d r ih => unfold noDictA; rw [h d (List.mem_cons_self ..), ih fun d m => h d (List.mem_cons_of_mem _ m)]; rfl
theorem pl_noDict : ∀ {n : Nat} {d : PyData}, pl n d → noDict d = true
  | _, .none, _ => rfl
  | _, .bool _, _ => rfl
  | _, .int _, _ => rfl
  | _, .str _, _ => rfl
  | 0, .list _, h => h.elim
  | 0, .tuple _, h => h.elim
  | 0, .dict _, h => h.elim
  | _ + 1, .dict _, h => h.elim
  | n + 1, .list ds, h => by unfold noDict; exact noDictA_of fun d m => pl_noDict (h.2 d m)
  | n + 1, .tuple ds, h => by unfold noDict; exact noDictA_of fun d m => pl_noDict (h.2 d m)
theorem lay_of {ds : List PyData} {n : Nat} (h : ∀ d ∈ ds, d.canLay0 = true ∧ d.depth ≤ n) : PyData.canLayAll0 ds = true ∧ PyData.depthAll ds ≤ n := by
  induction ds with
  | nil => exact ⟨rfl, Nat.zero_le _⟩
  | cons d r ih =>
    have h1 := h d (List.mem_cons_self ..)
    have h2 := ih fun d m => h d (List.mem_cons_of_mem _ m)
    refine ⟨?_, ?_⟩
    · simp [PyData.canLayAll0, h1.1, h2.1]
    · simp only [PyData.depthAll]; exact Nat.max_le.mpr ⟨h1.2, h2.2⟩
theorem pl_int (n : Nat) (i : Int) : pl n (.int i) := by cases n <;> trivial
theorem pl_ints (n : Nat) {ns : List Int} (h : ns.length < 100000) : pl (n + 1) (.tuple (ns.map .int)) := ⟨by rw [List.length_map]; exact h, fun d m => by obtain ⟨i, _, rfl⟩ := List.mem_map.mp m; exact pl_int _ _⟩
end AM
namespace AM
open PySem PySem.Spec PyProof.Rows L2
theorem ixN_pos {n : Nat} {i : Int} (h : 0 ≤ i) (h2 : i < (n : Int)) : ixN n i = some i.toNat := by
  unfold ixN
  rw [if_pos h, if_pos h2]
theorem bags_call {X : Cx} {k : Nat} {n : Int} {p p0 : Pos} {kk : Nat} {pos pn : Pos} (C : Cal X.prog X.w X.K X.mg X.base k "_law_bags" ["script", "most"] (spBags X.K)) (hr : Room k X.A) (h0 : X.N[0]? = some ("script" : Str) := by rfl) (hx : Vis X.env.scope "script" := by first | exact Or.inl rfl | exact Or.inr rfl) (hg : Gl X "_law_bags" := by rfl)
    (he : starEach [.Name "script" p0, .Constant (.int n) kk pn] X.env = (false, eval (.Name "script" p0) X.env) :: starEach [.Constant (.int n) kk pn] X.env := by rfl) (he2 : starEach [.Constant (.int n) kk pn] X.env = (false, eval (.Constant (.int n) kk pn) X.env) :: starEach [] X.env := by rfl) (hpl : (backTo pos (starEach [.Constant (.int n) kk pn] X.env)).any (·.1) = false := by rfl) :
    PE X (.Call (.Name "_law_bags" p) [.Name "script" p0, .Constant (.int n) kk pn] [] pos) (tBags X.K) := by
  obtain ⟨f, fd, h1, h2, h3, h4⟩ := C.ex
  refine pe_imp (pe_callS (E := WE fun _ _ _ _ => False) h1 hr hg h2 h3 h4 (fun σ => passAt takes0 σ) (pa_cons (pv 0 h0 hx) (pa_cons pe_int pa_nil he2) he) (by decide) he hpl) fun σ H Q ⟨⟨a, ns, e, hS, hl⟩, q⟩ => ?_
  exact ⟨.ref a, e, a, ns, n, rfl, hS, hl, q⟩
end AM
namespace AM
open PySem PySem.Spec PyProof.Rows L2
end AM
set_option Elab.async false
set_option linter.all false
set_option maxRecDepth 100000
set_option maxHeartbeats 2000000
namespace AM
open PySem PySem.Spec PyProof.Rows L2
structure Xcl (K : PySem.W.Frag) (mg : Str → Option Value) (x : Str) (C : Addr) : Prop where
  gC : mg x = some (.ref C)
  ke : PySem.W.keepIn K (.ref C) = true
  q : PySem.W.excIn K C [.type "ValueError", .type "Exception", .type "BaseException", .type "object"] "ValueError.__new__" = true
  sb : PySem.W.subIn K (.ref C) (.type "BaseException") = some true
  ty : PySem.W.typeIn K (.ref C) = some (.type "type")
def tX (K : PySem.W.Frag) (F : Fx) (W : WX) (Γ : List Sl) (c : Addr) (Γ' : List Sl) : TE := fun σ H _ => ∃ G, En K F G σ H Γ ∧ ∀ H' G', Step σ Γ Γ' G H G' H' → En K F G' σ H' Γ' → W (.ref c) none σ H'
section
variable {X : Cx} {F : Fx} {W : WX} {P : Out → Prop} {Γ Γ1 Γ2 : List Sl} {a b c e : Expr} {es : List Expr} {pos pos' p p2 : Pos} {k : Nat} {rest : List Stmt} {C : Addr} {x : Str} {ps : List Str} {rs : List Rv} {ds : List PyData}
theorem ds_raise {m : Str} {j : Nat} (XC : Xcl X.K X.mg x C) (tk : Takes X W) (hP : P (.ex C)) (hg : Gl X x := by rfl) (hc : X.calm = true := by rfl) (hdb : (x == ("__debug__" : Str)) = false := by decide) : PSs X (.Raise (some (.Call (.Name x p) [.Constant (.str m) j p2] [] pos)) none pos' :: rest) (tS X.K F W Γ P) :=
  ds_seq (ps_imp (ps_raise hc tk (pmk_own PySem.F.excBase_ValueError XC.q XC.gC XC.ke (raises_own XC.sb XC.ty) hg hdb)) fun D σ H ⟨G, E, _, _, _, _, q⟩ => q C Γ σ H G hP Same.r E)
theorem de_callX {R : List PyData → Res → Prop} (Cf : Cal X.prog X.w X.K X.mg X.base k x ps (spP X.K R)) (hr : Room k X.A) (tk : Takes X W) (ha : PA X (e :: es) (tDA X.K F Γ rs Γ1)) (hR : R ds (.ex C)) (hd : datS rs = some ds := by rfl)
    (hg : Gl X x := by rfl) (hdb : (x == ("__debug__" : Str)) = false := by decide) (he : starEach (e :: es) X.env = (false, eval e X.env) :: starEach es X.env := by rfl) (hpl : (backTo pos (starEach es X.env)).any (·.1) = false := by rfl) :
    PE X (.Call (.Name x p) (e :: es) [] pos) (tX X.K F W Γ C Γ1) := by
  obtain ⟨f, fd, h1, h2, h3, h4⟩ := Cf.ex
  exact pe_imp (pe_callS (E := WE W) h1 hr hg h2 h3 h4 (fun σ => passAt tk σ) ha hdb he hpl) fun σ H Q ⟨G, E, q⟩ => ⟨G, E, fun vs H1 G1 s1 E1 v1 =>
    ⟨G1, ds, .ex C, E1.le, E1.nt, datS_dp v1 hd, hR, fun H' sm => q H' G1 (s1.trans (Grown.step ⟨sm, Same.r, E1.le.trans sm, fun a o h => .inl ⟨o, h⟩, E1.nt⟩)) (E1.grown ⟨sm, Same.r, E1.le.trans sm, fun a o h => .inl ⟨o, h⟩, E1.nt⟩)⟩⟩
theorem ds_setX (i : Nat) (he : PE X e (tX X.K F W Γ C Γ1)) (hP : P (.ex C)) (hN : X.N.Nodup) (hi : X.N[i]? = some x := by rfl) (hx : Loc X.env.scope x := by first | exact Or.inl rfl | exact Or.inr rfl)
    (hs : swapsWith e (some (.Name x pos')) pos.line X.env = pure false := by rfl) (hf : X.fn x = true ∨ X.env.scope.names.lookup x = some .local := by first | exact .inl rfl | exact .inr rfl | assumption) : PSs X (.Assign [.Name x pos'] e pos :: rest) (tS X.K F W Γ P) :=
  ds_seq (ps_imp (ps_set hN hi hx he hs hf) fun D σ H ⟨G, E, _, _, _, _, q⟩ => ⟨G, E, fun H' G' s E' => q C Γ1 σ H' G' hP s.g E'⟩)
end
def many (K : PySem.W.Frag) (k : List V → Prop) : List (Value × List V) → Value → Prop
  | [], _ => False
  | (c, its) :: r, cls => ∃ b, PySem.W.exmOne K cls c = some b ∧ (b = true → k its) ∧ (b = false → many K k r cls)
theorem many_imp {K : PySem.W.Frag} {k k' : List V → Prop} (h : ∀ its, k its → k' its) : ∀ {l : List (Value × List V)} {cls : Value}, many K k l cls → many K k' l cls
  | [], _, z => z.elim
  | (c, its) :: r, cls, ⟨b, e, h1, h2⟩ => ⟨b, e, fun hb => h _ (h1 hb), fun hb => many_imp h (h2 hb)⟩
def tsAsk (its : List V) : Addr → Value → Option Addr → TS := fun _ _ _ D σ H => ∀ p, H p = none → D.nx (σ.set 1 (some (.ref p))) (upd H p (.tup its))
theorem wMany_of {K : PySem.W.Frag} {W : WX} {D : Ends} {cls : Value} {d : Option Addr} {σ : L2.St} {H : Hp} : ∀ {l : List (Value × List V)}, many K (fun its => ∀ p, H p = none → D.nx (σ.set 1 (some (.ref p))) (upd H p (.tup its))) l cls → wMany K W D (l.map fun q => (q.1, tsAsk q.2)) cls d σ H
  | [], h => h.elim
  | (c, its) :: r, ⟨b, e, h1, h2⟩ => ⟨b, e, fun hb _ _ => h1 hb, fun hb => wMany_of (h2 hb)⟩
def TTask (K : PySem.W.Frag) (l : List (Value × List V)) : (XK → Hp → VK → Prop) → Hp → VK → Prop := fun tl H Q => ∀ p0, H p0 = none → ∀ Q' : VK, (∀ v H1, (∀ p, H1 p = none → Q (.ref p) (upd H1 p (.tup [.str "told", v]))) → Q' v H1) →
  tl (fun cls _ H1 => many K (fun its => ∀ p, H1 p = none → Q (.ref p) (upd H1 p (.tup its))) l cls) (upd H p0 (.tup [.str "none"])) Q'
theorem hd_cons {X : Cx} {x m a : Str} {c : Value} {np p1 p2 p3 p4 p5 pos' : Pos} {j1 j2 : Nat} {k} {hds : List ExceptHandler} {l : List (Value × List V)} (hc : Names X x c) (hN : X.N.Nodup) (r : HdsOk X hds (l.map fun q => (q.1, tsAsk q.2)))
    (hi : X.N[1]? = some ("found" : Str) := by rfl) (hx : X.env.scope.names.lookup ("found" : Str) = some .local := by rfl) :
    HdsOk X (.ExceptHandler (some (.Name x np)) none [.Assign [.Name "found" p1] (.Tuple [.Constant (.str a) j1 p2, .Constant (.str m) j2 p3] k p4) p5] pos' :: hds) (((c, [.str a, .str m]) :: l).map fun q => (q.1, tsAsk q.2)) := by
  refine .cons hc (fun a' oe cls d pn _ _ => pss_imp (pss_one (ps_set (X := X.suite a' ((a', oe) :: pn)) (i := 1) hN hi (.inl hx) (pe_tup (pa_cons pe_str (pa_cons pe_str pa_nil))) rfl (.inr hx))) fun D σ H h => ?_) r
  exact ⟨by show 2 ≤ sizeLine; decide, fun p hp => h p hp⟩
theorem takes_len {X : Cx} {W : WX} (tk : Takes X W) : Takes X (fun cls d σ H => σ.length = X.N.length → W cls d σ H) := fun u s' ⟨a, B, sI, pins, σ, H, cls, d, e, I, nb, up, sky, na, os, ag, w⟩ =>
  tk u s' ⟨a, B, sI, pins, σ, H, cls, d, e, I, nb, up, sky, na, os, ag, w I.len⟩
theorem ask_gives {X : Cx} {q : Str} {sg : Scope} {g : Addr} {cdg : Value} {hds : List ExceptHandler} {h0 : ExceptHandler} {l : List (Value × List V)} {j1 j2 : Nat} {k1 k2} {p1 p2 p3 p4 p5 p6 p7 p8 p9 p10 p11 p12 p13 : Pos} (hx : sg.names.lookup ("found" : Str) = some .local)
    (hh : ∀ (s : Shared) (H : Hp), HdsOk (cxOf C8.CX0 X.prog X.w X.K X.mg X.base ["deed", "found"] "_law_ask" sg g cdg X.A X.stack s H C8.E0).nox (h0 :: hds) (l.map fun q => (q.1, tsAsk q.2))) :
    LamX.GivesTo X ["deed", "found"] "_law_ask" sg g cdg [.Assign [.Name "found" p1] (.Tuple [.Constant (.str "none") j1 p2] k1 p3) p4, .Try [.Assign [.Name "found" p5] (.Tuple [.Constant (.str "told") j2 p6, .Call (.Name "deed" p7) [] [] p8] k2 p9) p10] (h0 :: hds) [] [] p11, .Return (some (.Name "found" p12)) p13] "deed" q (TTask X.K l) := by
  intro f c' s H Q tl act hc h
  have hN : (["deed", "found"] : List Str).Nodup := by decide
  refine ⟨_, pss_cons (ps_set (i := 1) hN rfl (.inl hx) (pe_tup (pa_cons pe_str pa_nil)) rfl (.inr hx)) (pss_cons (ps_try_many (X := (cxOf C8.CX0 X.prog X.w X.K X.mg X.base ["deed", "found"] "_law_ask" sg g cdg X.A X.stack s H C8.E0).nox) (l := l.map fun q => (q.1, tsAsk q.2))
      (tb := fun W D σ H => ∃ Ech : XK, (∀ cls d σ' H', σ'.length = 2 → Ech cls d H' → W cls d σ' H') ∧ σ[0]? = some (some (.ref f)) ∧ H c' = some (LamX.CodeO c' q) ∧ ∀ Q' : VK, (∀ v H1, (∀ p, H1 p = none → D.nx (σ.set 1 (some (.ref p))) (upd H1 p (.tup [.str "told", v]))) → Q' v H1) → tl Ech H Q')
      rfl rfl takes_none5 (fun W pn xe tk _ => ?_) (hh s H)) (pss_one (ps_ret (pv 1 rfl (.inl hx))))), ?_⟩
  · refine ⟨fun pins s' σ H' D I h' => ?_⟩
    obtain ⟨Ech, hW, h1, h2, h3⟩ := h'
    have hp := act _ pn xe Ech p7 p8 (takes_len tk) (fun cls d σ' H' e hl => hW cls d σ' H' hl e)
    have hq := pss_one (ps_set (pos := p10) (pos' := p5) (X := (cxOf C8.CX0 X.prog X.w X.K X.mg X.base ["deed", "found"] "_law_ask" sg g cdg X.A X.stack s H C8.E0).tr pn xe) (i := 1) hN rfl (.inl hx) (pe_tup (x1 := k2) (pos := p9) (pa_cons (pe_str (x := ("told" : Str)) (pos := p6) (j := j2)) (pa_cons hp pa_nil))) rfl (.inr hx))
    exact hq.run pins s' σ H' D I ⟨h1, h2, h3 _ fun v H1 z => ⟨by show 2 ≤ sizeLine; decide, fun p hp => z p hp⟩⟩
  · refine ⟨by show 1 ≤ sizeLine; decide, fun p0 hp0 => ?_⟩
    have n0 : c' ≠ p0 := ne_of_none hc hp0
    refine ⟨fun cls _ H1 => many X.K (fun its => ∀ p, H1 p = none → Q (.ref p) (upd H1 p (.tup its))) l cls, fun cls d σ' H' hl' hm => wMany_of (many_imp (fun its hk p hp => ⟨.ref p, List.getElem?_set_self (by rw [hl']; decide), hk p hp⟩) hm), rfl, by rw [upd_ne n0]; exact hc, fun Q' hQ => ?_⟩
    exact h p0 hp0 Q' fun v H1 z => hQ v H1 fun p hp => ⟨.ref p, rfl, z p hp⟩
section
variable {K : PySem.W.Frag} {F : Fx} {σ : L2.St} {Γ Γ1 Γ2 : List Sl} {G H H1 : Hp}
theorem En.extN (E : En K F G σ H Γ) (n0 : NT F.H0) (eN : LamX.ExtN H H1) (t : LamX.Tabs F.T H1) : En K F G σ H1 Γ where
  le := fun a o h => eN a o (E.le a o h) (E.nt a o h)
  g0 := E.g0
  fr := E.fr
  base := fun a o n h => eN a o (E.base a o n h) (n0 a o h)
  mu := fun a m => by
    rcases m with ⟨i, m⟩ | ⟨q, m⟩
    · obtain ⟨e, xs, l⟩ := E.pin _ m
      obtain ⟨_, q, vs, h⟩ := E.own ⟨i, _, own_l l, e⟩
      exact ⟨_, eN a _ h (noTb_hoK q vs)⟩
    · obtain ⟨ps, h, _⟩ := t _ m
      exact ⟨_, h⟩
  sl := fun i => by
    have s := E.sl i
    cases q : lk Γ i with
    | no => trivial
    | dat d => rw [q] at s; exact s
    | own xs =>
      rw [q] at s
      obtain ⟨p, vs, e, gp, hp, ha, hm⟩ := s
      exact ⟨p, vs, e, gp, eN _ _ hp noTb_lst, ha, hm⟩
    | dct ks xs =>
      rw [q] at s
      obtain ⟨p, vs, e, gp, hp, ha, hm⟩ := s
      exact ⟨p, vs, e, gp, eN _ _ hp (noTb_hoK (.d ks) vs), ha, hm⟩
    | dcl p0 ob0 vs0 ks xs =>
      rw [q] at s
      obtain ⟨p, vs, e, gp, ⟨ob, hp⟩, ha, hm⟩ := s
      exact ⟨p, vs, e, gp, ⟨ob, eN _ _ hp (fun _ z => by cases z)⟩, ha, hm⟩
  nd := E.nd
  len := E.len
  pin := E.pin
  tab := t
  nt := E.nt
theorem Step.extN (eN : LamX.ExtN H H1) : Step σ Γ Γ G H G H1 := ⟨fun _ _ h => h, fun a o h => .inl ⟨o, h⟩, fun a o h _ t => eN a o h t, fun _ h => h, fun a o l h => ⟨o, l, eN a _ h (ld_noTb l)⟩⟩
end
structure AskC (X : Cx) (T : List (Addr × Str)) (l : List (Value × List V)) : Prop where
  ex : ∃ (g c Pt : Addr) (pg : Arguments) (bg : List Stmt) (sg : Scope) (dV kV doc pm cdv ct oc : Value) (an od : Option Addr) (osl : Array (Option Value)), X.mg "_law_ask" = some (.ref g) ∧ PySem.W.keepIn X.K (.ref g) = true ∧
    X.K.lookup g = some ⟨oc, od, .func (PySem.W.fnOf "_law_ask" "_law_ask" pg bg sg dV kV doc pm an cdv ct), osl⟩ ∧ PySem.W.codeIn X.K cdv "_law_ask" = true ∧ L2.Binds X.K (PySem.W.fnOf "_law_ask" "_law_ask" pg bg sg dV kV doc pm an cdv ct) ["deed"] [] ∧
    FnScope ["deed", "found"] ["deed"] sg ∧ Vis sg "deed" ∧ LamX.GivesTo X ["deed", "found"] "_law_ask" sg g cdv bg "deed" (X.env.qual ++ "<lambda>") (TTask X.K l) ∧ LamX.TabB X.base X.mg c Pt ∧ X.env.code = .ref c ∧ (Pt, X.env.qual ++ "<lambda>") ∈ T ∧ ∀ p ∈ T, p.1 = Pt → p.2 = X.env.qual ++ "<lambda>"
def lawQ : Str := ("law" : Str) ++ (".<locals>." : Str)
def lawT (Pt : Addr) : List (Addr × Str) := [(Pt, lawQ ++ ("<lambda>" : Str))]
theorem ask_mk {X : Cx} {st : Stmt} {T : List (Addr × Str)} {l : List (Value × List V)} {c Pt : Addr} (D : Def X.K X.mg "_law_ask" st ["deed"]) (S : FnScope ["deed", "found"] ["deed"] (defScope st)) (hv : Vis (defScope st) "deed")
    (hG : ∀ (g : Addr) (cdv : Value), LamX.GivesTo X ["deed", "found"] "_law_ask" (defScope st) g cdv (defBody st) "deed" (X.env.qual ++ "<lambda>") (TTask X.K l)) (TB : LamX.TabB X.base X.mg c Pt) (hcode : X.env.code = .ref c) (q0 : Str) (hq : X.env.qual = q0) (hT : T = [(Pt, q0 ++ "<lambda>")]) : AskC X T l := by
  have hm : (Pt, X.env.qual ++ "<lambda>") ∈ T := by rw [hT, hq]; exact List.mem_cons_self
  have hu : ∀ p ∈ T, p.1 = Pt → p.2 = X.env.qual ++ "<lambda>" := fun p hp _ => by rw [hT, List.mem_singleton] at hp; rw [hp, hq]
  obtain ⟨f, fd, F, h1, h2⟩ := D.ex
  obtain ⟨oc, od, dV, kV, doc, pm, an, cdv, ct, osl, rfl, lk, hcd⟩ := F.ex
  exact ⟨f, c, Pt, _, _, _, dV, kV, doc, pm, cdv, ct, oc, an, od, osl, h1, F.kp, lk, hcd, h2, S, hv, hG f cdv, TB, hcode, hm, hu⟩
theorem ds_ask {X : Cx} {F : Fx} {W : WX} {P : Out → Prop} {Γ : List Sl} {rest : List Stmt} {l : List (Value × List V)} (a : AskC X F.T l) (h : AskC X F.T l → PSs X rest (tS X.K F W Γ P)) : PSs X rest (tS X.K F W Γ P) := h a
section
variable {X : Cx} {F : Fx} {Γ Γ1 : List Sl} {body : Expr} {scope : Scope} {params : Arguments} {lpos pos p : Pos} {l : List (Value × List V)} {k : Nat} {d : PyData} {C : Addr}
theorem de_ask (A : AskC X F.T l) (n0 : NT F.H0) (hr : Room (k + 2) X.A) (L : LamX.LamS X.env.scope scope)
    (hbody : ∀ (A : Around) (outer : List PySem.Env) (s : Shared) (H : Hp) (E : XK) (f c' : Addr), Room k (A.deeper (LamX.lamEnv X scope s.heap.objs.size f c')) → PE (LamX.lamCx X A outer s H E scope f c') body (tD X.K F Γ (.dat d) Γ1))
    (hg : Gl X "_law_ask" := by rfl) (hdef : defaultsOf params X.env = ([], []) := by rfl) (hbind : ∀ (q : Str) (cl : List (Str × Addr)) (pm cv ctv : Value), bindArgs (PySem.W.kla_fn "<lambda>" q params body scope cl pm cv ctv) ⟨[], []⟩ = pure [] := by intro _ _ _ _ _; rfl) :
    PE X (.Call (.Name "_law_ask" p) [.Lambda params body scope lpos] [] pos) (tD X.K F Γ (.dat (.tuple [.str "told", d])) Γ1) := by
  obtain ⟨g, c, Pt, pg, bg, sg, dV, kV, doc, pm, cdv, ct, oc, an, od, osl, a1, a2, a3, a4, a5, a6, a7, a8, a9, a10, a11, a12⟩ := A.ex
  refine pe_imp (LamX.pe_lamcall (t := fun _ => tD X.K F Γ (.dat d) Γ1) hg a1 a2 a3 a4 a5 a6 rfl a7 a8 a9 a10 a11 a12 hr L hdef hbind (fun A outer s H E f c' hr' => hbody A outer s H E f c' hr')) fun σ H Q ⟨G, E, q⟩ => ⟨E.tab, fun H1 eN t1 p0 hp0 Q' hQ => ?_⟩
  have E1 := E.extN n0 eN t1
  refine ⟨G, E1.newRaw hp0, fun v H2 G2 s2 E2 v2 => hQ v H2 fun p hp => ?_⟩
  have g := (E2.no hp).2.2
  exact q _ _ _ ((Step.extN eN).trans ((Step.newRaw hp0).trans (s2.trans (Step.newDat hp g)))) (E2.newDat hp) (.tup (SqT.of upd_same) (dpa_mono (same_upd g) _ _ (.cons (.str _) (.cons v2 .nil))))
def manyD (K : PySem.W.Frag) (its : List V) : List (Value × List V) → Value → Prop
  | [], _ => False
  | (c, i) :: r, cls => (PySem.W.exmOne K cls c = some true ∧ i = its) ∨ (PySem.W.exmOne K cls c = some false ∧ manyD K its r cls)
theorem many_of {K : PySem.W.Frag} {k : List V → Prop} {its : List V} (h : k its) : ∀ {l : List (Value × List V)} {cls : Value}, manyD K its l cls → many K k l cls
  | [], _, z => z.elim
  | (c, i) :: r, cls, .inl ⟨e, z⟩ => ⟨true, e, fun _ => by rw [z]; exact h, fun z => (by cases z)⟩
  | (c, i) :: r, cls, .inr ⟨e, z⟩ => ⟨false, e, fun z => (by cases z), fun _ => many_of h z⟩
theorem de_askX {a m : Str} (A : AskC X F.T l) (n0 : NT F.H0) (hr : Room (k + 2) X.A) (L : LamX.LamS X.env.scope scope) (hl : manyD X.K [.str a, .str m] l (.ref C))
    (hbody : ∀ (A : Around) (outer : List PySem.Env) (s : Shared) (H : Hp) (E : XK) (f c' : Addr), Room k (A.deeper (LamX.lamEnv X scope s.heap.objs.size f c')) → PE (LamX.lamCx X A outer s H E scope f c') body (tX X.K F (fun cls d _ H => E cls d H) Γ C Γ1))
    (hg : Gl X "_law_ask" := by rfl) (hdef : defaultsOf params X.env = ([], []) := by rfl) (hbind : ∀ (q : Str) (cl : List (Str × Addr)) (pm cv ctv : Value), bindArgs (PySem.W.kla_fn "<lambda>" q params body scope cl pm cv ctv) ⟨[], []⟩ = pure [] := by intro _ _ _ _ _; rfl) :
    PE X (.Call (.Name "_law_ask" p) [.Lambda params body scope lpos] [] pos) (tD X.K F Γ (.dat (.tuple [.str a, .str m])) Γ1) := by
  obtain ⟨g, c, Pt, pg, bg, sg, dV, kV, doc, pm, cdv, ct, oc, an, od, osl, a1, a2, a3, a4, a5, a6, a7, a8, a9, a10, a11, a12⟩ := A.ex
  refine pe_imp (LamX.pe_lamcall (t := fun E => tX X.K F (fun cls d _ H => E cls d H) Γ C Γ1) hg a1 a2 a3 a4 a5 a6 rfl a7 a8 a9 a10 a11 a12 hr L hdef hbind (fun A outer s H E f c' hr' => hbody A outer s H E f c' hr')) fun σ H Q ⟨G, E, q⟩ => ⟨E.tab, fun H1 eN t1 p0 hp0 Q' hQ => ?_⟩
  have E1 := E.extN n0 eN t1
  refine ⟨G, E1.newRaw hp0, fun H2 G2 s2 E2 => many_of (fun p hp => ?_) hl⟩
  have g := (E2.no hp).2.2
  exact q _ _ _ ((Step.extN eN).trans ((Step.newRaw hp0).trans (s2.trans (Step.newDat hp g)))) (E2.newDat hp) (.tup (SqT.of upd_same) (.cons (.str _) (.cons (.str _) .nil)))
end
structure CalD (P : Program) (w : World) (K : PySem.W.Frag) (mg : Str → Option Value) (base : Heap) (k : Nat) (x : Str) (ps : List Str) (sp : Sp) (dvs : List V) : Prop where
  ex : ∃ f fd ds, FnOk P w K mg base (L2.CX P w) k f fd ps sp ∧ mg x = some (.ref f) ∧ PySem.W.keepIn K (.ref f) = true ∧ Binds K fd ps ds ∧ Vals dvs ds
theorem CalD.mono {P : Program} {w : World} {K : PySem.W.Frag} {mg : Str → Option Value} {base : Heap} {j k : Nat} {x : Str} {ps : List Str} {sp : Sp} {dvs : List V} (C : CalD P w K mg base j x ps sp dvs) (h : j ≤ k) : CalD P w K mg base k x ps sp dvs := by
  obtain ⟨f, fd, ds, h1, h2, h3, h4, h5⟩ := C.ex
  exact ⟨f, fd, ds, h1.mono h, h2, h3, h4, h5⟩
section
variable {X : Cx} {F : Fx} {W : WX} {P : Out → Prop} {Γ Γ1 Γ2 : List Sl} {a b c e : Expr} {es : List Expr} {pos pos' p p2 : Pos} {k : Nat} {rest : List Stmt} {C : Addr} {x : Str} {ps : List Str} {rs : List Rv} {ds dds : List PyData} {dvs : List V} {d : PyData}
theorem dcD {R : List PyData → Res → Prop} (Cf : CalD X.prog X.w X.K X.mg X.base k x ps (spP X.K R) dvs) (hr : Room k X.A) (ha : PA X (e :: es) (tDA X.K F Γ rs Γ1)) (hR : R (ds ++ dds) (.ok d)) (hdv : ∀ G, DqAll X.K G dvs dds) (hd : datS rs = some ds := by rfl)
    (hg : Gl X x := by rfl) (hdb : (x == ("__debug__" : Str)) = false := by decide) (he : starEach (e :: es) X.env = (false, eval e X.env) :: starEach es X.env := by rfl) (hpl : (backTo pos (starEach es X.env)).any (·.1) = false := by rfl) :
    PE X (.Call (.Name x p) (e :: es) [] pos) (tD X.K F Γ (.dat d) Γ1) := by
  obtain ⟨f, fd, dsv, h1, h2, h3, h4, h5⟩ := Cf.ex
  exact pe_imp (pe_callSD (E := WE fun _ _ _ _ => False) h1 hr hg h2 h3 h4 h5 (fun σ => passAt takes0 σ) ha hdb he hpl) fun σ H Q ⟨G, E, q⟩ => ⟨G, E, fun vs H1 G1 s1 E1 v1 =>
    ⟨G1, ds ++ dds, .ok d, E1.le, E1.nt, dpa_app (datS_dp v1 hd) (hdv G1), hR, fun v H' G' g hv => q v H' G' (s1.trans g.step) (E1.grown g) hv⟩⟩
theorem dcDX {R : List PyData → Res → Prop} (Cf : CalD X.prog X.w X.K X.mg X.base k x ps (spP X.K R) dvs) (hr : Room k X.A) (tk : Takes X W) (ha : PA X (e :: es) (tDA X.K F Γ rs Γ1)) (hR : R (ds ++ dds) (.ex C)) (hdv : ∀ G, DqAll X.K G dvs dds) (hd : datS rs = some ds := by rfl)
    (hg : Gl X x := by rfl) (hdb : (x == ("__debug__" : Str)) = false := by decide) (he : starEach (e :: es) X.env = (false, eval e X.env) :: starEach es X.env := by rfl) (hpl : (backTo pos (starEach es X.env)).any (·.1) = false := by rfl) :
    PE X (.Call (.Name x p) (e :: es) [] pos) (tX X.K F W Γ C Γ1) := by
  obtain ⟨f, fd, dsv, h1, h2, h3, h4, h5⟩ := Cf.ex
  exact pe_imp (pe_callSD (E := WE W) h1 hr hg h2 h3 h4 h5 (fun σ => passAt tk σ) ha hdb he hpl) fun σ H Q ⟨G, E, q⟩ => ⟨G, E, fun vs H1 G1 s1 E1 v1 =>
    ⟨G1, ds ++ dds, .ex C, E1.le, E1.nt, dpa_app (datS_dp v1 hd) (hdv G1), hR, fun H' sm => q H' G1 (s1.trans (Grown.step ⟨sm, Same.r, E1.le.trans sm, fun a o h => .inl ⟨o, h⟩, E1.nt⟩)) (E1.grown ⟨sm, Same.r, E1.le.trans sm, fun a o h => .inl ⟨o, h⟩, E1.nt⟩)⟩⟩
end
structure DefV (K : PySem.W.Frag) (mg : Str → Option Value) (x : Str) (st : Stmt) (ps : List Str) (dvs : List V) (n : Nat) (ks : List Str) : Prop where
  ex : ∃ f fd ds, FunG K x x st f fd ∧ mg x = some (.ref f) ∧ Binds K fd ps [] ∧ Vals dvs ds ∧ Binds K fd ps ds ∧ KBn K fd ps n ks (· ++ ·) (· ++ ·)
structure CalV (P : Program) (w : World) (K : PySem.W.Frag) (mg : Str → Option Value) (base : Heap) (k : Nat) (x : Str) (ps : List Str) (sp : Sp) (dvs : List V) (n : Nat) (ks : List Str) : Prop where
  ex : ∃ f fd ds, FnOk P w K mg base (L2.CX P w) k f fd ps sp ∧ mg x = some (.ref f) ∧ PySem.W.keepIn K (.ref f) = true ∧ Binds K fd ps [] ∧ Vals dvs ds ∧ Binds K fd ps ds ∧ KBn K fd ps n ks (· ++ ·) (· ++ ·)
section
variable {P : Program} {w : World} {K : PySem.W.Frag} {mg : Str → Option Value} {base : Heap} {j k n : Nat} {x : Str} {N ps ks : List Str} {sp : Sp} {dvs : List V} {st : Stmt}
theorem CalV.mono (C : CalV P w K mg base j x ps sp dvs n ks) (h : j ≤ k) : CalV P w K mg base k x ps sp dvs n ks := by
  obtain ⟨f, fd, ds, h1, r⟩ := C.ex
  exact ⟨f, fd, ds, h1.mono h, r⟩
theorem CalV.full (C : CalV P w K mg base k x ps sp dvs n ks) : Cal P w K mg base k x ps sp := by
  obtain ⟨f, fd, ds, h1, h2, h3, h4, _⟩ := C.ex
  exact ⟨f, fd, h1, h2, h3, h4⟩
theorem CalV.dflt (C : CalV P w K mg base k x ps sp dvs n ks) : CalD P w K mg base k x ps sp dvs := by
  obtain ⟨f, fd, ds, h1, h2, h3, h4, h5, h6, _⟩ := C.ex
  exact ⟨f, fd, ds, h1, h2, h3, h6, h5⟩
theorem cal_pureV {R : List PyData → Res → Prop} (D : DefV K mg x st ps dvs n ks) (S : FnScope N ps (defScope st)) (len : ∀ ds r, R ds r → ds.length = ps.length) (hle : ps.length ≤ N.length)
    (body : ∀ (f : Addr) (cdv : Value) (A : Around) (outer : List PySem.Env) (s : Shared) (H G : Hp) (E : XK) (ds : List PyData) (r : Res), Room k (A.deeper (envOfC x (defScope st) s.heap.objs.size f cdv)) → R ds r →
      PSs (cxOf (L2.CX P w) P w K mg base N x (defScope st) f cdv A outer s H E) (defBody st) (tS K (fx0 H G) (fun c d _ H => E c d H) (startG N.length ds) (wantP r))) : CalV P w K mg base (k + 1) x ps (spP K R) dvs n ks := by
  obtain ⟨f, fd, ds, F, h1, h2, h3, h4, h5⟩ := D.ex
  exact ⟨f, fd, ds, fn_pure F S len hle (body f), h1, F.kp, h2, h3, h4, h5⟩
end
theorem bindsTo_d {s : Shared} {fd : FuncData} {args : Args} {binds : List (Str × Value)} {K : PySem.W.Frag} {T : Addr} {o : Obj} {its : Array Value} {n : Nat} (kin : K.In s.heap) (lT : K.lookup T = some o) (oT : o.data = .seq its n)
    (h : ∃ k, bindArgs fd args = seqItems? (.ref T) >>= k ∧ k (some its) = pure binds) : BindsTo s fd args binds := by
  obtain ⟨k, e1, e2⟩ := h
  refine BindsTo.of_looks fun M => ?_
  rw [e1]
  exact looks_items kin lT oT (.of_pure e2)
theorem law_mkT {P : Program} {w : World} {K : PySem.W.Frag} {mg : Str → Option Value} {base : Heap} {k : Nat} {st : Stmt} {f c : Addr} {N : List Str} {T : List (Addr × Str)} {oc kV doc pm ct : Value} {od an : Option Addr} {osl : Array (Option Value)}
    (lk : K.lookup f = some ⟨oc, od, .func (PySem.W.fnOf "law" "law" (defArgs st) (defBody st) (defScope st) .none kV doc pm an (.ref c) ct), osl⟩) (hcd : PySem.W.codeIn K (.ref c) "law" = true) (S : FnScope N ["script"] (defScope st))
    (body : ∀ (A : Around) (outer : List PySem.Env) (s : Shared) (H : Hp) (E : XK), Room k (A.deeper (envOfC "law" (defScope st) s.heap.objs.size f (.ref c))) →
      PSs (cxOf (L2.CX P w) P w K mg base N "law" (defScope st) f (.ref c) A outer s H E) (defBody st) (fun D σ H => σ.length = N.length ∧ (∃ (a : Addr) (ns : List Int), σ[0]? = some (some (.ref a)) ∧ SqL K H a (ns.map V.int) ∧ ns.length ≤ 63) ∧ LamX.Tabs T H ∧ ∀ H', D.rt (.bl true) H'))
    (hN : ∀ v : V, (L2.start N [v]).length = N.length ∧ (L2.start N [v])[0]? = some (some v) := by intro _; exact ⟨rfl, rfl⟩) : FnOk P w K mg base (L2.CX P w) (k + 1) f (PySem.W.fnOf "law" "law" (defArgs st) (defBody st) (defScope st) .none kV doc pm an (.ref c) ct) ["script"] (spLaw K T) := by
  refine fn_of lk hcd S (fun vs H Q E h => ?_) (fun A outer s H vs Q E hr h => ?_)
  · obtain ⟨a, ns, rfl, _⟩ := h; rfl
  · obtain ⟨a, ns, rfl, hS, hlen, tb, q⟩ := h
    exact ⟨_, body A outer s H E hr, (hN _).1, ⟨a, ns, (hN _).2, hS, hlen⟩, tb, q⟩
theorem law_atT {l : PySem.W.OpenLaw} {w : World} {K : PySem.W.Frag} {mg : Str → Option Value} {k : Nat} {fa c Pt : Addr} {h : Heap} {name qual : Str} {params : Arguments} {body : List Stmt} {scope : Scope} {dV kV doc pm ct oc : Value} {od an : Option Addr} {osl : Array (Option Value)} {q : Str} (KX : K.In h)
    (lk : K.lookup fa = some ⟨oc, od, .func (PySem.W.fnOf name qual params body scope dV kV doc pm an (.ref c) ct), osl⟩) (hc : PySem.W.codeHdIn K c Pt = true) (nP : K.lookup Pt = none) (hT : h.get? Pt = some { cls := .none, data := .fields #[] })
    (hb : ∀ (s : Shared) (v : Value), BindsTo s (PySem.W.fnOf name qual params body scope dV kV doc pm an (.ref c) ct) ⟨[v], []⟩ [("script", v)])
    (F : ∀ base : Heap, K.In base → base.Ns mainGlobals mg → LamX.TabB base mg c Pt → FnOk l.prog w K mg base (L2.CX l.prog w) k fa (PySem.W.fnOf name qual params body scope dV kV doc pm an (.ref c) ct) ["script"] (spLaw K [(Pt, q)])) : LamX.LawAtS l w K (L2.CX l.prog w) k 63 "script" mg fa h := by
  refine ⟨_, [(c, Pt)], spLaw K [(Pt, q)], fun p hp => ?_, fun p hp => ?_, fun p hp => ?_, hb, fun H a ns hl _ hH hS => ⟨a, ns, rfl, hS, hl, fun p hp => ?_, fun _ => rfl⟩, fun base k1 k2 k3 => F base k1 k2 (k3 _ List.mem_cons_self)⟩
  · rw [List.mem_singleton] at hp; subst hp; exact hT
  · rw [List.mem_singleton] at hp; subst hp; exact nP
  · rw [List.mem_singleton] at hp; subst hp; exact PySem.W.codeHd_of_K KX hc
  · rw [List.mem_singleton] at hp; subst hp
    exact LamX.TabS.nil (hH _ List.mem_cons_self)
end AM
set_option Elab.async false
set_option linter.all false
set_option maxRecDepth 100000
set_option maxHeartbeats 2000000
namespace AM
open PySem PySem.Spec PyProof.Rows L2
theorem fmod_nat (x y : Nat) : (x : Int).fmod (y : Int) = ((x % y : Nat) : Int) := by
  rw [Int.fmod_eq_emod_of_nonneg _ (by omega)]; exact (Int.natCast_emod x y).symm
def sgcd (a b : Int) : Int := if b < 0 then 0 - (Int.gcd a b : Int) else (Int.gcd a b : Int)
def lowT (a b : Int) : Int := a.fdiv (sgcd a b)
def lowB (a b : Int) : Int := b.fdiv (sgcd a b)
theorem gcd_pos {a b : Int} (h : b ≠ 0) : 0 < Int.gcd a b := Int.gcd_pos_of_ne_zero_right a h
theorem sgcd_ne {a b : Int} (h : b ≠ 0) : sgcd a b ≠ 0 := by
  have := gcd_pos (a := a) h
  unfold sgcd; split <;> omega
theorem pl_str (n : Nat) (s : Str) (h : PyData.canLay0 (.str s) = true) : pl n (.str s) := by cases n <;> exact h
def gcdL : Nat → List Int → Nat
  | g, [] => g
  | g, a :: r => gcdL (Nat.gcd g a.natAbs) r
end AM
set_option Elab.async false
set_option linter.all false
set_option maxRecDepth 100000
set_option maxHeartbeats 4000000
namespace AM
open PySem PySem.Spec PyProof.Rows L2
end AM
set_option Elab.async false
set_option linter.all false
set_option maxRecDepth 100000
set_option maxHeartbeats 2000000
namespace AM
open PySem PySem.Spec PyProof.Rows L2
def trimZ : List Int → List Int
  | [] => []
  | a :: r => match trimZ r with
    | [] => if a = 0 then [] else [a]
    | t => a :: t
theorem trimZ_mem {x : Int} : ∀ {ns : List Int}, x ∈ trimZ ns → x ∈ ns
  | [], h => h
  | a :: r, h => by
    simp only [trimZ] at h
    split at h
    · split at h
      · cases h
      · rw [List.mem_singleton] at h; subst h; exact List.mem_cons_self
    · rcases List.mem_cons.mp h with rfl | h
      · exact List.mem_cons_self
      · exact List.mem_cons_of_mem _ (trimZ_mem h)
def padZ (f : List Int) (m : Nat) : List Int := f ++ List.replicate (m - f.length) 0
def addZ (f g : List Int) : List Int := trimZ (List.zipWith (· + ·) (padZ f (max f.length g.length)) (padZ g (max f.length g.length)))
def addAt (acc : List Int) (i : Nat) (x : Int) : List Int := acc.set i (acc.getD i 0 + x)
def inn (acc : List Int) (i : Nat) (a : Int) : List Int → List Int
  | [] => acc
  | b :: g => inn (addAt acc i (a * b)) (i + 1) a g
def out (acc : List Int) (i : Nat) (g : List Int) : List Int → List Int
  | [] => acc
  | a :: f => out (inn acc i a g) (i + 1) g f
theorem addAt_len (acc : List Int) (i : Nat) (x : Int) : (addAt acc i x).length = acc.length := List.length_set
theorem inn_len (a : Int) : ∀ (g : List Int) (acc : List Int) (i : Nat), (inn acc i a g).length = acc.length
  | [], _, _ => rfl
  | b :: g, acc, i => by rw [inn, inn_len a g, addAt_len]
def big (n : Int) : Prop := n.natAbs < 2 ^ 60000000
end AM
namespace AM
open PySem PySem.Spec PyProof.Rows L2
end AM
set_option Elab.async false
set_option linter.all false
set_option maxRecDepth 100000
set_option maxHeartbeats 4000000
namespace AM
open PySem PySem.Spec PyProof.Rows L2
end AM
namespace AM
open PySem PySem.Spec PyProof.Rows L2
theorem ixN_nat {n i : Nat} (h : i < n) : ixN n (i : Int) = some i := by rw [ixN_pos (by omega) (by omega), Int.toNat_natCast]
end AM
set_option Elab.async false
set_option linter.all false
set_option maxRecDepth 100000
set_option maxHeartbeats 4000000
namespace AM
open PySem PySem.Spec PyProof.Rows L2
end AM
set_option Elab.async false
set_option linter.all false
set_option maxRecDepth 100000
set_option maxHeartbeats 2000000
namespace AM
open PySem PySem.Spec PyProof.Rows L2
theorem bs {α β : Type} {m : Option α} {f : α → Option β} {v : β} (h : m.bind f = some v) : ∃ x, m = some x ∧ f x = some v := by
  cases m with
  | none => cases h
  | some x => exact ⟨x, rfl, h⟩
theorem sm {α : Type} {x y : α} (h : some x = some y) : x = y := Option.some.inj h
theorem ifT {α : Type} {k : Bool} {a b : Option α} {r : α} (h : (if k = true then a else b) = some r) (e : k = true) : a = some r := by rw [if_pos e] at h; exact h
theorem ifF {α : Type} {k : Bool} {a b : Option α} {r : α} (h : (if k = true then a else b) = some r) (e : k = false) : b = some r := by rw [if_neg (by rw [e]; decide)] at h; exact h
instance (a b : Int) : Decidable (IntMulOk a b) := inferInstanceAs (Decidable (¬ _))
def mulC (a b : Int) : Option Int := if IntMulOk a b then some (a * b) else none
def modC (a b : Int) : Option Int := if b ≠ 0 then some (a.fmod b) else none
def rngD (lo : Int) (n : Nat) : List Int := (List.range n).map fun i : Nat => lo - (i : Int)
def rng3 (i j : Int) : Option (List Int) := if (-(2 ^ 62) ≤ i ∧ i < 2 ^ 62) ∧ -(2 ^ 62) ≤ j ∧ j < 2 ^ 62 then some (rngD i (i - j).toNat) else none
inductive Ctl (σ τ : Type) where
  | nx (s : σ)
  | rt (t : τ)
def forO {σ α : Type} (bd : σ → α → Option σ) : List α → σ → Option σ
  | [], s => some s
  | x :: r, s => (bd s x).bind fun s' => forO bd r s'
def forC {σ α τ : Type} (bd : σ → α → Option (Ctl σ τ)) : List α → σ → Option (Ctl σ τ)
  | [], s => some (.nx s)
  | x :: r, s => (bd s x).bind fun c => match c with
    | .nx s' => forC bd r s'
    | .rt t => some (.rt t)
inductive WhileR {σ τ : Type} (cn : σ → Option Bool) (bd : σ → Option (Ctl σ τ)) : σ → Ctl σ τ → Prop
  | stop {s : σ} : cn s = some false → WhileR cn bd s (.nx s)
  | step {s s' : σ} {r : Ctl σ τ} : cn s = some true → bd s = some (.nx s') → WhileR cn bd s' r → WhileR cn bd s r
  | ret {s : σ} {t : τ} : cn s = some true → bd s = some (.rt t) → WhileR cn bd s (.rt t)
theorem WhileR.det {σ τ : Type} {cn : σ → Option Bool} {bd : σ → Option (Ctl σ τ)} {s : σ} {r r' : Ctl σ τ} (h : WhileR cn bd s r) : WhileR cn bd s r' → r = r' := by
  induction h with
  | stop e => intro h'; cases h' with
    | stop _ => rfl
    | step e2 => rw [e] at e2; cases e2
    | ret e2 => rw [e] at e2; cases e2
  | step e b _ ih => intro h'; cases h' with
    | stop e2 => rw [e] at e2; cases e2
    | step _ b2 w => rw [b] at b2; cases b2; exact ih w
    | ret _ b2 => rw [b] at b2; cases b2
  | ret e b => intro h'; cases h' with
    | stop e2 => rw [e] at e2; cases e2
    | step _ b2 => rw [b] at b2; cases b2
    | ret _ b2 => rw [b] at b2; cases b2; rfl
inductive WhileS {σ : Type} (cn : σ → Option Bool) (bd : σ → Option σ) : σ → σ → Prop
  | stop {s : σ} : cn s = some false → WhileS cn bd s s
  | step {s s' r : σ} : cn s = some true → bd s = some s' → WhileS cn bd s' r → WhileS cn bd s r
theorem WhileS.det {σ : Type} {cn : σ → Option Bool} {bd : σ → Option σ} {s r r' : σ} (h : WhileS cn bd s r) : WhileS cn bd s r' → r = r' := by
  induction h with
  | stop e => intro h'; cases h' with
    | stop _ => rfl
    | step e2 => rw [e] at e2; cases e2
  | step e b _ ih => intro h'; cases h' with
    | stop e2 => rw [e] at e2; cases e2
    | step _ b2 w => rw [b] at b2; cases b2; exact ih w
open Classical in
noncomputable def whileO {σ : Type} (cn : σ → Option Bool) (bd : σ → Option σ) (s : σ) : Option σ := if h : ∃ r, WhileS cn bd s r then some h.choose else none
theorem whileO_iff {σ : Type} {cn : σ → Option Bool} {bd : σ → Option σ} {s r : σ} : whileO cn bd s = some r ↔ WhileS cn bd s r := by
  unfold whileO
  constructor
  · intro h
    split at h
    · rename_i hx
      cases h
      exact hx.choose_spec
    · cases h
  · intro h
    have hx : ∃ r, WhileS cn bd s r := ⟨r, h⟩
    rw [dif_pos hx]
    exact congrArg some (hx.choose_spec.det h)
def filO {α β : Type} (c : α → Option Bool) (f : α → Option β) : List α → Option (List β)
  | [] => some []
  | x :: r => (c x).bind fun k => if k = true then (f x).bind fun y => (filO c f r).bind fun ys => some (y :: ys) else filO c f r
def filC {α β : Type} (c : α → Option Bool) (f : α → Option β) (xs : List α) : Option (List β) := if xs.length < 100000 then filO c f xs else none
def takeC (b : Bag) (m : Int) : Option (Int × Bag) := if 0 ≤ b.y ∧ b.y < 2305843009213693951 ∧ 0 ≤ b.z ∧ b.z ≤ 1000000000 ∧ 0 < m ∧ m < 2 ^ 63 then some (take b m) else none
inductive Xn where
  | NoRatio | NoPoly | NoPrime | NoElement | NoFormula | NoTree | NoText | NoName | NoRoot | NoReal | NoDivision | TooGreat | Folds | NothingBetween | NothingLeft | Ring | Full | NothingDone | RootError | NoSuch | NoValue
deriving DecidableEq
def clOf (l : List (Xn × Addr)) (n : Xn) : Addr := match l with
  | [] => 0
  | (m, a) :: r => if m = n then a else clOf r n
inductive Ex (τ : Type) where
  | ok (t : τ)
  | ex (c : Xn)
def okC {τ : Type} : Option (Ex τ) → Option τ
  | some (.ok t) => some t
  | _ => none
abbrev eT {α : Type} (e : α → PyData) (l : List α) : PyData := .tuple (l.map e)
abbrev eL {α : Type} (e : α → PyData) (l : List α) : PyData := .list (l.map e)
abbrev eP {α β : Type} (e : α → PyData) (f : β → PyData) (p : α × β) : PyData := .tuple [e p.1, f p.2]
abbrev eD (d : PyData) : PyData := d
abbrev eU (_ : Unit) : PyData := .none
def eO {α : Type} (e : α → PyData) : Option α → PyData
  | none => .none
  | some x => e x
def eqC (a b : PyData) : Option Bool := if SeqAt.shaped a = true ∧ SeqAt.shaped b = true then some (PyData.eqv a b) else none
structure EqE {α : Type} [DecidableEq α] (e : α → PyData) : Prop where
  eq : ∀ x y, PyData.eqv (e x) (e y) = decide (x = y)
structure ShE {α : Type} (e : α → PyData) (n : Nat) : Prop where
  lay : ∀ x, (e x).canLay0 = true
  dep : ∀ x, (e x).depth ≤ n
theorem ShE.sh {α : Type} {e : α → PyData} {n : Nat} (h : ShE e n) (x : α) (hn : n ≤ 64 := by decide) : SeqAt.shaped (e x) = true := by
  unfold SeqAt.shaped
  have := h.dep x
  rw [h.lay x, decide_eq_true (show (e x).depth ≤ 64 by omega)]; rfl
theorem eqE_int : EqE PyData.int := ⟨fun x y => by simp only [PyData.eqv]; first | rfl | (simp [Bool.beq_eq_decide_eq])⟩
theorem shE_int : ShE PyData.int 0 := ⟨fun _ => rfl, fun _ => Nat.zero_le _⟩
theorem eqvAll_E {α : Type} [DecidableEq α] {e : α → PyData} (h : EqE e) : ∀ as bs : List α, PyData.eqvAll (as.map e) (bs.map e) = decide (as = bs)
  | [], [] => by simp [PyData.eqvAll]
  | [], _ :: _ => by simp [PyData.eqvAll]
  | _ :: _, [] => by simp [PyData.eqvAll]
  | a :: as, b :: bs => by
    simp only [List.map_cons, PyData.eqvAll, h.eq, eqvAll_E h as bs, List.cons.injEq, Bool.decide_and]
theorem EqE.T {α : Type} [DecidableEq α] {e : α → PyData} (h : EqE e) : EqE (eT e) := ⟨fun x y => by rw [← eqvAll_E h]; simp [PyData.eqv, eT]⟩
theorem EqE.L {α : Type} [DecidableEq α] {e : α → PyData} (h : EqE e) : EqE (eL e) := ⟨fun x y => by rw [← eqvAll_E h]; simp [PyData.eqv, eL]⟩
theorem EqE.P {α β : Type} [DecidableEq α] [DecidableEq β] {e : α → PyData} {f : β → PyData} (h : EqE e) (h2 : EqE f) : EqE (eP e f) := ⟨fun x y => by
  simp only [eP, PyData.eqv, PyData.eqvAll, h.eq, h2.eq, Bool.and_true]
  rw [← Bool.decide_and]
  exact decide_eq_decide.mpr (by rw [Prod.ext_iff])⟩
theorem layAll_E {α : Type} {e : α → PyData} {n : Nat} (h : ShE e n) (l : List α) : PyData.canLayAll0 (l.map e) = true ∧ PyData.depthAll (l.map e) ≤ n := lay_of fun d hd => by
  obtain ⟨x, _, rfl⟩ := List.mem_map.mp hd
  exact ⟨h.lay x, h.dep x⟩
theorem ShE.T {α : Type} {e : α → PyData} {n : Nat} (h : ShE e n) : ShE (eT e) (n + 1) := ⟨fun x => by simp only [eT, PyData.canLay0]; exact (layAll_E h x).1, fun x => by simp only [eT, PyData.depth]; have := (layAll_E h x).2; omega⟩
theorem ShE.L {α : Type} {e : α → PyData} {n : Nat} (h : ShE e n) : ShE (eL e) (n + 1) := ⟨fun x => by simp only [eL, PyData.canLay0]; exact (layAll_E h x).1, fun x => by simp only [eL, PyData.depth]; have := (layAll_E h x).2; omega⟩
theorem ShE.P {α β : Type} {e : α → PyData} {f : β → PyData} {n m : Nat} (h : ShE e n) (h2 : ShE f m) : ShE (eP e f) (max n m + 1) := ⟨fun x => by simp only [eP, PyData.canLay0, PyData.canLayAll0, h.lay, h2.lay, Bool.and_true], fun x => by
  have h1 := h.dep x.1
  have h2 := h2.dep x.2
  simp only [eP, PyData.depth, PyData.depthAll]; omega⟩
end AM
set_option Elab.async false
set_option linter.all false
set_option maxRecDepth 100000
set_option maxHeartbeats 2000000
namespace AM
open PySem PySem.Spec PyProof.Rows L2
theorem atI_map {α β : Type} (f : α → β) (xs : List α) (i : Int) : atI (xs.map f) i = (atI xs i).map f := by
  unfold atI
  rw [List.length_map]
  cases ixN xs.length i with
  | none => rfl
  | some j => show (xs.map f)[j]? = (xs[j]?).map f; rw [List.getElem?_map]
theorem atI_e {α : Type} {e : α → PyData} {xs : List α} {i : Int} {x : α} (h : atI xs i = some x) : atI (xs.map e) i = some (e x) := by rw [atI_map, h]; rfl
section
variable {X : Cx} {F : Fx} {W : WX} {P : Out → Prop} {Γ Γ1 Γ2 Γ3 : List Sl} {a b c e ix o : Expr} {es : List Expr} {pos pos' p p2 p3 : Pos} {k : Nat} {rest : List Stmt} {ra rb : Rv} {i j m : Int} {α β : Type} {en : α → PyData} {em : β → PyData} {xs ys zs : List α} {x : α} {d : PyData}
theorem y_mul (ha : PE X a (tD X.K F Γ (.dat (.int i)) Γ1)) (hb : PE X b (tD X.K F Γ1 (.dat (.int j)) Γ2)) (h : mulC i j = some m) : PE X (.BinOp a .Mult b pos) (tD X.K F Γ (.dat (.int m)) Γ2) := by
  unfold mulC at h
  split at h
  · cases h; exact de_mul ha hb ‹_›
  · cases h
theorem y_mod (ha : PE X a (tD X.K F Γ (.dat (.int i)) Γ1)) (hb : PE X b (tD X.K F Γ1 (.dat (.int j)) Γ2)) (h : modC i j = some m) : PE X (.BinOp a .Mod b pos) (tD X.K F Γ (.dat (.int m)) Γ2) := by
  unfold modC at h
  split at h
  · cases h; exact de_mod ha hb ‹_›
  · cases h
theorem y_as {v w : α} (h : PE X e (tD X.K F Γ (.dat (en v)) Γ1)) (q : v = w) : PE X e (tD X.K F Γ (.dat (en w)) Γ1) := q ▸ h
theorem y_t {v w : Bool} (h : PT X e (tDT X.K F Γ v Γ1)) (q : v = w) : PT X e (tDT X.K F Γ w Γ1) := q ▸ h
theorem y_len (ha : PE X a (tD X.K F Γ ra Γ1)) (B : Bt X.mg) (hv : ∃ d, vw Γ1 ra = some d ∧ sqOf d = some (xs.map en) := by exact ⟨_, rfl, rfl⟩) (hg : Gl X "len" := by rfl) (he : starEach [a] X.env = (false, eval a X.env) :: starEach [] X.env := by rfl) :
    PE X (.Call (.Name "len" p) [a] [] pos) (tD X.K F Γ (.dat (.int (xs.length : Int))) Γ1) := by
  obtain ⟨d, h1, h2⟩ := hv
  have := de_len (p := p) (pos := pos) ha B.len h1 h2 hg he
  rwa [List.length_map] at this
theorem y_ix (ha : PE X a (tD X.K F Γ ra Γ1)) (hb : PE X b (tD X.K F Γ1 (.dat (.int i)) Γ2)) (h : atI xs i = some x) (hv : ∃ d, vw Γ2 ra = some d ∧ sqOf d = some (xs.map en) := by exact ⟨_, rfl, rfl⟩) (hp : PlainIx b := by exact fun _ _ => rfl) :
    PE X (.Subscript a b pos) (tD X.K F Γ (.dat (en x)) Γ2) := by
  obtain ⟨d, h1, h2⟩ := hv
  exact de_ix ha hb (atI_e h) h1 h2 hp
theorem y_tup {rs : List Rv} {ds : List PyData} {x1} (h : PA X es (tDA X.K F Γ rs Γ1)) (hd : datS rs = some ds := by rfl) (hl : ds.length ≤ 100000 := by simp) : PE X (.Tuple es x1 pos) (tD X.K F Γ (.dat (.tuple ds)) Γ1) := de_tup h hl hd
theorem y_lst {rs : List Rv} {ds : List PyData} (h : PA X es (tDA X.K F Γ rs Γ1)) (hd : datS rs = some ds := by rfl) (hl : ds.length ≤ 100000 := by simp) : PE X (.List es pos) (tN X.K F Γ ds Γ1) := dn_lst h hl hd
theorem y_eqD [DecidableEq α] {n : Nat} {x y : α} (E : EqE en) (S : ShE en n) (hr : Room k X.A) (ha : PE X a (tD X.K F Γ ra Γ1)) (hb : PE X b (tD X.K F Γ1 rb Γ2)) (va : vw Γ2 ra = some (en x) := by rfl) (vb : vw Γ2 rb = some (en y) := by rfl) (hn : n ≤ 64 := by decide) : PE X (.Compare a [.Eq] [b] pos) (tD X.K F Γ (.dat (.bool (decide (x = y)))) Γ2) := by
  rw [← E.eq]; exact de_eqD hr ha hb (S.sh x hn) (S.sh y hn) va vb
theorem y_teqD [DecidableEq α] {n : Nat} {x y : α} (E : EqE en) (S : ShE en n) (hr : Room k X.A) (ha : PE X a (tD X.K F Γ ra Γ1)) (hb : PE X b (tD X.K F Γ1 rb Γ2)) (va : vw Γ2 ra = some (en x) := by rfl) (vb : vw Γ2 rb = some (en y) := by rfl) (hn : n ≤ 64 := by decide) : PT X (.Compare a [.Eq] [b] pos) (tDT X.K F Γ (decide (x = y)) Γ2) := by
  rw [← E.eq]; exact dt_eqD hr ha hb (S.sh x hn) (S.sh y hn) va vb
theorem y_eqQ {da db : PyData} {k' : Bool} (hr : Room k X.A) (ha : PE X a (tD X.K F Γ ra Γ1)) (hb : PE X b (tD X.K F Γ1 rb Γ2)) (h : eqC da db = some k') (va : vw Γ2 ra = some da := by rfl) (vb : vw Γ2 rb = some db := by rfl) : PE X (.Compare a [.Eq] [b] pos) (tD X.K F Γ (.dat (.bool k')) Γ2) := by
  unfold eqC at h; split at h
  · rename_i hc; cases h; exact de_eqD hr ha hb hc.1 hc.2 va vb
  · cases h
theorem y_teqQ {da db : PyData} {k' : Bool} (hr : Room k X.A) (ha : PE X a (tD X.K F Γ ra Γ1)) (hb : PE X b (tD X.K F Γ1 rb Γ2)) (h : eqC da db = some k') (va : vw Γ2 ra = some da := by rfl) (vb : vw Γ2 rb = some db := by rfl) : PT X (.Compare a [.Eq] [b] pos) (tDT X.K F Γ k' Γ2) := by
  unfold eqC at h; split at h
  · rename_i hc; cases h; exact dt_eqD hr ha hb hc.1 hc.2 va vb
  · cases h
theorem y_wor {v w : Bool} {rs : List Expr} (ha : PT X a (tDT X.K F Γ v Γ1)) (hb : v = false → PW X (.BoolOp .Or (b :: rs) pos) (tDT X.K F Γ1 w Γ2)) (hf : v = true → w = true ∧ Γ1 = Γ2) : PW X (.BoolOp .Or (a :: b :: rs) pos) (tDT X.K F Γ w Γ2) := by
  cases v with
  | false => exact dw_orF ha (hb rfl)
  | true =>
    obtain ⟨rfl, rfl⟩ := hf rfl
    exact dw_orT ha
theorem y_set (s : Nat) {y : Str} {v w : α} (q : v = w) (he : PE X e (tD X.K F Γ (.dat (en v)) Γ1)) (hr : PSs X rest (tS X.K F W (st Γ1 s (.dat (en w))) P)) (hN : X.N.Nodup) (hi : X.N[s]? = some y := by rfl) (hx : Loc X.env.scope y := by first | exact Or.inl rfl | exact Or.inr rfl) (hl : inb Γ1 s = true := by rfl) (hb : pf F s = true := by rfl)
    (hs : swapsWith e (some (.Name y pos')) pos.line X.env = pure false := by rfl) (hf : X.fn y = true ∨ X.env.scope.names.lookup y = some .local := by first | exact .inl rfl | exact .inr rfl | assumption) :
    PSs X (.Assign [.Name y pos'] e pos :: rest) (tS X.K F W Γ P) := ds_set s (q ▸ he) hr hN hi hx hl hb hs hf
theorem forO_step {σ : Type} {bd : σ → α → Option σ} : ∀ {xs : List α} {s r : σ}, forO bd xs s = some r → ∀ (i : Nat) x, xs[i]? = some x → ∃ u v, forO bd (xs.take i) s = some u ∧ bd u x = some v ∧ forO bd (xs.take (i + 1)) s = some v
  | [], _, _, _, i, x, hx => by simp at hx
  | y :: ys, s, r, h, 0, x, hx => by
    obtain ⟨s', h1, h2⟩ := bs h
    have hx : y = x := by simpa using hx
    subst hx
    refine ⟨s, s', rfl, h1, ?_⟩
    show (bd s y).bind _ = _
    rw [h1]; rfl
  | y :: ys, s, r, h, i + 1, x, hx => by
    obtain ⟨s', h1, h2⟩ := bs h
    obtain ⟨u, v, h3, h4, h5⟩ := forO_step h2 i x (by simpa using hx)
    refine ⟨u, v, ?_, h4, ?_⟩
    · show (bd s y).bind _ = _
      rw [h1]; exact h3
    · show (bd s y).bind _ = _
      rw [h1]; exact h5
theorem y_for {σ : Type} {tg iter : Expr} {body : List Stmt} {A : PyData → List Sl → List Sl → Prop} (mk : σ → List Sl) (bd : σ → α → Option σ) {s0 s1 : σ} (h : forO bd xs s0 = some s1) (hi : PI X tg iter (tI X.K F Γ (xs.map en) (mk s0))) (hg : PG X tg (tT X.K F A)) (hp : PassesOwn (model X.prog X.w) X.A X.env X.xe)
    (turn : ∀ s x s', bd s x = some s' → ∃ Γt, A (en x) (mk s) Γt ∧ PSs X body (tS X.K F W Γt (loopP X F W rest P (fun Γ => Γ = mk s'))))
    (done : PSs X rest (tS X.K F W (mk s1) P)) (hc : X.calm = true := by rfl) (hs : ∀ x, foldedSetIterable iter X.env x = pure x := by intro _; rfl) :
    PSs X (.For tg iter body [] pos :: rest) (tS X.K F W Γ P) := by
  refine ds_for (fun i Γ => ∃ s, forO bd (xs.take i) s0 = some s ∧ Γ = mk s) hi hg ⟨s0, rfl, rfl⟩ hp (fun i d Γ hd ⟨s, e1, e2⟩ => ?_) (fun Γ ⟨s, e1, e2⟩ => ?_) hc hs
  · rw [List.getElem?_map] at hd
    obtain ⟨x, hx, rfl⟩ := Option.map_eq_some_iff.mp hd
    obtain ⟨u, v, h3, h4, h5⟩ := forO_step h i x hx
    rw [h3] at e1
    cases e1
    subst e2
    obtain ⟨Γt, hA, hb⟩ := turn _ x v h4
    refine ⟨Γt, hA, ds_imp hb fun o ho => ?_⟩
    cases o with
    | nx Γ => exact ⟨v, h5, ho⟩
    | ct Γ => exact ⟨v, h5, ho⟩
    | _ => exact ho
  · rw [List.length_map, List.take_length, h] at e1
    cases e1
    subst e2
    exact done
theorem forC_step {σ τ : Type} {bd : σ → α → Option (Ctl σ τ)} : ∀ {xs : List α} {s : σ} {r : Ctl σ τ}, forC bd xs s = some r → ∀ (i : Nat) x u, xs[i]? = some x → forC bd (xs.take i) s = some (.nx u) → ∃ v, bd u x = some v ∧ forC bd (xs.take (i + 1)) s = some v ∧ (∀ t, v = .rt t → r = .rt t)
  | [], _, _, _, i, x, _, hx, _ => by simp at hx
  | y :: ys, s, r, h, 0, x, u, hx, h0 => by
    obtain ⟨c, h1, h2⟩ := bs h
    have hx : y = x := by simpa using hx
    subst hx
    cases h0
    refine ⟨c, h1, ?_, fun t e => ?_⟩
    · show (bd s y).bind _ = _
      rw [h1]; cases c <;> rfl
    · subst e; exact (Option.some.inj h2).symm
  | y :: ys, s, r, h, i + 1, x, u, hx, h0 => by
    obtain ⟨c, h1, h2⟩ := bs h
    have h0 : (bd s y).bind _ = _ := h0
    rw [h1] at h0
    cases c with
    | rt t => cases h0
    | nx s' =>
      obtain ⟨v, h3, h4, h5⟩ := forC_step h2 i x u (by simpa using hx) h0
      refine ⟨v, h3, ?_, h5⟩
      show (bd s y).bind _ = _
      rw [h1]; exact h4
theorem y_forC {σ τ : Type} {tg iter : Expr} {body : List Stmt} {A : PyData → List Sl → List Sl → Prop} (mk : σ → List Sl) (bd : σ → α → Option (Ctl σ τ)) {s0 : σ} {r : Ctl σ τ} (h : forC bd xs s0 = some r) (hi : PI X tg iter (tI X.K F Γ (xs.map en) (mk s0))) (hg : PG X tg (tT X.K F A)) (hp : PassesOwn (model X.prog X.w) X.A X.env X.xe)
    (turn : ∀ s x v, bd s x = some v → (∀ t, v = .rt t → r = .rt t) → ∃ Γt, A (en x) (mk s) Γt ∧ PSs X body (tS X.K F W Γt (loopP X F W rest P (fun Γ => ∃ s', v = .nx s' ∧ Γ = mk s'))))
    (done : ∀ s1, r = .nx s1 → PSs X rest (tS X.K F W (mk s1) P)) (hc : X.calm = true := by rfl) (hs : ∀ x, foldedSetIterable iter X.env x = pure x := by intro _; rfl) :
    PSs X (.For tg iter body [] pos :: rest) (tS X.K F W Γ P) := by
  refine ds_for (fun i Γ => ∃ s, forC bd (xs.take i) s0 = some (.nx s) ∧ Γ = mk s) hi hg ⟨s0, rfl, rfl⟩ hp (fun i d Γ hd ⟨s, e1, e2⟩ => ?_) (fun Γ ⟨s, e1, e2⟩ => ?_) hc hs
  · rw [List.getElem?_map] at hd
    obtain ⟨x, hx, rfl⟩ := Option.map_eq_some_iff.mp hd
    obtain ⟨v, h3, h4, h5⟩ := forC_step h i x s hx e1
    subst e2
    obtain ⟨Γt, hA, hb⟩ := turn s x v h3 h5
    refine ⟨Γt, hA, ds_imp hb fun o ho => ?_⟩
    cases o with
    | nx Γ => obtain ⟨s', q1, q2⟩ := ho; subst q1; exact ⟨s', h4, q2⟩
    | ct Γ => obtain ⟨s', q1, q2⟩ := ho; subst q1; exact ⟨s', h4, q2⟩
    | _ => exact ho
  · rw [List.length_map, List.take_length, h] at e1
    cases e1
    subst e2
    exact done s rfl
def whM {σ : Type} (cn : σ → Option Bool) (bd : σ → Option σ) (r : σ) : Nat → σ → Prop
  | 0, s => cn s = some false ∧ r = s
  | n + 1, s => cn s = some true ∧ ∃ s', bd s = some s' ∧ whM cn bd r n s'
theorem whM_of {σ : Type} {cn : σ → Option Bool} {bd : σ → Option σ} {s r : σ} (h : WhileS cn bd s r) : ∃ n, whM cn bd r n s := by
  induction h with
  | stop e => exact ⟨0, e, rfl⟩
  | step e b _ ih => obtain ⟨n, h⟩ := ih; exact ⟨n + 1, e, _, b, h⟩
theorem y_while {σ : Type} {body : List Stmt} (mk : σ → List Sl) (cn : σ → Option Bool) (bd : σ → Option σ) {s0 r : σ} (h : whileO cn bd s0 = some r) (hp : PassesOwn (model X.prog X.w) X.A X.env X.xe)
    (test : ∀ s v, cn s = some v → PT X c (tDT X.K F (mk s) v (mk s)))
    (turn : ∀ s s', bd s = some s' → PSs X body (tS X.K F W (mk s) (loopP X F W rest P (fun Γ => Γ = mk s'))))
    (done : PSs X rest (tS X.K F W (mk r) P)) : PSs X (.While c body [] pos :: rest) (tS X.K F W (mk s0) P) := by
  obtain ⟨n, hn⟩ := whM_of (whileO_iff.mp h)
  refine ds_while (fun m Γ => ∃ s, whM cn bd r m s ∧ Γ = mk s) n ⟨s0, hn, rfl⟩ hp (fun m Γ ⟨s, e1, e2⟩ => ?_)
  subst e2
  cases m with
  | zero =>
    obtain ⟨e, er⟩ := e1
    subst er
    exact ⟨false, _, test _ _ e, fun z => (by cases z), fun _ => done⟩
  | succ m =>
    obtain ⟨e, s', e2, e3⟩ := e1
    refine ⟨true, _, test s _ e, fun _ => ds_imp (turn s _ e2) fun o ho => ?_, fun z => (by cases z)⟩
    cases o with
    | nx Γ => exact ⟨m, Nat.lt_succ_self _, s', e3, ho⟩
    | ct Γ => exact ⟨m, Nat.lt_succ_self _, s', e3, ho⟩
    | _ => exact ho
theorem yi_tup {tg : Expr} (h : PE X e (tD X.K F Γ (.dat (.tuple (xs.map en))) Γ1)) : PI X tg e (tI X.K F Γ (xs.map en) Γ1) := di_tup h
theorem yi_list {tg : Expr} (h : PE X e (tD X.K F Γ (.dat (.list (xs.map en))) Γ1)) : PI X tg e (tI X.K F Γ (xs.map en) Γ1) := di_list h
theorem itd_rngD {K : PySem.W.Frag} {G : Hp} (lo : Int) (n : Nat) : ItD K G (Itc lo (-1) n) ((rngD lo n).map .int) where
  go := fun i H e hi => by rw [List.length_map, rngD, List.length_map, List.length_range] at hi; exact hi
  yl := fun i H G1 x H' e1 e2 hi ⟨rfl, y⟩ => by
    rw [List.length_map, rngD, List.length_map, List.length_range] at hi
    subst y
    refine ⟨.int (lo - (i : Int)), by simp [rngD, hi], .inl ⟨rfl, ?_⟩⟩
    rw [show lo + ((i : Nat) : Int) * (-1) = lo - (i : Int) by omega]
    exact .int _
  stop := fun i H e hi => by rw [List.length_map, rngD, List.length_map, List.length_range] at hi; exact hi
theorem yi_range3 {tg : Expr} {rs : List Int} (ha : PE X a (tD X.K F Γ (.dat (.int i)) Γ1)) (hb : PE X b (tD X.K F Γ1 (.dat (.int j)) Γ2)) (hc' : PE X c (tD X.K F Γ2 (.dat (.int (-1))) Γ3)) (B : Bt X.mg) (h : rng3 i j = some rs) (hg : Gl X "range" := by rfl)
    (hs : starEach [a, b, c] X.env = (false, eval a X.env) :: starEach [b, c] X.env := by rfl) (hs2 : starEach [b, c] X.env = (false, eval b X.env) :: starEach [c] X.env := by rfl) (hs3 : starEach [c] X.env = (false, eval c X.env) :: starEach [] X.env := by rfl) (hpl : (backTo pos (starEach [b, c] X.env)).any (·.1) = false := by rfl) : PI X tg (.Call (.Name "range" p) [a, b, c] [] pos) (tI X.K F Γ (rs.map .int) Γ3) := by
  unfold rng3 at h; split at h
  · rename_i hc
    cases h
    have h1 := pi_range3 (tg := tg) (p := p) (pos := pos) hg B.range (da_cons ha (da_cons hb (da_cons hc' da_nil hs3) hs2) hs) hs hpl
    refine ⟨fun pins s σ H R I ⟨G, E, q⟩ => h1.run pins s σ H R I ⟨G, E, fun vs H1 G1 s1 E1 v1 => ?_⟩⟩
    obtain ⟨u, v, w, rfl, h1, h2, h3⟩ := paired3 v1
    exact ⟨i, j, -1, (i - j).toNat, by rw [dp_int h1, dp_int h2, dp_int h3], RgC.neg hc.1.1 hc.1.2 hc.2.1 hc.2.2, q _ H1 G1 s1 E1 (itd_rngD i _)⟩
  · cases h
end
section
variable {X : Cx} {F : Fx} {Γ Γ1 Γ2 : List Sl} {a b c e elt iter tg : Expr} {pos p p2 : Pos} {scope : Scope} {own : List (Str × Nat)} {g : TG} {A : PyData → List Sl → List Sl → Prop} {α β : Type} {en : α → PyData} {em : β → PyData} {xs : List α} {ys : List β}
theorem filO_app {c : α → Option Bool} {f : α → Option β} : ∀ {us vs : List α}, filO c f (us ++ vs) = (filO c f us).bind fun a => (filO c f vs).bind fun b => some (a ++ b)
  | [], vs => by show _ = Option.bind (some []) _; simp
  | u :: us, vs => by
    simp only [List.cons_append, filO]
    cases c u with
    | none => rfl
    | some k =>
      cases k with
      | false => simp only [Option.bind_some, Bool.false_eq_true, if_false]; exact filO_app
      | true =>
        simp only [Option.bind_some, if_true]
        cases f u with
        | none => rfl
        | some y =>
          simp only [Option.bind_some]
          rw [filO_app]
          cases filO c f us with
          | none => rfl
          | some z =>
            simp only [Option.bind_some]
            cases filO c f vs with
            | none => rfl
            | some w => rfl
theorem filO_some {c : α → Option Bool} {f : α → Option β} {us vs : List α} {r : List β} (h : filO c f (us ++ vs) = some r) : ∃ a, filO c f us = some a := by
  rw [filO_app] at h
  obtain ⟨a, h1, _⟩ := bs h
  exact ⟨a, h1⟩
theorem y_lcf (q : α → Option Bool) (f : α → Option β) (h : filC q f xs = some ys) (hi : PI X tg iter (tI X.K F Γ (xs.map en) Γ1)) (T : Tgt X.K F g (own.map (·.2)) A) (hN : X.N.Nodup) (ok : BlkOk X.N X.env.scope scope own)
    (hg : ∀ (s : Shared) (H : Hp) (C : Addr) (cl : List (Str × Addr)) (fp : List Addr), PG (X.blk s H scope (compEnvC scope cl C X.env) fp) tg g)
    (turn : ∀ x k, q x = some k → ∃ Γt, A (en x) (wpG Γ1 (own.map (·.2))) Γt ∧ wpG Γt (own.map (·.2)) = wpG Γ1 (own.map (·.2)) ∧ (∀ (s : Shared) (H : Hp) (C : Addr) (cl : List (Str × Addr)) (fp : List Addr), PT (X.blk s H scope (compEnvC scope cl C X.env) fp) c (tDT X.K F Γt k Γt)) ∧
      ∀ y, k = true → f x = some y → ∀ (s : Shared) (H : Hp) (C : Addr) (cl : List (Str × Addr)) (fp : List Addr), PE (X.blk s H scope (compEnvC scope cl C X.env) fp) elt (tD X.K F Γt (.dat (em y)) Γt))
    (hpf : (own.map (·.2)).all (pf F) = true := by rfl) :
    LcR X F Γ elt tg iter [c] scope own (ys.map em) (wpG Γ1 (own.map (·.2))) := by
  unfold filC at h
  split at h
  · rename_i hz
    refine lr_lc (own := own) (A := A) (fun j acc Γ => (∃ as, filO q f (xs.take j) = some as ∧ acc = as.map em) ∧ Γ = wpG Γ1 (own.map (·.2))) hi T hN ok hg ⟨⟨[], rfl, rfl⟩, rfl⟩ (by rw [List.length_map]; exact hz) (fun j d acc Γ hd ⟨⟨as, e0, e1⟩, e2⟩ => ?_) (fun acc Γ ⟨⟨as, e0, e1⟩, e2⟩ => ?_) hpf
    · subst e1 e2
      rw [List.getElem?_map] at hd
      obtain ⟨x, hx, rfl⟩ := Option.map_eq_some_iff.mp hd
      have e3 : xs.take (j + 1) = xs.take j ++ [x] := by rw [List.take_add_one, hx]; rfl
      obtain ⟨w, hw⟩ := filO_some (us := xs.take (j + 1)) (vs := xs.drop (j + 1)) (by rw [List.take_append_drop]; exact h)
      have hw' := hw
      rw [e3, filO_app, e0] at hw
      simp only [Option.bind_some] at hw
      obtain ⟨z, hz2, hw⟩ := bs hw
      obtain ⟨k, hk, hz2⟩ := bs hz2
      obtain ⟨Γt, hA, hwp, ht, he⟩ := turn x k hk
      refine ⟨Γt, k, hA, fun s H C cl fp => pts_if (ht s H C cl fp), fun h0 => ⟨⟨as, ?_, rfl⟩, hwp⟩, fun h1 => ?_⟩
      · subst h0
        cases hz2
        rw [List.append_nil] at hw
        cases hw
        exact hw'
      · subst h1
        obtain ⟨y, hy, hz3⟩ := bs hz2
        cases hz3
        refine ⟨em y, Γt, he y rfl hy, ⟨as ++ [y], ?_, by rw [List.map_append]; rfl⟩, hwp⟩
        cases hw
        exact hw'
    · rw [List.length_map, List.take_length, h] at e0
      cases e0
      exact ⟨e1, e2⟩
  · cases h
end
end AM
namespace AM
open PySem PySem.Spec PyProof.Rows L2
section
variable {α β γ δ ζ τ : Type}
def toRes (cl : Xn → Addr) (e : τ → PyData) : Ex τ → Res
  | .ok t => .ok (e t)
  | .ex c => .ex (cl c)
def RY1 (e1 : α → PyData) (e : τ → PyData) (y : α → Option τ) : List PyData → Res → Prop := fun ds r => ∃ a v, ds = [e1 a] ∧ y a = some v ∧ r = .ok (e v)
def RY2 (e1 : α → PyData) (e2 : β → PyData) (e : τ → PyData) (y : α → β → Option τ) : List PyData → Res → Prop := fun ds r => ∃ a b v, ds = [e1 a, e2 b] ∧ y a b = some v ∧ r = .ok (e v)
def RY3 (e1 : α → PyData) (e2 : β → PyData) (e3 : γ → PyData) (e : τ → PyData) (y : α → β → γ → Option τ) : List PyData → Res → Prop := fun ds r => ∃ a b c v, ds = [e1 a, e2 b, e3 c] ∧ y a b c = some v ∧ r = .ok (e v)
def RX2 (cl : Xn → Addr) (e1 : α → PyData) (e2 : β → PyData) (e : τ → PyData) (y : α → β → Option (Ex τ)) : List PyData → Res → Prop := fun ds r => ∃ a b v, ds = [e1 a, e2 b] ∧ y a b = some v ∧ r = toRes cl e v
def RYB0 (e : τ → PyData) (y : Bag → Option (τ × Bag)) : List PyData → List PyData → PyData → List PyData → Prop := fun xs ds d xs' => ∃ b v, xs = bagD b ∧ ds = [] ∧ y b = some v ∧ d = e v.1 ∧ xs' = bagD v.2
theorem okC_some {m : Option (Ex τ)} {t : τ} (h : okC m = some t) : m = some (.ok t) := by
  unfold okC at h
  split at h
  · cases h; rfl
  · cases h
end
theorem takeC_R {b : Bag} {m : Int} {v : Int × Bag} (h : takeC b m = some v) : R_take (bagD b) [.int m] (.int v.1) (bagD v.2) := by
  unfold takeC at h
  split at h
  · rename_i hc
    cases h
    exact ⟨b, m, 1000000000, ⟨hc.1, hc.2.1, hc.2.2.1, hc.2.2.2.1⟩, by decide, hc.2.2.2.2.1, hc.2.2.2.2.2, rfl, rfl, rfl, rfl⟩
  · cases h
end AM
set_option Elab.async false
set_option linter.all false
set_option maxRecDepth 100000
set_option maxHeartbeats 2000000
namespace AM
open PySem PySem.Spec PyProof.Rows L2
def y_is_whole (d : PyData) : Option Bool := some (isWhole d)
open Classical in
noncomputable def sameC (a b : PyData) : Option Bool := if okS 12 a ∧ okS 12 b then some (sameD a b) else none
theorem sameC_R {a b : PyData} {k : Bool} (h : sameC a b = some k) : R_same 12 [a, b] (.ok (.bool k)) := by
  unfold sameC at h
  split at h
  · rename_i hc
    cases h
    exact ⟨a, b, rfl, hc.1, hc.2, rfl⟩
  · cases h
theorem sameC_refl {d : PyData} (h : pl 12 d) : sameC d d = some true := by
  unfold sameC
  rw [if_pos ⟨pl_okS h, pl_okS h⟩, sameD_refl d (pl_noDict h)]
end AM
set_option Elab.async false
set_option linter.all false
set_option maxRecDepth 100000
set_option maxHeartbeats 2000000
namespace AM
open PySem PySem.Spec PyProof.Rows L2
def askV {τ : Type} (askN : Xn → Option (Str × Str)) (e : τ → PyData) : Ex τ → Option PyData
  | .ok t => some (.tuple [.str "told", e t])
  | .ex c => (askN c).map fun p => .tuple [.str p.1, .str p.2]
section
variable {X : Cx} {F : Fx} {Γ Γ1 : List Sl} {body : Expr} {scope : Scope} {params : Arguments} {lpos pos p : Pos} {l : List (Value × List V)} {k : Nat} {d : PyData} {C : Addr} {τ : Type} {e : τ → PyData} {cl : Xn → Addr} {askN : Xn → Option (Str × Str)} {z : Ex τ}
theorem y_ask (A : AskC X F.T l) (n0 : NT F.H0) (hr : Room (k + 2) X.A) (L : LamX.LamS X.env.scope scope) (M : ∀ c p, askN c = some p → manyD X.K [.str p.1, .str p.2] l (.ref (cl c))) (hz : askV askN e z = some d)
    (hok : ∀ t, z = .ok t → ∀ (A : Around) (outer : List PySem.Env) (s : Shared) (H : Hp) (E : XK) (f c' : Addr), Room k (A.deeper (LamX.lamEnv X scope s.heap.objs.size f c')) → PE (LamX.lamCx X A outer s H E scope f c') body (tD X.K F Γ (.dat (e t)) Γ1))
    (hex : ∀ c, z = .ex c → ∀ (A : Around) (outer : List PySem.Env) (s : Shared) (H : Hp) (E : XK) (f c' : Addr), Room k (A.deeper (LamX.lamEnv X scope s.heap.objs.size f c')) → PE (LamX.lamCx X A outer s H E scope f c') body (tX X.K F (fun cls d _ H => E cls d H) Γ (cl c) Γ1))
    (hg : Gl X "_law_ask" := by rfl) (hdef : defaultsOf params X.env = ([], []) := by rfl) (hbind : ∀ (q : Str) (cl : List (Str × Addr)) (pm cv ctv : Value), bindArgs (PySem.W.kla_fn "<lambda>" q params body scope cl pm cv ctv) ⟨[], []⟩ = pure [] := by intro _ _ _ _ _; rfl) :
    PE X (.Call (.Name "_law_ask" p) [.Lambda params body scope lpos] [] pos) (tD X.K F Γ (.dat d) Γ1) := by
  cases z with
  | ok t =>
    cases hz
    exact de_ask A n0 hr L (hok t rfl) hg hdef hbind
  | ex c =>
    obtain ⟨q, hq, e⟩ := Option.map_eq_some_iff.mp hz
    subst e
    exact de_askX A n0 hr L (M c q hq) (hex c rfl) hg hdef hbind
end
def asI : PyData → Option Int
  | .int i => some i
  | _ => none
theorem asI_eq {d : PyData} {i : Int} (h : asI d = some i) : d = .int i := by
  unfold asI at h
  split at h
  · cases h; rfl
  · cases h
theorem cast_as {X : Cx} {F : Fx} {Γ Γ1 : List Sl} {e : Expr} {d d' : PyData} (h : PE X e (tD X.K F Γ (.dat d) Γ1)) (q : d = d') : PE X e (tD X.K F Γ (.dat d') Γ1) := q ▸ h
end AM
namespace AM
open PySem PySem.Spec PyProof.Rows L2
end AM
set_option Elab.async false
set_option linter.all false
set_option maxRecDepth 100000
set_option maxHeartbeats 2000000
namespace AM
open PySem PySem.Spec PyProof.Rows L2
structure Big (P : Program) (base : Heap) : Prop where
  seer : base.NoSeer
  tree : P.given.tree = none
def fdivQ (a b : Int) : Option Int := if b ≠ 0 then some (a.fdiv b) else none
section
variable {X : Cx} {F : Fx} {Γ Γ1 Γ2 : List Sl} {a b : Expr} {pos : Pos} {k : Nat} {i j m : Int}
theorem op_fdivP (Bg : Big X.prog X.base) (hr : Room (k + 33) X.A) (hst : ∃ e l, X.stack = e :: l ∧ e.scope.isGenerator = false ∧ e.scope.isCoroutine = false ∧ e.builtins = builtinsNs ∧ e.globals = mainGlobals) : OpR X (binaryOp .FloorDiv) (rI (fun _ j => j ≠ 0) fun i j => .int (i.fdiv j)) := by
  intro pins s σ H x y v u Q I rx ry ⟨i, j, ex, ey, hc, q⟩
  subst ex ey
  obtain ⟨t, rfl⟩ := rx
  obtain ⟨t', rfl⟩ := ry
  obtain ⟨e, l, hs, h1, h2, h3, h4⟩ := hst
  have hd := hr.dp
  refine floordiv_int hc ⟨.int (i.fdiv j), H, I.tok _, ⟨_, rfl⟩, q⟩ (.inr (PylongRoom.of I.nolimit (show _ + 100 < _ by omega) ?_))
  exact SeerAt.of (env := e) (l := l) (Bg.seer.keeps I.bk) Bg.tree (by rw [I.ok.frames, hs]) h1 h2 h3 h4
theorem y_fdivQ (ha : PE X a (tD X.K F Γ (.dat (.int i)) Γ1)) (hb : PE X b (tD X.K F Γ1 (.dat (.int j)) Γ2)) (h : fdivQ i j = some m) (Bg : Big X.prog X.base) (hr : Room (k + 33) X.A) (hst : ∃ e l, X.stack = e :: l ∧ e.scope.isGenerator = false ∧ e.scope.isCoroutine = false ∧ e.builtins = builtinsNs ∧ e.globals = mainGlobals := by exact ⟨_, _, rfl, rfl, rfl, rfl, rfl⟩) :
    PE X (.BinOp a .FloorDiv b pos) (tD X.K F Γ (.dat (.int m)) Γ2) := by
  unfold fdivQ at h
  split at h
  · rename_i hc
    cases h
    exact de_op (op_fdivP Bg hr hst) (rd_I (C := fun _ j => j ≠ 0) (g := fun i j => i.fdiv j) hc) ha hb
  · cases h
end
end AM
set_option Elab.async false
set_option linter.all false
set_option maxRecDepth 100000
set_option maxHeartbeats 2000000
namespace AM
open PySem PySem.Spec PyProof.Rows L2
def isHd : PyData × PyData → Bool
  | (.tuple [.int _], .none) => true
  | _ => false
mutual
def lfD : PyData → Bool
  | .list _ => false
  | .dict kvs => lfH kvs
  | .tuple ds => lfA ds
  | _ => true
def lfA : List PyData → Bool
  | [] => true
  | d :: r => lfD d && lfA r
def lfH : List (PyData × PyData) → Bool
  | [] => false
  | p :: r => isHd p && lfKs r
def lfKs : List (PyData × PyData) → Bool
  | [] => true
  | p :: r => lfP p && lfKs r
def lfP : PyData × PyData → Bool
  | (_, d) => lfD d
end
structure LfE {α : Type} (e : α → PyData) : Prop where
  lf : ∀ x, lfD (e x) = true
theorem lfA_of {ds : List PyData} (h : ∀ d ∈ ds, lfD d = true) : lfA ds = true := by
  induction ds with
  | nil => rfl
  | cons d r ih => unfold lfA; rw [h d List.mem_cons_self, ih fun d m => h d (List.mem_cons_of_mem _ m)]; rfl
theorem LfE.T {α : Type} {e : α → PyData} (h : LfE e) : LfE (eT e) := ⟨fun l => by
  show lfD (.tuple (l.map e)) = true
  unfold lfD
  exact lfA_of fun d hd => by obtain ⟨x, _, rfl⟩ := List.mem_map.mp hd; exact h.lf x⟩
theorem LfE.P {α β : Type} {e : α → PyData} {f : β → PyData} (h : LfE e) (h2 : LfE f) : LfE (eP e f) := ⟨fun p => by
  show lfD (.tuple [e p.1, f p.2]) = true
  unfold lfD
  exact lfA_of fun d hd => by
    simp only [List.mem_cons, List.not_mem_nil, or_false] at hd
    rcases hd with rfl | rfl
    · exact h.lf _
    · exact h2.lf _⟩
theorem LfE.all {α : Type} {e : α → PyData} (h : LfE e) (l : List α) : ∀ d ∈ l.map e, lfD d = true := fun d hd => by obtain ⟨x, _, rfl⟩ := List.mem_map.mp hd; exact h.lf x
end AM
namespace AM
open PySem PySem.Spec PyProof.Rows L2
end AM
namespace AM
open PySem PySem.Spec PyProof.Rows L2
end AM
namespace AM
open PySem PySem.Spec PyProof.Rows L2
end AM
set_option Elab.async false
set_option linter.all false
set_option maxRecDepth 100000
set_option maxHeartbeats 2000000
namespace AM
open PySem PySem.Spec PyProof.Rows L2
structure LkE {α : Type} (e : α → PyData) : Prop where
  al : ∀ x y, PySem.W.alike (e x) (e y) = true
  nn : ∀ x, e x ≠ .none
theorem alikeAll_E {α : Type} {e : α → PyData} (h : LkE e) : ∀ as bs : List α, PySem.W.alikeAll (as.map e) (bs.map e) = true
  | [], _ => by simp [PySem.W.alikeAll]
  | _ :: _, [] => by simp [PySem.W.alikeAll]
  | a :: as, b :: bs => by simp only [List.map_cons, PySem.W.alikeAll, h.al, alikeAll_E h as bs, Bool.and_true]
theorem LkE.T {α : Type} {e : α → PyData} (h : LkE e) : LkE (eT e) := ⟨fun x y => by simp only [eT, PySem.W.alike]; exact alikeAll_E h x y, fun _ h => by cases h⟩
theorem LkE.P {α β : Type} {e : α → PyData} {f : β → PyData} (h : LkE e) (h2 : LkE f) : LkE (eP e f) := ⟨fun x y => by simp only [eP, PySem.W.alike, PySem.W.alikeAll, h.al, h2.al, Bool.and_true], fun _ h => by cases h⟩
end AM
set_option Elab.async false
set_option linter.all false
set_option maxRecDepth 100000
set_option maxHeartbeats 2000000
namespace AM
open PySem PySem.Spec PyProof.Rows L2
end AM
set_option Elab.async false
set_option linter.all false
set_option maxRecDepth 100000
set_option maxHeartbeats 2000000
namespace AM
open PySem PySem.Spec PyProof.Rows L2
structure KwB (K : PySem.W.Frag) (fd : FuncData) (ps : List Str) (n : Nat) (ks : List Str) (gV : List V → List V → List V) : Prop where
  ex : ∃ g, KBn K fd ps n ks g gV
structure CalK (P : Program) (w : World) (K : PySem.W.Frag) (mg : Str → Option Value) (base : Heap) (k : Nat) (x : Str) (ps : List Str) (sp : Sp) (k1 k2 : Str) : Prop where
  ex : ∃ f fd ds, FnOk P w K mg base (L2.CX P w) k f fd ps sp ∧ mg x = some (.ref f) ∧ PySem.W.keepIn K (.ref f) = true ∧ Vals [.non, .non] ds ∧ Binds K fd ps ds ∧ KwB K fd ps 1 [k1, k2] (fun vs zs => vs ++ zs) ∧ KwB K fd ps 1 [k1] (fun vs zs => vs ++ zs ++ [.non]) ∧ KwB K fd ps 1 [k2] (fun vs zs => vs ++ .non :: zs) ∧ KwB K fd ps 1 [k2, k1] (fun vs zs => vs ++ zs.reverse)
section
variable {P : Program} {w : World} {K : PySem.W.Frag} {mg : Str → Option Value} {base : Heap} {j k n : Nat} {x k1 k2 : Str} {N ps ks : List Str} {sp : Sp} {st : Stmt}
theorem CalK.mono (C : CalK P w K mg base j x ps sp k1 k2) (h : j ≤ k) : CalK P w K mg base k x ps sp k1 k2 := by
  obtain ⟨f, fd, ds, h1, r⟩ := C.ex
  exact ⟨f, fd, ds, h1.mono h, r⟩
theorem CalK.dflt (C : CalK P w K mg base k x ps sp k1 k2) : CalD P w K mg base k x ps sp [.non, .non] := by
  obtain ⟨f, fd, ds, h1, h2, h3, h4, h5, _⟩ := C.ex
  exact ⟨f, fd, ds, h1, h2, h3, h5, h4⟩
end
end AM
set_option Elab.async false
set_option linter.all false
set_option maxRecDepth 100000
set_option maxHeartbeats 2000000
namespace AM
open PySem PySem.Spec PyProof.Rows L2
def catS (x y : Str) : Option Str := if x.length + y.length ≤ 100000 then some (x ++ y) else none
def strC (i : Int) : Option Str := if i.natAbs.log2 < 1920 then some (Str.ofString (toString i)) else none
def fitS (x : Str) : Option Str := if x.length ≤ 100000 then some x else none
section
variable {X : Cx} {F : Fx} {W : WX} {P : Out → Prop} {Γ Γ1 Γ2 Γ3 : List Sl} {a b c e e2 ix o : Expr} {es : List Expr} {pos pos' p p2 p3 : Pos} {k : Nat} {rest : List Stmt} {ra rb : Rv} {i j m : Int} {x y z : Str}
theorem y_addS (ha : PE X a (tD X.K F Γ (.dat (.str x)) Γ1)) (hb : PE X b (tD X.K F Γ1 (.dat (.str y)) Γ2)) (h : catS x y = some z) : PE X (.BinOp a .Add b pos) (tD X.K F Γ (.dat (.str z)) Γ2) := by
  unfold catS at h
  split at h
  · rename_i hc
    cases h
    refine de_op (ra := .dat (.str x)) (rb := .dat (.str y)) op_add_str (fun G H σ v w Q E vx vy k => ?_) ha hb
    exact ⟨x, y, dp_str vx, dp_str vy, Nat.le_trans hc (by decide), k _ H G Step.refl E (.str _)⟩
  · cases h
theorem y_strI (ha : PE X a (tD X.K F Γ (.dat (.int i)) Γ1)) (h : strC i = some z) (hm : X.mg "str" = none) (hg : Gl X "str" := by rfl) (he : starEach [a] X.env = (false, eval a X.env) :: starEach [] X.env := by rfl) : PE X (.Call (.Name "str" p) [a] [] pos) (tD X.K F Γ (.dat (.str z)) Γ1) := by
  unfold strC at h
  split at h
  · rename_i hc
    cases h
    refine de_callTy call_str_int (fun G H σ vs Q E hv k => ?_) (da_cons ha da_nil he) hm (by decide +kernel) hg (he := he)
    cases hv with
    | cons h1 h2 =>
      cases h2
      exact ⟨i, by rw [dp_int h1], hc, k _ H G Step.refl E (.str _)⟩
  · cases h
theorem y_fmtS (h : PE X e (tD X.K F Γ (.dat (.str x)) Γ1)) (hz : fitS x = some z) : PE X (.FormattedValue e (-1) none pos) (tD X.K F Γ (.dat (.str z)) Γ1) := by
  unfold fitS at hz
  split at hz
  · rename_i hc
    cases hz
    exact pe_imp (pe_fmt h) fun σ H Q ⟨G, E, q⟩ => ⟨G, E, fun v H1 G1 s1 E1 v1 => .inl ⟨x, dp_str v1, Nat.le_trans hc (by decide), q _ H1 G1 s1 E1 (.str _)⟩⟩
  · cases hz
theorem y_fmtI (h : PE X e (tD X.K F Γ (.dat (.int i)) Γ1)) (hz : strC i = some z) : PE X (.FormattedValue e (-1) none pos) (tD X.K F Γ (.dat (.str z)) Γ1) := by
  unfold strC at hz
  split at hz
  · rename_i hc
    cases hz
    exact pe_imp (pe_fmt h) fun σ H Q ⟨G, E, q⟩ => ⟨G, E, fun v H1 G1 s1 E1 v1 => .inr ⟨i, dp_int v1, hc, q _ H1 G1 s1 E1 (.str _)⟩⟩
  · cases hz
theorem y_f1 (h : PE X e (tD X.K F Γ (.dat (.str x)) Γ1)) : PE X (.JoinedStr [e] pos) (tD X.K F Γ (.dat (.str x)) Γ1) := pe_joined1 h
inductive DJ (X : Cx) (F : Fx) (Γ : List Sl) : List Expr → List Str → Prop where
  | nil : DJ X F Γ [] []
  | cons {e : Expr} {x : Str} {es : List Expr} {xs : List Str} (h : PE X e (tD X.K F Γ (.dat (.str x)) Γ)) (r : DJ X F Γ es xs) : DJ X F Γ (e :: es) (x :: xs)
def joinC : Str → List Str → Option Str
  | acc, [] => some acc
  | acc, x :: r => (catS acc x).bind fun s => joinC s r
theorem dj_pj (h : DJ X F Γ es xs) : PJ X es (xs.map fun x => tD X.K F Γ (.dat (.str x)) Γ) := by
  induction h with
  | nil => exact .nil
  | cons h _ ih => exact .cons h ih
theorem dj_run {K : PySem.W.Frag} {σ : L2.St} {Q : VK} : ∀ (xs : List Str) (acc z : Str) (G H : Hp), joinC acc xs = some z → En K F G σ H Γ → (∀ H' G', Step σ Γ Γ G H G' H' → En K F G' σ H' Γ → Q (.str z) H') → tJs (xs.map fun x => tD K F Γ (.dat (.str x)) Γ) acc σ H fun out H1 => Q (.str out) H1
  | [], acc, z, G, H, h, E, q => by
    cases h
    exact q H G Step.refl E
  | x :: r, acc, z, G, H, h, E, q => by
    obtain ⟨s, h1, h2⟩ := bs h
    unfold catS at h1
    split at h1
    · rename_i hc
      cases h1
      refine ⟨G, E, fun v H1 G1 s1 E1 v1 => ⟨x, dp_str v1, ?_, dj_run r _ z G1 H1 h2 E1 fun H2 G2 s2 E2 => q H2 G2 (s1.trans s2) E2⟩⟩
      have : (acc ++ x).length = acc.length + x.length := by rw [TL.len_tl, TL.tl_append, List.length_append, ← TL.len_tl, ← TL.len_tl]
      rw [this]
      exact Nat.le_trans hc (by decide)
    · cases h1
theorem y_joined {v1 v2 : Expr} {xs : List Str} (h : DJ X F Γ (v1 :: v2 :: es) xs) (hz : joinC Str.empty xs = some z) : PE X (.JoinedStr (v1 :: v2 :: es) pos) (tD X.K F Γ (.dat (.str z)) Γ) :=
  pe_imp (pe_joined (dj_pj h)) fun σ H Q ⟨G, E, q⟩ => dj_run xs _ z G H hz E fun H' G' s' E' => q _ H' G' s' E' (.str _)
end
end AM
set_option Elab.async false
set_option linter.all false
set_option maxRecDepth 100000
set_option maxHeartbeats 2000000
namespace AM
open PySem PySem.Spec PyProof.Rows L2
end AM
set_option Elab.async false
set_option linter.all false
set_option maxRecDepth 100000
set_option maxHeartbeats 2000000
namespace AM
open PySem PySem.Spec PyProof.Rows L2
end AM
set_option Elab.async false
set_option linter.all false
set_option maxRecDepth 100000
set_option maxHeartbeats 2000000
namespace AM
open PySem PySem.Spec PyProof.Rows L2
end AM
set_option Elab.async false
set_option linter.all false
set_option maxRecDepth 100000
set_option maxHeartbeats 2000000
namespace AM
open PySem PySem.Spec PyProof.Rows L2
end AM
set_option Elab.async false
set_option linter.all false
set_option maxRecDepth 100000
set_option maxHeartbeats 2000000
namespace AM
open PySem PySem.Spec PyProof.Rows L2
section
variable {prog : Program} {w : World} {A : Around} {E : Value → Shared → Prop} {s : Shared} {mg : Str → Option Value} {q n : Str} {scope : Scope} {L f c' : Addr} {v : Value}
structure KeyH (mg : Str → Option Value) (h : Heap) : Prop where
  gl : h.Ns mainGlobals mg
  bl : ∃ mb, h.Ns builtinsNs mb ∧ ∀ x : Str, x ≠ "__name__" → mb x = bootBuiltins x
  lim : h.NoLimit
theorem KeyH.keeps {h h' : Heap} (k : KeyH mg h) (e : ∀ b o, h.get? b = some o → h'.get? b = some o) : KeyH mg h' := by
  obtain ⟨mb, h1, h2⟩ := k.bl
  exact ⟨k.gl.keeps e, ⟨mb, h1.keeps e, h2⟩, k.lim.keeps e⟩
end
end AM
set_option Elab.async false
set_option linter.all false
set_option maxRecDepth 100000
set_option maxHeartbeats 2000000
namespace AM
open PySem PySem.Spec PyProof.Rows L2
end AM
set_option Elab.async false
set_option linter.all false
set_option maxRecDepth 100000
set_option maxHeartbeats 2000000
namespace AM
open PySem PySem.Spec PyProof.Rows L2
structure GrownT (T : List (Addr × Str)) (G H G' H' : Hp) : Prop where
  h : LamX.ExtN H H'
  t : LamX.Tabs T H'
  g : Same G G'
  le : Same G' H'
  f : ∀ a o, G' a = some o → (∃ o', G a = some o') ∨ cln H a = none
  nt : NT G'
theorem cln_some {H : Hp} {a : Addr} {o : HO} (h : H a = some o) (n : NoTb o) : cln H a = some o := by
  unfold cln
  rw [h]
  cases o <;> first | rfl | exact absurd rfl (n _)
section
variable {X : Cx} {F : Fx} {W : WX} {Γ Γ1 Γ2 : List Sl} {a e : Expr} {es : List Expr} {pos p : Pos} {k : Nat} {f : Addr} {fd : FuncData} {ps : List Str} {x : Str} {R : List PyData → Res → Prop} {rs : List Rv} {ds : List PyData} {d : PyData} {C : Addr}
theorem GrownT.step {G H G' H' : Hp} {σ : L2.St} {T : List (Addr × Str)} (g : GrownT T G H G' H') : Step σ Γ Γ G H G' H' where
  g := g.g
  f := fun a o h => by
    rcases g.f a o h with z | z
    · exact .inl z
    · refine .inr fun u l hu => ?_
      rw [cln_some hu (ld_noTb l)] at z
      cases z
  k := fun a o h _ n => g.h a o h n
  o := fun _ h => h
  s := fun a o l h => ⟨o, l, g.h a _ h (ld_noTb l)⟩
end
end AM
set_option Elab.async false
set_option linter.all false
set_option maxRecDepth 100000
set_option maxHeartbeats 2000000
namespace AM
open PySem PySem.Spec PyProof.Rows L2
end AM
set_option Elab.async false
set_option linter.all false
set_option maxRecDepth 100000
set_option maxHeartbeats 2000000
namespace AM
open PySem PySem.Spec PyProof.Rows L2
end AM
set_option Elab.async false
set_option linter.all false
set_option maxHeartbeats 1000000
namespace AM
open PySem PySem.Spec PyProof.Rows L2
end AM
set_option Elab.async false
set_option linter.all false
set_option maxHeartbeats 1000000
namespace AM
open PySem PySem.Spec PyProof.Rows L2
end AM
set_option Elab.async false
set_option linter.all false
set_option maxRecDepth 100000
set_option maxHeartbeats 1000000
namespace AM
open PySem PySem.Spec PyProof.Rows L2
end AM
set_option Elab.async false
set_option linter.all false
set_option maxRecDepth 100000
set_option maxHeartbeats 2000000
namespace AM
open PySem PySem.Spec PyProof.Rows L2
structure T2 (K : PySem.W.Frag) (F : Fx) (G : Hp) (σ : L2.St) (H : Hp) (Γ : List Sl) (i : Nat) (d0 : PyData) (xs : List PyData) (a : Addr) (v0 : V) (r : Addr) (us : List V) : Prop where
  s : σ[i]? = some (some (.ref a))
  t : SqT K G a [v0, .ref r]
  d : Dq K G v0 d0
  g : G r = none
  h : H r = some (.lst us)
  al : DqAll K G us xs
  n : ¬ Own σ Γ r
  z : F.H0 r = none
end AM
set_option Elab.async false
set_option linter.all false
set_option maxRecDepth 100000
set_option maxHeartbeats 2000000
namespace AM
open PySem PySem.Spec PyProof.Rows L2
def fldD : List (PyData × PyData) → Str → Option PyData
  | [], _ => none
  | (.str n, d) :: r, f => if f = n then some d else fldD r f
  | _ :: _, _ => none
abbrev insD (C : Addr) (kvs : List (PyData × PyData)) : PyData := .dict ((.tuple [.int (Int.ofNat C)], .none) :: kvs)
theorem dqf_get {K : PySem.W.Frag} {H : Hp} {f : Str} {d : PyData} : ∀ {fs : List (Str × V)} {kvs : List (PyData × PyData)}, DqF K H fs kvs → fldD kvs f = some d → ∃ v, fs.lookup f = some v ∧ Dq K H v d
  | _, _, .nil, e => by cases e
  | _, _, .cons (n := n) (v := v) q a, e => by
    rw [fldD] at e
    by_cases h : f = n
    · rw [if_pos h] at e
      cases e
      exact ⟨v, by rw [h, List.lookup_cons_self], q⟩
    · rw [if_neg h] at e
      obtain ⟨u, e1, e2⟩ := dqf_get a e
      refine ⟨u, ?_, e2⟩
      rw [List.lookup_cons, show (f == n) = false from beq_eq_false_iff_ne.mpr h]
      exact e1
theorem dq_ins {K : PySem.W.Frag} {H : Hp} {v : V} {C : Addr} {kvs : List (PyData × PyData)} (h : Dq K H v (insD C kvs)) : ∃ a dx fs, v = .ref a ∧ OCls K C ∧ H a = some (.ins C dx fs) ∧ DqF K H fs kvs := by
  generalize e : insD C kvs = d at h
  cases h with
  | ins oc q a =>
    rw [insD] at e
    injection e with e1
    injection e1 with e2 e3
    injection e2 with e4 _
    injection e4 with e5
    injection e5 with e6 _
    injection e6 with e7
    have : C = _ := Int.ofNat.inj e7
    subst this; subst e3
    exact ⟨_, _, _, rfl, oc, q, a⟩
  | dk q a =>
    rw [insD] at e
    injection e with e1
    cases a with
    | nil => cases e1
    | consI _ _ => injection e1 with e2 _; injection e2 with e3 _; cases e3
    | consS _ _ => injection e1 with e2 _; injection e2 with e3 _; cases e3
  | _ => cases e
section
variable {X : Cx} {F : Fx} {W : WX} {Γ Γ1 Γ2 : List Sl} {a e o : Expr} {es : List Expr} {pos p apos : Pos} {k : Nat} {ps : List Str} {x m f : Str} {R : List PyData → Res → Prop} {rs : List Rv} {ds : List PyData} {d : PyData} {C : Addr} {kvs : List (PyData × PyData)}
theorem de_fld (he : PE X e (tD X.K F Γ (.dat (insD C kvs)) Γ1)) (n : NoAttr X.K C f) (l : fldD kvs f = some d) (hb : attributeBase e f X.env (eval e X.env) = eval e X.env := by rfl) : PE X (.Attribute e f pos) (tD X.K F Γ (.dat d) Γ1) :=
  pe_imp (pe_fld he hb) fun σ H Q ⟨G, E, q⟩ => ⟨G, E, fun v H1 G1 s1 E1 v1 => by
    obtain ⟨a, dx, fs, rfl, oc, hp, hf⟩ := dq_ins v1
    obtain ⟨u, lu, du⟩ := dqf_get hf l
    exact ⟨a, C, dx, fs, u, rfl, E1.le _ _ hp, oc.cl, n, lu, q _ _ _ s1 E1 du⟩⟩
def spInit (C : Addr) (ns : List Str) : Sp := fun vs H Q E => ∃ x dx us, vs = .ref x :: us ∧ us.length = ns.length ∧ H x = some (.ins C dx []) ∧ Q .non (upd H x (.ins C dx (ns.zip us)))
structure Ocl (P : Program) (w : World) (K : PySem.W.Frag) (mg : Str → Option Value) (base : Heap) (k : Nat) (x : Str) (C : Addr) (ns : List Str) : Prop where
  oc : OCls K C
  g : mg x = some (.ref C)
  ex : ∃ f fd, Mk K C f ∧ FnOk P w K mg base (L2.CX P w) k f fd ("self" :: ns) (spInit C ns) ∧ Binds K fd ("self" :: ns) []
theorem Ocl.mono {P : Program} {w : World} {K : PySem.W.Frag} {mg : Str → Option Value} {base : Heap} {j k : Nat} {ns : List Str} (O : Ocl P w K mg base j x C ns) (h : j ≤ k) : Ocl P w K mg base k x C ns := by
  obtain ⟨f, fd, h1, h2, h3⟩ := O.ex
  exact ⟨O.oc, O.g, f, fd, h1, h2.mono h, h3⟩
theorem dqf_zip {K : PySem.W.Frag} {G : Hp} : ∀ {ns : List Str} {us : List V} {ds : List PyData}, DqAll K G us ds → DqF K G (ns.zip us) ((ns.map PyData.str).zip ds)
  | [], _, _, _ => by simpa using DqF.nil
  | _ :: _, _, _, .nil => by simpa using DqF.nil
  | n :: ns, _, _, .cons q a => by
    simp only [List.zip_cons_cons, List.map_cons]
    exact .cons q (dqf_zip a)
theorem upd2 {H : Hp} {p : Addr} {o o' : HO} : upd (upd H p o) p o' = upd H p o' := by
  funext a
  by_cases h : a = p
  · subst h; rw [upd_same, upd_same]
  · rw [upd_ne h, upd_ne h, upd_ne h]
theorem de_make {ns : List Str} (O : Ocl X.prog X.w X.K X.mg X.base k x C ns) (hr : Room (k + 1) X.A) (ha : PA X (e :: es) (tDA X.K F Γ rs Γ1)) (hd : datS rs = some ds := by rfl) (hl : ds.length = ns.length := by rfl)
    (hg : Gl X x := by rfl) (hdb : (x == ("__debug__" : Str)) = false := by decide) (he : starEach (e :: es) X.env = (false, eval e X.env) :: starEach es X.env := by rfl) (hpl : (backTo pos (starEach es X.env)).any (·.1) = false := by rfl) :
    PE X (.Call (.Name x p) (e :: es) [] pos) (tD X.K F Γ (.dat (insD C ((ns.map PyData.str).zip ds))) Γ1) := by
  obtain ⟨f, fd, M, Fn, hb⟩ := O.ex
  refine pe_imp (pe_make (E := fun _ _ _ => False) (ds := []) (dvs := []) M Fn hr hg O.g hb .nil (fun _ _ _ _ _ _ _ h => (cx_no h).elim) ha hdb he hpl) fun σ H Q ⟨G, E, q⟩ => ⟨G, E, fun vs H1 G1 s1 E1 v1 y dx hy hdx ne => ?_⟩
  have al := datS_dp v1 hd
  have E2 := E1.newRaw (o := .own y) hdx
  have hy2 : upd H1 dx (.own y) y = none := by rw [upd_ne (fun z => ne z.symm)]; exact hy
  have gy := (E2.no hy2).2.2
  refine ⟨y, dx, vs, by rw [List.append_nil], by rw [dpa_len al, hl], upd_same, rfl, ?_⟩
  rw [upd2]
  exact q _ _ _ ((s1.trans (Step.newRaw hdx)).trans (Step.newDat hy2 gy)) (E2.newDat hy2) (.ins O.oc upd_same (dqf_zip (dpa_mono (same_upd gy) _ _ al)))
structure DefM (K : PySem.W.Frag) (C : Addr) (m qual : Str) (st : Stmt) (ps : List Str) : Prop where
  ex : ∃ f fd, FunG K m qual st f fd ∧ Meth K C m f ∧ Binds K fd ps []
structure CalM (P : Program) (w : World) (K : PySem.W.Frag) (mg : Str → Option Value) (base : Heap) (k : Nat) (C : Addr) (m : Str) (ps : List Str) (sp : Sp) : Prop where
  ex : ∃ f fd, FnOk P w K mg base (L2.CX P w) k f fd ps sp ∧ Meth K C m f ∧ Binds K fd ps []
theorem CalM.mono {P : Program} {w : World} {K : PySem.W.Frag} {mg : Str → Option Value} {base : Heap} {j k : Nat} {sp : Sp} (O : CalM P w K mg base j C m ps sp) (h : j ≤ k) : CalM P w K mg base k C m ps sp := by
  obtain ⟨f, fd, h1, h2, h3⟩ := O.ex
  exact ⟨f, fd, h1.mono h, h2, h3⟩
end
section
variable {P : Program} {w : World} {K : PySem.W.Frag} {mg : Str → Option Value} {base : Heap} {k : Nat} {m qual : Str} {st : Stmt} {N ps : List Str} {C : Addr}
theorem calM_pure {R : List PyData → Res → Prop} (D : DefM K C m qual st ps) (S : FnScope N ps (defScope st)) (len : ∀ ds r, R ds r → ds.length = ps.length) (hle : ps.length ≤ N.length)
    (body : ∀ (f : Addr) (cdv : Value) (A : Around) (outer : List PySem.Env) (s : Shared) (H G : Hp) (E : XK) (ds : List PyData) (r : Res), Room k (A.deeper (envOfC qual (defScope st) s.heap.objs.size f cdv)) → R ds r →
      PSs (cxOf (L2.CX P w) P w K mg base N qual (defScope st) f cdv A outer s H E) (defBody st) (tS K (fx0 H G) (fun c d _ H => E c d H) (startG N.length ds) (wantP r))) : CalM P w K mg base (k + 1) C m ps (spP K R) := by
  obtain ⟨f, fd, F, h1, h2⟩ := D.ex
  exact ⟨f, fd, fn_pure F S len hle (body f), h1, h2⟩
theorem ocl3 {x n1 n2 n3 : Str} {f : Addr} {fd : FuncData} (oc : OCls K C) (g : mg x = some (.ref C)) (M : Mk K C f) (Fn : FunG K "__init__" qual st f fd) (hb : Binds K fd ["self", n1, n2, n3] []) (S : FnScope ["self", n1, n2, n3] ["self", n1, n2, n3] (defScope st)) (nd : n1 ≠ n2 ∧ n1 ≠ n3 ∧ n2 ≠ n3)
    (a1 : NoAttr K C n1) (a2 : NoAttr K C n2) (a3 : NoAttr K C n3)
    (body : ∀ (cdv : Value) (A : Around) (outer : List PySem.Env) (s : Shared) (H : Hp) (E : XK), PSs (cxOf (L2.CX P w) P w K mg base ["self", n1, n2, n3] qual (defScope st) f cdv A outer s H E) (defBody st) (tSeq (sFld K (tVar 0) (tVar 1) n1) (tSeq (sFld K (tVar 0) (tVar 2) n2) (sFld K (tVar 0) (tVar 3) n3)))) :
    Ocl P w K mg base (k + 1) x C [n1, n2, n3] := by
  refine ⟨oc, g, f, fd, M, Fn.okX S (fun vs H Q E h => ?_) (fun cdv A outer s H vs Q E hr h => ⟨_, body cdv A outer s H E, ?_⟩), hb⟩
  · obtain ⟨x, dx, us, rfl, hl, _⟩ := h
    simp only [List.length_cons, List.length_nil] at hl ⊢; omega
  · obtain ⟨y, dx, us, rfl, hl, hy, q⟩ := h
    match us, hl with
    | [a, b, c], _ =>
      refine ⟨a, rfl, .ref y, rfl, y, C, dx, [], rfl, hy, oc.cl, a1, by decide, b, rfl, .ref y, rfl, y, C, dx, _, rfl, upd_same, oc.cl, a2, (by show 1 < 1000; decide), c, rfl, .ref y, rfl, y, C, dx, _, rfl, upd_same, oc.cl, a3, ?_, ?_⟩
      · simp only [putF, if_neg nd.1]; show 2 < 1000; decide
      · rw [upd2, upd2]
        simp only [putF, if_neg nd.1, if_neg nd.2.1, if_neg nd.2.2]
        exact q
end
abbrev Rl : Type := List Int × Int × ((Int × Int) × (Int × Int))
abbrev eRk (r : Rl) : List (PyData × PyData) := [(.str "poly", eT PyData.int r.1), (.str "place", .int r.2.1), (.str "held", eP (eP PyData.int PyData.int) (eP PyData.int PyData.int) r.2.2)]
abbrev eR (C : Addr) (r : Rl) : PyData := insD C (eRk r)
structure RCl (P : Program) (w : World) (K : PySem.W.Frag) (mg : Str → Option Value) (base : Heap) (k : Nat) (C : Addr) : Prop where
  o : ∃ j, j + 1 ≤ k ∧ Ocl P w K mg base j "Real" C ["poly", "place", "held"]
  n1 : NoAttr K C "poly"
  n2 : NoAttr K C "place"
  n3 : NoAttr K C "held"
theorem RCl.mono {P : Program} {w : World} {K : PySem.W.Frag} {mg : Str → Option Value} {base : Heap} {j k : Nat} {C : Addr} (O : RCl P w K mg base j C) (h : j ≤ k) : RCl P w K mg base k C := by
  obtain ⟨i, hi, o⟩ := O.o
  exact ⟨⟨i, Nat.le_trans hi h, o⟩, O.n1, O.n2, O.n3⟩
theorem RCl.cl {P : Program} {w : World} {K : PySem.W.Frag} {mg : Str → Option Value} {base : Heap} {k : Nat} {C : Addr} (O : RCl P w K mg base k C) : Cls K C := by
  obtain ⟨i, hi, o⟩ := O.o
  exact o.oc.cl
section
variable {X : Cx} {F : Fx} {W : WX} {Γ Γ1 Γ2 : List Sl} {a e o : Expr} {es : List Expr} {pos p apos : Pos} {j k : Nat} {ps : List Str} {x m f : Str} {R : List PyData → Res → Prop} {rs : List Rv} {ds : List PyData} {d : PyData} {C : Addr} {r : Rl}
theorem y_fP (O : RCl X.prog X.w X.K X.mg X.base k C) (he : PE X e (tD X.K F Γ (.dat (eR C r)) Γ1)) (hb : attributeBase e "poly" X.env (eval e X.env) = eval e X.env := by rfl) : PE X (.Attribute e "poly" pos) (tD X.K F Γ (.dat (eT PyData.int r.1)) Γ1) := de_fld he O.n1 (by simp [fldD]) hb
theorem y_fL (O : RCl X.prog X.w X.K X.mg X.base k C) (he : PE X e (tD X.K F Γ (.dat (eR C r)) Γ1)) (hb : attributeBase e "place" X.env (eval e X.env) = eval e X.env := by rfl) : PE X (.Attribute e "place" pos) (tD X.K F Γ (.dat (.int r.2.1)) Γ1) := de_fld he O.n2 (by rw [fldD, if_neg (by decide), fldD, if_pos rfl]) hb
theorem y_mkR (O : RCl X.prog X.w X.K X.mg X.base k C) (hr : Room k X.A) (ha : PA X (e :: es) (tDA X.K F Γ rs Γ1)) (hd : datS rs = some [eT PyData.int r.1, .int r.2.1, eP (eP PyData.int PyData.int) (eP PyData.int PyData.int) r.2.2] := by rfl)
    (hg : Gl X "Real" := by rfl) (he : starEach (e :: es) X.env = (false, eval e X.env) :: starEach es X.env := by rfl) (hpl : (backTo pos (starEach es X.env)).any (·.1) = false := by rfl) :
    PE X (.Call (.Name "Real" p) (e :: es) [] pos) (tD X.K F Γ (.dat (eR C r)) Γ1) := by
  obtain ⟨i, hi, o⟩ := O.o
  exact de_make o (hr.mono hi) ha hd rfl hg (by decide) he hpl
end
end AM
set_option Elab.async false
set_option linter.all false
set_option maxRecDepth 100000
set_option maxHeartbeats 2000000
namespace AM
open PySem PySem.Spec PyProof.Rows L2
end AM
set_option Elab.async false
set_option linter.all false
set_option maxRecDepth 100000
set_option maxHeartbeats 2000000
namespace AM
open PySem PySem.Spec PyProof.Rows L2
end AM
set_option Elab.async false
set_option linter.all false
set_option maxRecDepth 100000
set_option maxHeartbeats 2000000
namespace AM
open PySem PySem.Spec PyProof.Rows L2
structure CalMK (P : Program) (w : World) (K : PySem.W.Frag) (mg : Str → Option Value) (base : Heap) (k : Nat) (C : Addr) (m : Str) (ps : List Str) (sp : Sp) (k1 : Str) (v : Int) : Prop where
  ex : ∃ f fd ds, FnOk P w K mg base (L2.CX P w) k f fd ps sp ∧ Meth K C m f ∧ Vals [.int v] ds ∧ Binds K fd ps ds ∧ KwB K fd ps 1 [k1] (fun vs zs => vs ++ zs)
section
variable {P : Program} {w : World} {K : PySem.W.Frag} {mg : Str → Option Value} {base : Heap} {j k : Nat} {m qual k1 : Str} {st : Stmt} {N ps : List Str} {C : Addr} {v : Int} {sp : Sp}
theorem CalMK.mono (O : CalMK P w K mg base j C m ps sp k1 v) (h : j ≤ k) : CalMK P w K mg base k C m ps sp k1 v := by
  obtain ⟨f, fd, ds, h1, r⟩ := O.ex
  exact ⟨f, fd, ds, h1.mono h, r⟩
end
end AM
set_option Elab.async false
set_option linter.all false
set_option maxRecDepth 100000
set_option maxHeartbeats 2000000
namespace AM
open PySem PySem.Spec PyProof.Rows L2
end AM
set_option Elab.async false
set_option linter.all false
set_option maxRecDepth 100000
set_option maxHeartbeats 2000000
namespace AM
open PySem PySem.Spec PyProof.Rows L2
def rOwnQ (K : PySem.W.Frag) (C : Addr) (sp : Sp) : R2 := fun x y H Q => ∃ a dx fs t, x = .ref a ∧ H a = some (.ins C dx fs) ∧ TyX K H y t ∧ PySem.W.notFirst K C t = true ∧ sp [x, y] H Q (fun _ _ _ => False)
section
variable {X : Cx} {F : Fx} {Γ Γ1 Γ2 : List Sl} {a b e : Expr} {pos p p2 : Pos} {j k : Nat} {ps : List Str} {x : Str} {R : List PyData → Res → Prop} {d d2 : PyData} {C f : Addr} {fd : FuncData} {sp : Sp} {kvs : List (PyData × PyData)} {u v : Rl} {q : Bool} {ra : Rv}
theorem op_ownQ (hs : PySem.W.findIn X.K (.ref C) "__eq__" = some (some (.ref f))) (hf : PySem.W.isFn X.K (.ref f) = true) (Fn : FnOk X.prog X.w X.K X.mg X.base (L2.CX X.prog X.w) k f fd ps sp) (hr : Room k X.A) (hb : Binds X.K fd ps []) : OpR X (compareOp .Eq) (rOwnQ X.K C sp) := by
  intro pins s σ H x y v u Q I rx ry h
  obtain ⟨a, dx, fs, t, rfl, ha, ty, hn, q⟩ := h
  cases (show v = Value.ref a from rx)
  obtain ⟨mA, J, _⟩ := ins_get I.hok ha
  obtain ⟨od, J, _⟩ := J.look
  obtain ⟨m, hF⟩ := I.fr
  obtain ⟨P, Z, p, _⟩ := kit_of I ry ty
  show wpAny (model X.prog X.w) X.A (richCompare .Eq (.ref a) u) (EP X pins σ Q) X.xe s
  refine PySem.W.cmp_K (op := .Eq) (tb := t) hr.units0 hF I.ok.mod.kin J (Z.ty _ _ I.kIn p) hn hs hf ?_
  refine wpAny_mono (run_fnS (E := fun _ _ _ _ => False) (us := [.ref a, u]) (vs := [.ref a, y]) Fn hr hb (fun _ _ _ _ _ _ h => (cx_no h).elim) I (.cons rx (.cons ry .nil)) q) (fun w s' z => ?_) fun _ _ x => x
  obtain ⟨z', H', I', rz, qz⟩ := z
  exact SlX.cmpback rz ⟨z', H', I', rz, qz⟩
theorem de_eqOwn (Cf : CalM X.prog X.w X.K X.mg X.base k C "__eq__" ps (spP X.K R)) (hr : Room k X.A) (ha : PE X a (tD X.K F Γ (.dat (insD C kvs)) Γ1)) (hb : PE X b (tD X.K F Γ1 (.dat d2) Γ2)) (hR : R [insD C kvs, d2] (.ok d))
    (ht : ∀ {H : Hp} {v : V}, Dq X.K H v d2 → ∃ t, TyX X.K H v t ∧ PySem.W.notFirst X.K C t = true) (hm : behindInMarks .Eq b = false) : PE X (.Compare a [.Eq] [b] pos) (tD X.K F Γ (.dat d) Γ2) := by
  obtain ⟨f, fd, h1, h2, h3⟩ := Cf.ex
  refine de_cmp (op_ownQ h2.at_ h2.fn h1 hr h3) (fun G H σ x y Q E vx vy q => ?_) ha hb hm
  obtain ⟨a, dx, fs, rfl, oc, hp, hf⟩ := dq_ins vx
  obtain ⟨t, ty, hn⟩ := ht (dp_mono' E.le vy)
  exact ⟨a, dx, fs, t, rfl, E.le _ _ hp, ty, hn, G, _, .ok d, E.le, E.nt, .cons vx (.cons vy .nil), hR, fun v H' G' g hv => q v H' G' g.step (E.grown g) hv⟩
theorem ty_insD {K : PySem.W.Frag} {H : Hp} {v : V} (h : Dq K H v (insD C kvs)) : TyX K H v (.ref C) := by
  obtain ⟨a, dx, fs, rfl, oc, hp, hf⟩ := dq_ins h
  exact .base (.ins hp oc.cl oc.ha oc.hn oc.htk oc.hm)
theorem y_eqRR {k' : Bool} (Cf : CalM X.prog X.w X.K X.mg X.base k C "__eq__" ps (spP X.K R)) (hr : Room k X.A) (ha : PE X a (tD X.K F Γ (.dat (eR C u)) Γ1)) (hb : PE X b (tD X.K F Γ1 (.dat (eR C v)) Γ2)) (hR : R [eR C u, eR C v] (.ok (.bool k'))) (hm : behindInMarks .Eq b = false := by rfl) :
    PE X (.Compare a [.Eq] [b] pos) (tD X.K F Γ (.dat (.bool k')) Γ2) :=
  de_eqOwn Cf hr ha hb hR (fun h => ⟨_, ty_insD h, by simp [PySem.W.notFirst]⟩) hm
theorem y_isiRR (O : RCl X.prog X.w X.K X.mg X.base j C) (hk : PySem.W.kitOne X.K (.ref C) (.ref C) = some true) (hB : X.mg "isinstance" = none) (ha : PE X a (tD X.K F Γ (.dat (eR C u)) Γ1)) (hg : Gl X "isinstance" := by rfl) (hgT : Gl X "Real" := by rfl)
    (he : starEach [a, .Name "Real" p2] X.env = (false, eval a X.env) :: starEach [.Name "Real" p2] X.env := by rfl) (he2 : starEach [.Name "Real" p2] X.env = (false, eval (.Name "Real" p2) X.env) :: starEach [] X.env := by rfl) (hpl : (backTo pos (starEach [.Name "Real" p2] X.env)).any (·.1) = false := by rfl) :
    PE X (.Call (.Name "isinstance" p) [a, .Name "Real" p2] [] pos) (tD X.K F Γ (.dat (.bool true)) Γ1) := by
  obtain ⟨i, hi, o⟩ := O.o
  have hA : PA X [a, .Name "Real" p2] _ := pa_cons ha (pa_cons (pe_glob (v := .ref C) (pos := p2) hgT o.g rfl (by decide)) pa_nil he2) he
  refine pe_imp (pe_callB call_isi hg hB (by decide +kernel) hA (he := he) (hpl := hpl)) fun σ H Q ⟨G, E, q⟩ => ⟨G, E, fun v H1 G1 s1 E1 v1 => ?_⟩
  exact ⟨v, .ref C, _, _, _, rfl, .own C, ty_insD (dp_mono' E1.le v1), hk, q _ H1 G1 s1 E1 (.bl _)⟩
end
end AM
set_option Elab.async false
set_option linter.all false
set_option maxRecDepth 100000
set_option maxHeartbeats 2000000
namespace AM
open PySem PySem.SeqAt
open AutoSeq1 (wpAny_loadPart')
open MeetsSeq MeetsSeq2 MeetsSeq3 SeqRoads2
open PySem.Spec PyProof.Rows L2
end AM
set_option Elab.async false
set_option linter.all false
set_option maxRecDepth 100000
set_option maxHeartbeats 2000000
namespace AM
open PySem PySem.Spec PyProof.Rows L2
def tyT : PyData → Option String
  | .none => some "NoneType"
  | .bool _ => some "bool"
  | .int _ => some "int"
  | .str _ => some "str"
  | .list _ => some "list"
  | .tuple _ => some "tuple"
  | .dict _ => none
def TL : List String := ["NoneType", "bool", "int", "str", "list", "tuple"]
structure RQ (K : PySem.W.Frag) (C : Addr) : Prop where
  kit : ∀ T ∈ TL, PySem.W.kitOne K (.type T) (.ref C) = some false
  sub : ∀ T ∈ TL, PySem.W.subIn K (.type T) (.ref C) = some false
  own : PySem.W.kitOne K (.ref C) (.ref C) = some true
theorem dq_tyT {K : PySem.W.Frag} {H : Hp} {v : V} {d : PyData} {T : String} (h : Dq K H v d) (e : tyT d = some T) : TyX K H v (.type T) ∧ T ∈ TL := by
  cases h with
  | non => cases e; exact ⟨.base .non, by simp [TL]⟩
  | bl b' => cases e; exact ⟨.base (.bl b'), by simp [TL]⟩
  | int i => cases e; exact ⟨.base (.int i), by simp [TL]⟩
  | str x => cases e; exact ⟨.base (.str x), by simp [TL]⟩
  | lst q _ => cases e; exact ⟨.base (.lst q), by simp [TL]⟩
  | tup q _ =>
    cases e
    refine ⟨?_, by simp [TL]⟩
    rcases q with (q | ⟨o, q⟩) | ⟨o, its, n, h1, h2, _⟩
    · exact .base (.tup q)
    · exact .fTuple q
    · exact .kTuple h1 h2
  | dk q _ => cases e
  | ins oc q _ => cases e
def eqND (d : PyData) : Option Bool := if (tyT d).isSome = true then some false else none
inductive REqX (rC : Addr) : List PyData → Res → Prop
  | rr {a b : Rl} {v : Bool} (h : (decide (a.1 = b.1) && decide (a.2.1 = b.2.1)) = v) : REqX rC [eR rC a, eR rC b] (.ok (.bool v))
  | rd {a : Rl} {d : PyData} (h : eqND d = some false) : REqX rC [eR rC a, d] (.ok (.bool false))
section
variable {X : Cx} {F : Fx} {Γ Γ1 Γ2 : List Sl} {a b e : Expr} {pos p p2 : Pos} {j k : Nat} {ps : List Str} {x : Str} {R : List PyData → Res → Prop} {d d2 : PyData} {C f : Addr} {fd : FuncData} {sp : Sp} {u v : Rl}
theorem y_isiRD (O : RCl X.prog X.w X.K X.mg X.base j C) (q : RQ X.K C) (hB : X.mg "isinstance" = none) (ha : PE X a (tD X.K F Γ (.dat d) Γ1)) (hd : eqND d = some false) (hg : Gl X "isinstance" := by rfl) (hgT : Gl X "Real" := by rfl)
    (he : starEach [a, .Name "Real" p2] X.env = (false, eval a X.env) :: starEach [.Name "Real" p2] X.env := by rfl) (he2 : starEach [.Name "Real" p2] X.env = (false, eval (.Name "Real" p2) X.env) :: starEach [] X.env := by rfl) (hpl : (backTo pos (starEach [.Name "Real" p2] X.env)).any (·.1) = false := by rfl) :
    PE X (.Call (.Name "isinstance" p) [a, .Name "Real" p2] [] pos) (tD X.K F Γ (.dat (.bool false)) Γ1) := by
  obtain ⟨i, hi, o⟩ := O.o
  have hA : PA X [a, .Name "Real" p2] _ := pa_cons ha (pa_cons (pe_glob (v := .ref C) (pos := p2) hgT o.g rfl (by decide)) pa_nil he2) he
  refine pe_imp (pe_callB call_isi hg hB (by decide +kernel) hA (he := he) (hpl := hpl)) fun σ H Q ⟨G, E, q2⟩ => ⟨G, E, fun v H1 G1 s1 E1 v1 => ?_⟩
  unfold eqND at hd
  cases e : tyT d with
  | none => rw [e] at hd; cases hd
  | some T =>
    obtain ⟨t1, t2⟩ := dq_tyT (dp_mono' E1.le v1) e
    exact ⟨v, .ref C, _, _, _, rfl, .own C, t1, q.kit T t2, q2 _ H1 G1 s1 E1 (.bl _)⟩
theorem y_eqRX {k' : Bool} (Cf : CalM X.prog X.w X.K X.mg X.base k C "__eq__" ps (spP X.K (REqX C))) (hr : Room k X.A) (ha : PE X a (tD X.K F Γ (.dat (eR C u)) Γ1)) (hb : PE X b (tD X.K F Γ1 (.dat (eR C v)) Γ2)) (hR : (decide (u.1 = v.1) && decide (u.2.1 = v.2.1)) = k') (hm : behindInMarks .Eq b = false := by rfl) :
    PE X (.Compare a [.Eq] [b] pos) (tD X.K F Γ (.dat (.bool k')) Γ2) := y_eqRR Cf hr ha hb (.rr hR) hm
theorem y_eqRD {k' : Bool} (q : RQ X.K C) (Cf : CalM X.prog X.w X.K X.mg X.base k C "__eq__" ps (spP X.K (REqX C))) (hr : Room k X.A) (ha : PE X a (tD X.K F Γ (.dat (eR C u)) Γ1)) (hb : PE X b (tD X.K F Γ1 (.dat d2) Γ2)) (hd : eqND d2 = some k') (hm : behindInMarks .Eq b = false := by rfl) :
    PE X (.Compare a [.Eq] [b] pos) (tD X.K F Γ (.dat (.bool k')) Γ2) := by
  have hk : k' = false := by
    unfold eqND at hd
    split at hd <;> cases hd
    rfl
  subst hk
  refine de_eqOwn Cf hr ha hb (.rd hd) (fun h => ?_) hm
  unfold eqND at hd
  cases e : tyT d2 with
  | none => rw [e] at hd; cases hd
  | some T =>
    obtain ⟨t1, t2⟩ := dq_tyT h e
    exact ⟨_, t1, by unfold PySem.W.notFirst; rw [q.sub T t2]; simp⟩
def rStrOwn (C : Addr) (sp : Sp) : List V → Hp → VK → Prop := fun xs H Q => ∃ a dx fs, xs = [V.ref a] ∧ H a = some (.ins C dx fs) ∧ sp [.ref a] H (fun z H' => ∃ i, z = .str i ∧ Q z H') (fun _ _ _ => False)
theorem call_strOwn (hs : PySem.W.findIn X.K (.ref C) "__str__" = some (some (.ref f))) (hf : PySem.W.isFn X.K (.ref f) = true) (Fn : FnOk X.prog X.w X.K X.mg X.base (L2.CX X.prog X.w) k f fd ps sp) (hr : Room (k + 2) X.A) (hb : Binds X.K fd ps []) : CallR X (.type "str") (rStrOwn C sp) := by
  intro pins s σ H xs us Q I r h
  obtain ⟨a, dx, fs, rfl, ha, q⟩ := h
  obtain ⟨u, rfl, ru⟩ := r.one
  cases (show u = Value.ref a from ru)
  obtain ⟨mA, J, _⟩ := ins_get I.hok ha
  obtain ⟨od, J, _⟩ := J.look
  have hr2 : Room k X.A.in1.in1 := (show Room (k + 1) X.A.in1 from Room.in1 hr).in1
  refine PySem.W.kso_call hr2.units0 I.kIn J hs hf ?_
  have r2 : Vals [V.ref a] [Value.ref a] := .cons rfl .nil
  have hl : ([Value.ref a] : List Value).length = ps.length := Fn.len _ _ _ _ q
  have bb := hb s [.ref a] I.kIn (by rw [List.append_nil]; exact hl)
  rw [List.append_nil] at bb
  refine wpAny_call (codeAny_mono (Fn.run X.A.in1.in1 X.stack s H ⟨[.ref a], []⟩ [.ref a] [.ref a] _ _ hr2 I.env0.in1.in1 bb r2 q) fun r s' hq => ?_)
  cases r with
  | error e => exact (cx_no hq).elim
  | ok fl =>
    cases fl with
    | ret w =>
      obtain ⟨z, H', I', rz, i, ez, qz⟩ := I.after hq
      subst ez
      obtain ⟨t, e⟩ := (show ∃ t, w = Value.str i t from rz)
      cases e
      exact ⟨.str i, H', I', ⟨t, rfl⟩, qz⟩
    | next => exact False.elim hq
    | brk => exact False.elim hq
    | cont => exact False.elim hq
theorem y_strR {t : Str} (Cf : CalM X.prog X.w X.K X.mg X.base k C "__str__" ps (spP X.K R)) (hr : Room (k + 2) X.A) (hB : X.mg "str" = none) (ha : PE X a (tD X.K F Γ (.dat (eR C u)) Γ1)) (hR : R [eR C u] (.ok (.str t))) (hg : Gl X "str" := by rfl)
    (he : starEach [a] X.env = (false, eval a X.env) :: starEach [] X.env := by rfl) : PE X (.Call (.Name "str" p) [a] [] pos) (tD X.K F Γ (.dat (.str t)) Γ1) := by
  obtain ⟨f, fd, h1, h2, h3⟩ := Cf.ex
  refine pe_imp (pe_callTy (call_strOwn h2.at_ h2.fn h1 hr h3) hg hB (by decide +kernel) (pa_cons ha pa_nil he) (he := he)) fun σ H Q ⟨G, E, q⟩ => ⟨G, E, fun x H1 G1 s1 E1 v1 => ?_⟩
  obtain ⟨a, dx, fs, rfl, oc, hp, hf⟩ := dq_ins v1
  refine ⟨a, dx, fs, rfl, E1.le _ _ hp, G1, _, .ok _, E1.le, E1.nt, .cons v1 .nil, hR, fun v H' G' g hv => ?_⟩
  cases hv with
  | str _ => exact ⟨_, rfl, q _ H' G' (s1.trans g.step) (E1.grown g) (.str _)⟩
end
end AM
set_option Elab.async false
set_option linter.all false
set_option maxRecDepth 100000
set_option maxHeartbeats 2000000
namespace AM
open PySem PySem.Spec PyProof.Rows L2
theorem some_of {α : Type} {o : Option α} (h : o.isSome = true) : ∃ x, o = some x := by
  cases o with
  | none => cases h
  | some x => exact ⟨x, rfl⟩
theorem seer_of {K : PySem.W.Frag} {h : Heap} {mg : Str → Option Value} (KX : K.In h) (S : h.NoSeer) (G : h.Ns mainGlobals mg) (hbm : ∃ (bm : Addr) (ob : Obj), mg "__builtins__" = some (.ref bm) ∧ bm ≠ builtinsNs ∧ h.get? bm = some ob ∧ ob.cls = .type "module" ∧ ob.dict = some builtinsNs ∧ ob.data = .plain)
    (ok : seerOk K = true) : ∀ base : Heap, K.In base → base.Ns mainGlobals mg → base.NoSeer := by
  obtain ⟨k1, ok⟩ := He.ba ok
  obtain ⟨k2, ok⟩ := He.ba ok
  obtain ⟨k3, k4⟩ := He.ba ok
  obtain ⟨q1, k1⟩ := some_of k1
  obtain ⟨q2, k2⟩ := some_of k2
  obtain ⟨q3, k3⟩ := some_of k3
  obtain ⟨mc, ⟨o1, es1, ep1, g1, r1⟩, c1, c2⟩ := S.statics
  obtain ⟨mm, ⟨o2, es2, ep2, g2, r2⟩, m1⟩ := S.mods
  obtain ⟨mb, ⟨o3, es3, ep3, g3, r3⟩, b0⟩ := S.imp
  obtain ⟨bm, ob, e1, e2, g4, e4, e5, e6⟩ := hbm
  have up : ∀ {a : Addr} {o o' : Obj}, K.lookup a = some o' → h.get? a = some o → K.lookup a = some o := fun {a o o'} h1 h2 => by
    have := KX a o' h1
    rw [h2] at this
    cases this
    exact h1
  have k4 : ∃ o, K.lookup bm = some o := by
    cases q : PySem.W.nsIn K mainGlobals "__builtins__" with
    | none => rw [q] at k4; cases k4
    | some r =>
      cases r with
      | none => rw [q] at k4; cases k4
      | some v =>
        cases v with
        | ref a =>
          rw [q] at k4
          have := PySem.W.mg_of KX G q
          rw [e1] at this
          cases this
          exact some_of k4
        | _ => rw [q] at k4; cases k4
  obtain ⟨q4, k4⟩ := k4
  exact fun base hB hN => ⟨⟨mc, ⟨o1, es1, ep1, hB _ _ (up k1 g1), r1⟩, c1, c2⟩, ⟨mm, ⟨o2, es2, ep2, hB _ _ (up k2 g2), r2⟩, m1⟩, ⟨mb, ⟨o3, es3, ep3, hB _ _ (up k3 g3), r3⟩, b0⟩, ⟨mg, bm, ob, hN, e1, hB _ _ (up k4 g4), e4, e5⟩⟩
theorem walk_seerZ {l : PySem.W.OpenLaw} {n k : Nat} {q : Program} {loose : List Str} {XP : (Str → Option Value) → Heap → Prop} {d : DefRec} {CX : World → CXT} {x : Str} {m : NmZ} {fs : List He.Fa} {fn : List He.DefD} {tf : List He.Defn} {ex : PySem.W.Frag → Bool}
    (h1 : l.most = some n) (h2 : n ≤ sizeLine) (h3 : d.params.defaults = []) (h4 : Room k callerA) (himp : importsNone q = true)
    (F : ∀ (w : World) (mg : Str → Option Value) (fa : Addr) (h : Heap) (K : PySem.W.Frag), K.In h → SaysZ fs fn tf ex w h K → h.Ns mainGlobals mg → mg d.name = some (.ref fa) → (∀ base : Heap, K.In base → base.Ns mainGlobals mg → base.NoSeer) → LamX.LawAtS l w K (CX w) k n x mg fa h)
    (h6 : ∀ (w : World) (H : Hp) (s : Shared) (e : Value) (s' : Shared), CX w [] H s (fun _ _ _ => False) e s' → False) : PySem.W.WalkO q loose XP (hookZ m fs fn tf ex).says l.row.toRowW d [] (fun f vs => PySem.call f vs) := by
  refine Att.attach_callB h1 h3 fun w s₀ s₁ mg mb fa o pm cd doc a vs ns G Y g1 g2 g3 g4 g5 g6 g7 g8 g9 => ?_
  obtain ⟨K, KX, c⟩ := Y
  have hS := seer_of KX (G.T.seer himp) G.T.g G.T.bmain (He.ba c.more).1
  obtain ⟨fd, cs, sp, e1, e2, e3, e4, e5, e6⟩ := F w mg fa _ K KX c G.T.g g4 hS
  exact LamX.law_callTs KX G.T.g G.T.b G.T.builtins G.T.nolimit g9 e1 e2 e3 G.T.bmain g5 g6 (Nat.le_trans g7 h2) h4 e6 e4 (fun H u v => e5 H a ns g7 g8 u v) fun H e s' => h6 w H s₁ e s'
section
variable {fa : List He.Fa} {fn : List He.DefD} {tf : List He.Defn} {ex : PySem.W.Frag → Bool} {w : World} {h : Heap} {K : PySem.W.Frag}
theorem z_fact (c : SaysZ fa fn tf ex w h K) (i : Nat) {f : He.Fa} (e : fa[i]? = some f) : f.ok K = true := c.t.d.fact i e
theorem z_ex (c : SaysZ fa fn tf ex w h K) : ex K = true := (He.ba c.more).2
theorem z_all {l : List Bool} (h : l.all id = true) (i : Nat) {b : Bool} (e : l[i]? = some b) : b = true := List.all_eq_true.mp h b (List.mem_of_getElem? e)
theorem z_def (c : SaysZ fa fn tf ex w h K) (i : Nat) {d : He.DefD} (e : fn[i]? = some d) (h1 : d.dfl = []) : ∃ (oc : Value) (od : Option Addr) (kV doc pm : Value) (an : Option Addr) (cd ct : Value) (sl : Array (Option Value)),
    K.lookup (He.fAd K d.at_) = some ⟨oc, od, .func (PySem.W.fnOf d.name d.qual d.params d.body d.scope .none kV doc pm an cd ct), sl⟩ ∧ PySem.W.codeIn K cd d.qual = true ∧ PySem.W.keepIn K (.ref (He.fAd K d.at_)) = true := by
  obtain ⟨fd, ⟨oc, od, dV, kV, doc, pm, an, cd, ct, sl, rfl, lk, hc, dv, kw⟩, kp⟩ := c.t.d.def_ i e
  have : dV = .none := by
    rcases dv with ⟨_, z⟩ | ⟨z, _⟩
    · exact z
    · exact absurd (by show d.dfl.map _ = []; rw [h1]; rfl) z
  subst this
  exact ⟨oc, od, kV, doc, pm, an, cd, ct, sl, lk, hc, kp⟩
theorem z_defT (c : SaysZ fa fn tf ex w h K) (i : Nat) {d : He.DefD} (e : fn[i]? = some d) (h1 : d.dfl = []) : ∃ (oc : Value) (od : Option Addr) (kV doc pm : Value) (an : Option Addr) (ct : Value) (sl : Array (Option Value)),
    K.lookup (He.fAd K d.at_) = some ⟨oc, od, .func (PySem.W.fnOf d.name d.qual d.params d.body d.scope .none kV doc pm an (.ref (He.cT K d.at_).1) ct), sl⟩ ∧ PySem.W.codeIn K (.ref (He.cT K d.at_).1) d.qual = true ∧ PySem.W.keepIn K (.ref (He.fAd K d.at_)) = true := by
  obtain ⟨oc, od, kV, doc, pm, an, cd, ct, sl, lk, hc, kp⟩ := z_def c i e h1
  obtain ⟨c', rfl⟩ := He.codeIn_ref hc
  have : (He.cT K d.at_).1 = c' := He.codeOf_eq lk rfl
  rw [this]
  exact ⟨oc, od, kV, doc, pm, an, ct, sl, lk, hc, kp⟩
theorem z_def1 (c : SaysZ fa fn tf ex w h K) (i : Nat) {d : He.DefD} {n : Int} (e : fn[i]? = some d) (h1 : d.dfl = [.int n]) : ∃ (oc : Value) (od : Option Addr) (kV doc pm : Value) (an : Option Addr) (cd ct : Value) (sl : Array (Option Value)) (t : Addr) (te : Value) (td : Option Addr) (tn : Nat) (ts : Array (Option Value)) (tk : Tok),
    K.lookup (He.fAd K d.at_) = some ⟨oc, od, .func (PySem.W.fnOf d.name d.qual d.params d.body d.scope (.ref t) kV doc pm an cd ct), sl⟩ ∧ PySem.W.codeIn K cd d.qual = true ∧ PySem.W.keepIn K (.ref (He.fAd K d.at_)) = true ∧ K.lookup t = some ⟨te, td, .seq #[.int n tk] tn, ts⟩ := by
  obtain ⟨fd, ⟨oc, od, dV, kV, doc, pm, an, cd, ct, sl, rfl, lk, hc, dv, kw⟩, kp⟩ := c.t.d.def_ i e
  have e1 : d.dvs K = [.int n] := by show d.dfl.map _ = _; rw [h1]; rfl
  rw [e1] at dv
  rcases dv with ⟨z, _⟩ | ⟨_, T, o, its, m, rfl, lo, od', vs⟩
  · cases z
  · obtain ⟨te, td, dt, ts⟩ := o
    cases vs with
    | cons r rs =>
      cases rs
      obtain ⟨tk, rfl⟩ := r
      have od' : dt = _ := od'
      subst od'
      exact ⟨oc, od, kV, doc, pm, an, cd, ct, sl, T, te, td, m, ts, tk, lk, hc, kp, lo⟩
end
section
variable {fs : List He.Fa} {fn : List He.DefD} {tf : List He.Defn} {ex : PySem.W.Frag → Bool} {w : World} {h : Heap} {K : PySem.W.Frag} {mg : Str → Option Value}
theorem z_glo (c : SaysZ fs fn tf ex w h K) (X : K.In h) (G : h.Ns mainGlobals mg) (j : Nat) {x : Str} (e : fs[j]? = some (.glo x)) : mg x = some (.ref (He.ga K x)) := He.glo_ok X G (z_fact c j e)
theorem z_free (c : SaysZ fs fn tf ex w h K) (X : K.In h) (G : h.Ns mainGlobals mg) (j : Nat) {x : Str} (e : fs[j]? = some (.free x)) : mg x = none := He.free_ok X G (z_fact c j e)
theorem z_Def (c : SaysZ fs fn tf ex w h K) (X : K.In h) (G : h.Ns mainGlobals mg) (i j : Nat) {x : Str} {st : Stmt} {ps : List Str} (e : fn[i]? = some ⟨(x, none), x, x, defArgs st, defBody st, defScope st, [], []⟩) (e2 : fs[j]? = some (.glo x))
    (hb : ∀ (kV doc pm : Value) (an : Option Addr) (cdv ct : Value) (us : List Value), us.length = ps.length → bindArgs (PySem.W.fnOf x x (defArgs st) (defBody st) (defScope st) .none kV doc pm an cdv ct) ⟨us, []⟩ = pure (ps.zip us)) : Def K mg x st ps := by
  obtain ⟨oc, od, kV, doc, pm, an, cd, ct, sl, lk, hc, kp⟩ := z_def c i e rfl
  have F := fun_mk (st := st) lk hc kp
  exact ⟨_, _, fun_g F, z_glo c X G j e2, F.binds hb⟩
theorem z_DefM (c : SaysZ fs fn tf ex w h K) (i j : Nat) {x m qual : Str} {st : Stmt} {ps : List Str} (e : fn[i]? = some ⟨(x, some m), m, qual, defArgs st, defBody st, defScope st, [], []⟩) (e2 : fs[j]? = some (.meth x m))
    (hb : ∀ (kV doc pm : Value) (an : Option Addr) (cdv ct : Value) (us : List Value), us.length = ps.length → bindArgs (PySem.W.fnOf m qual (defArgs st) (defBody st) (defScope st) .none kV doc pm an cdv ct) ⟨us, []⟩ = pure (ps.zip us)) : DefM K (He.ga K x) m qual st ps := by
  obtain ⟨oc, od, kV, doc, pm, an, cd, ct, sl, lk, hc, kp⟩ := z_def c i e rfl
  have F := fun_mk (st := st) lk hc kp
  exact ⟨_, _, fun_g F, He.meth_ok (z_fact c j e2), F.binds hb⟩
theorem z_X (c : SaysZ fs fn tf ex w h K) (X : K.In h) (G : h.Ns mainGlobals mg) (i j : Nat) {x : Str} (e : fs[i]? = some (.glo x)) (e2 : fs[j]? = some (.exc x)) : Xcl K mg x (He.ga K x) := by
  obtain ⟨h1, h2, h3, h4⟩ := He.exc_ok (z_fact c j e2)
  exact ⟨z_glo c X G i e, h2, h1, h3, h4⟩
end
theorem defV_def {K : PySem.W.Frag} {mg : Str → Option Value} {x : Str} {st : Stmt} {ps : List Str} {dvs : List V} {n : Nat} {ks : List Str} (D : DefV K mg x st ps dvs n ks) : Def K mg x st ps := by
  obtain ⟨f, fd, ds, F, g, b, _⟩ := D.ex
  exact ⟨f, fd, F, g, b⟩
end AM
set_option Elab.async false
set_option linter.all false
set_option maxRecDepth 100000
set_option maxHeartbeats 2000000
namespace AM
noncomputable section
open PySem PySem.Spec PyProof.Rows L2
def y_greatest_c1  (s : Int × Int) : Option Bool :=
 (some (!decide (s.2 = (0 : Int))))
def y_greatest_b1  (s : Int × Int) : Option ((Int × Int)) :=
 Option.bind (modC s.1 s.2) fun t =>
 some (s.2, t)
def y_greatest (v_one : Int) (v_other : Int) : Option Int :=
 Option.bind (some (v_one.natAbs : Int)) fun v_one1 =>
 Option.bind (some (v_other.natAbs : Int)) fun v_other1 =>
 Option.bind (whileO (y_greatest_c1) (y_greatest_b1) (v_one1, v_other1)) fun r =>
 some r.1
def y__law_int (b : Bag)  : Option (Int × Bag) :=
 Option.bind (takeC b (8 : Int)) fun t =>
 if (decide (t.1 < (5 : Int))) = true then
 Option.bind (takeC t.2 (13 : Int)) fun t1 =>
 some ((t1.1 - (6 : Int)), t1.2)
 else
 if (decide (t.1 < (7 : Int))) = true then
 Option.bind (takeC t.2 (201 : Int)) fun t2 =>
 some ((t2.1 - (100 : Int)), t2.2)
 else
 Option.bind (mulC (2 : Int) (1000000 : Int)) fun t3 =>
 Option.bind (takeC t.2 (t3 + (1 : Int))) fun t4 =>
 some ((t4.1 - (1000000 : Int)), t4.2)
def y_lowest (v_top : Int) (v_bottom : Int) : Option (Int × Int) :=
 Option.bind (y_greatest v_top v_bottom) fun t =>
 Option.bind (if (decide (v_bottom < (0 : Int))) = true then
 Option.bind (some ((0 : Int) - t)) fun v_part =>
 some v_part
 else
 some t) fun j =>
 Option.bind (fdivQ v_top j) fun t1 =>
 Option.bind (fdivQ v_bottom j) fun t2 =>
 some (t1, t2)
def y_degree_of (v_poly : (List Int)) : Option Int :=
 some ((v_poly.length : Int) - (1 : Int))
def y__law_low_c1  (s : Int × Int) : Option Bool :=
 (some (!decide (s.2 = (0 : Int))))
def y__law_low_b1  (s : Int × Int) : Option ((Int × Int)) :=
 Option.bind (modC s.1 s.2) fun t =>
 some (s.2, t)
def y__law_low (v_t : Int) (v_b : Int) : Option (Int × Int) :=
 Option.bind (some (v_t.natAbs : Int)) fun v_x =>
 Option.bind (some (v_b.natAbs : Int)) fun v_y =>
 Option.bind (whileO (y__law_low_c1) (y__law_low_b1) (v_x, v_y)) fun r =>
 Option.bind (if (decide (v_b < (0 : Int))) = true then
 Option.bind (some ((0 : Int) - r.1)) fun v_x1 =>
 some v_x1
 else
 some r.1) fun j =>
 Option.bind (fdivQ v_t j) fun t1 =>
 Option.bind (fdivQ v_b j) fun t2 =>
 some (t1, t2)
def y__law_wide (b : Bag)  : Option (Int × Bag) :=
 Option.bind (takeC b (4 : Int)) fun t =>
 if (decide (t.1 < (2 : Int))) = true then
 Option.bind (y__law_int t.2) fun t1 =>
 some (t1.1, t1.2)
 else
 if (decide (t.1 = (2 : Int))) = true then
 Option.bind (mulC (2 : Int) (1000000000000000 : Int)) fun t2 =>
 Option.bind (takeC t.2 (t2 + (1 : Int))) fun t3 =>
 some ((t3.1 - (1000000000000000 : Int)), t3.2)
 else
 Option.bind (takeC t.2 (5 : Int)) fun t4 =>
 Option.bind (atI [(0 : Int), (1 : Int), (-(1 : Int)), (1000000000000000 : Int), ((0 : Int) - (1000000000000000 : Int))] t4.1) fun t5 =>
 some (t5, t4.2)
def y__law_odd (b : Bag)  : Option (PyData × Bag) :=
 Option.bind (takeC b (11 : Int)) fun t =>
 Option.bind (atI [(eU ()), (PyData.bool true), (PyData.bool false), (PyData.str ("" : Str)), (PyData.str ("1" : Str)), (PyData.tuple []), (PyData.list []), ((eT PyData.int) [(1 : Int)]), ((eL PyData.int) [(1 : Int), (1 : Int)]), ((eP PyData.int PyData.int) ((1 : Int), (1 : Int))), ((eP eU PyData.int) ((), (1 : Int)))] t.1) fun t1 =>
 some (t1, t.2)
def y__law_is_int (v_x : PyData) : Option Bool :=
 some ((isI v_x) && (!(isB v_x)))
def y_term_text (v_one : Int) (v_power : Int) (v_first : Bool) : Option Str :=
 Option.bind (some (if (decide (v_one < (0 : Int))) = true then ("-" : Str) else (if v_first = true then ("" : Str) else ("+" : Str)))) fun v_mark =>
 Option.bind (if ((decide (v_power = (0 : Int))) || (!decide ((v_one.natAbs : Int) = (1 : Int)))) = true then (Option.bind (strC (v_one.natAbs : Int)) fun t => some t) else (some ("" : Str))) fun t1 =>
 if (decide (v_power = (0 : Int))) = true then
 Option.bind (fitS v_mark) fun t2 =>
 Option.bind (fitS t1) fun t3 =>
 Option.bind (joinC Str.empty [t2, t3]) fun t4 =>
 some t4
 else
 Option.bind (if (decide (v_power = (1 : Int))) = true then (Option.bind (fitS v_mark) fun t5 => Option.bind (fitS t1) fun t6 => Option.bind (joinC Str.empty [t5, t6, ("x" : Str)]) fun t7 => some t7) else (Option.bind (fitS v_mark) fun t8 => Option.bind (fitS t1) fun t9 => Option.bind (strC v_power) fun t10 => Option.bind (joinC Str.empty [t8, t9, ("x^" : Str), t10]) fun t11 => some t11)) fun t12 =>
 some t12
def y_poly_text_b1 (v_poly : (List Int)) (s : Str) (x : Int) : Option ((Str)) :=
 Option.bind (atI v_poly x) fun t2 =>
 if (!decide (t2 = (0 : Int))) = true then
 Option.bind (atI v_poly x) fun t3 =>
 Option.bind (y_term_text t3 x (decide (s = ("" : Str)))) fun t4 =>
 Option.bind (catS s t4) fun t5 =>
 some t5
 else
 some s
def y_poly_text (v_poly : (List Int)) : Option Str :=
 Option.bind (some ("" : Str)) fun v_found =>
 Option.bind (y_degree_of v_poly) fun t =>
 Option.bind (rng3 t ((0 : Int) - (1 : Int))) fun t1 =>
 Option.bind (forO (y_poly_text_b1 v_poly) t1 v_found) fun r =>
 some (if (decide (r = ("" : Str))) = true then ("0" : Str) else r)
def y_ratio (v_top : PyData) (v_bottom : PyData) : Option (Ex (Int × Int)) :=
 Option.bind (y_is_whole v_top) fun t =>
 Option.bind (if (!t) = true then some true else (Option.bind (y_is_whole v_bottom) fun t1 => Option.bind (if (!t1) = true then some true else (Option.bind (eqC v_bottom (PyData.int (0 : Int))) fun t2 => some t2)) fun t3 => some t3)) fun t4 =>
 if t4 = true then
 some (.ex .NoRatio)
 else
 Option.bind (asI v_top) fun t5 =>
 Option.bind (asI v_bottom) fun t6 =>
 Option.bind (y_lowest t5 t6) fun t7 =>
 some (.ok t7)
def y_ratio_text (v_one : (Int × Int)) : Option Str :=
 Option.bind (if (decide (v_one.2 = (1 : Int))) = true then (Option.bind (strC v_one.1) fun t => some t) else (Option.bind (strC v_one.1) fun t1 => Option.bind (strC v_one.2) fun t2 => Option.bind (joinC Str.empty [t1, ("/" : Str), t2]) fun t3 => some t3)) fun t4 =>
 some t4
def y_real_text (v_one : Rl) : Option Str :=
 Option.bind (y_degree_of v_one.1) fun t =>
 if (decide (t = (1 : Int))) = true then
 Option.bind (atI v_one.1 (0 : Int)) fun t1 =>
 Option.bind (atI v_one.1 (1 : Int)) fun t2 =>
 Option.bind (y_lowest ((0 : Int) - t1) t2) fun t3 =>
 Option.bind (y_ratio_text t3) fun t4 =>
 some t4
 else
 Option.bind (strC v_one.2.1) fun t5 =>
 Option.bind (y_poly_text v_one.1) fun t6 =>
 Option.bind (fitS t6) fun t7 =>
 Option.bind (joinC Str.empty [("root " : Str), t5, (" " : Str), t7]) fun t8 =>
 some t8
def y_Real___str__ (v_self : Rl) : Option Str :=
 Option.bind (y_real_text v_self) fun t =>
 Option.bind (fitS t) fun t1 =>
 some t1
def askN_k23 : Xn → Option (Str × Str)
  | .NoRatio => some ("refused", "NoRatio")
  | _ => none
def y_numberX (v_top : PyData) (v_bottom : PyData) : Option (Ex Rl) :=
 Option.bind (y_ratio v_top v_bottom) fun c =>
 match c with
 | .ex x1 => some (.ex x1)
 | .ok v_one =>
 some (.ok ([((0 : Int) - v_one.1), v_one.2], (0 : Int), (v_one, v_one)))
def y__law_key (v_x : Rl) : Option (Option ((List Int) × Int)) :=
 Option.bind (if (!true) = true then some true else (Option.bind (if (!(isT ((eT PyData.int) v_x.1))) = true then some true else (Option.bind (y__law_is_int (PyData.int v_x.2.1)) fun t => some (!t))) fun t1 => some t1)) fun t2 =>
 if t2 = true then
 some none
 else
 Option.bind (filC (fun x1 => (Option.bind (y__law_is_int (PyData.int x1)) fun t3 => some (!t3))) (fun x1 => (some x1)) v_x.1) fun t4 =>
 some (if (decide (t4 = ([] : List Int))) = true then (some (v_x.1, v_x.2.1)) else none)
def y_law_k23_b1 (rC : Addr) (v_r : Rl) (s : Unit) (x : PyData) : Option (Ctl (Unit) Bool) :=
 Option.bind (eqND x) fun t37 =>
 Option.bind (sameC (PyData.bool t37) (PyData.bool false)) fun t38 =>
 if (!t38) = true then
 some (.rt false)
 else
 some (.nx ())
def y_law_k23_b2 (rC : Addr)  (s : Unit) (x : (PyData × PyData)) : Option (Ctl (Unit) Bool) :=
 Option.bind (y_numberX x.1 x.2) fun t40 =>
 Option.bind (askV askN_k23 (eR rC) t40) fun t41 =>
 Option.bind (sameC t41 ((eP PyData.str PyData.str) (("refused" : Str), ("NoRatio" : Str)))) fun t42 =>
 if (!t42) = true then
 some (.rt false)
 else
 some (.nx ())
def y_law_k23 (rC : Addr) (b : Bag) : Option (Ctl Unit Bool) :=
 Option.bind (y__law_wide b) fun t =>
 Option.bind (y__law_wide t.2) fun t1 =>
 Option.bind (takeC t1.2 (12 : Int)) fun t2 =>
 Option.bind (takeC t2.2 (2 : Int)) fun t3 =>
 Option.bind (atI [t1.1, ((1 : Int) + t2.1)] t3.1) fun t4 =>
 Option.bind (some (if (decide (t4 = (0 : Int))) = true then (1 : Int) else t4)) fun v_b =>
 Option.bind (y__law_low t.1 v_b) fun t5 =>
 Option.bind (okC (y_numberX (PyData.int t.1) (PyData.int v_b))) fun t6 =>
 Option.bind (y__law_key t6) fun t7 =>
 Option.bind (sameC ((eO (eP (eT PyData.int) PyData.int)) t7) ((eP (eP PyData.int PyData.int) PyData.int) ((((0 : Int) - t5.1), t5.2), (0 : Int)))) fun t8 =>
 Option.bind (if (!t8) = true then some true else (Option.bind (okC (y_numberX (PyData.int t.1) (PyData.int 1))) fun t9 => Option.bind (y__law_key t9) fun t10 => Option.bind (sameC ((eO (eP (eT PyData.int) PyData.int)) t10) ((eP (eP PyData.int PyData.int) PyData.int) ((((0 : Int) - t.1), (1 : Int)), (0 : Int)))) fun t11 => some (!t11))) fun t12 =>
 if t12 = true then
 some (.rt false)
 else
 Option.bind (if (decide (t5.2 = (1 : Int))) = true then (Option.bind (strC t5.1) fun t13 => some t13) else (Option.bind (strC t5.1) fun t14 => Option.bind (catS t14 ("/" : Str)) fun t15 => Option.bind (strC t5.2) fun t16 => Option.bind (catS t15 t16) fun t17 => some t17)) fun t18 =>
 Option.bind (y_Real___str__ t6) fun t19 =>
 Option.bind (sameC (PyData.str t19) (PyData.str t18)) fun t20 =>
 Option.bind (if (!t20) = true then some true else (Option.bind (mulC (3 : Int) t5.1) fun t21 => Option.bind (mulC (3 : Int) t5.2) fun t22 => Option.bind (okC (y_numberX (PyData.int t21) (PyData.int t22))) fun t23 => Option.bind (sameC (PyData.bool (decide (t6.1 = t23.1) && decide (t6.2.1 = t23.2.1))) (PyData.bool true)) fun t24 => some (!t24))) fun t25 =>
 if t25 = true then
 some (.rt false)
 else
 Option.bind (y__law_wide t3.2) fun t26 =>
 Option.bind (takeC t26.2 (3 : Int)) fun t27 =>
 Option.bind (atI [t26.1, t.1, (t.1 + (1 : Int))] t27.1) fun t28 =>
 Option.bind (some (PyData.int t28)) fun v_c =>
 Option.bind (okC (y_numberX v_c (PyData.int t5.2))) fun t29 =>
 Option.bind (asI v_c) fun t30 =>
 Option.bind (y__law_low t30 t5.2) fun t31 =>
 Option.bind (sameC (PyData.bool (decide (t6.1 = t29.1) && decide (t6.2.1 = t29.2.1))) (PyData.bool (decide (t31 = t5)))) fun t32 =>
 Option.bind (if (!t32) = true then some true else (Option.bind (okC (y_numberX v_c (PyData.int 1))) fun t33 => Option.bind (eqC ((eP eD PyData.int) (v_c, (1 : Int))) ((eP PyData.int PyData.int) t5)) fun t34 => Option.bind (sameC (PyData.bool (decide (t6.1 = t33.1) && decide (t6.2.1 = t33.2.1))) (PyData.bool t34)) fun t35 => some (!t35))) fun t36 =>
 if t36 = true then
 some (.rt false)
 else
 Option.bind (forC (y_law_k23_b1 rC t6) [(PyData.int t.1), ((eP PyData.int PyData.int) t5), (PyData.str t18), (eU ()), ((eP (eT PyData.int) PyData.int) (t6.1, t6.2.1)), ((eL (eR rC)) [t6])] ()) fun c =>
 match c with
 | .rt t => some (.rt t)
 | .nx r =>
 Option.bind (y__law_odd t27.2) fun t39 =>
 Option.bind (forC (y_law_k23_b2 rC) [(t39.1, (PyData.int v_b)), ((PyData.int t.1), t39.1), ((PyData.int t.1), (PyData.int (0 : Int))), (t39.1, (PyData.int (0 : Int)))] ()) fun c1 =>
 match c1 with
 | .rt t => some (.rt t)
 | .nx r1 =>
 Option.bind (y_numberX t39.1 (PyData.int 1)) fun t43 =>
 Option.bind (askV askN_k23 (eR rC) t43) fun t44 =>
 Option.bind (sameC t44 ((eP PyData.str PyData.str) (("refused" : Str), ("NoRatio" : Str)))) fun t45 =>
 if (!t45) = true then
 some (.rt false)
 else
 some (.nx ())
end
end AM
set_option Elab.async false
set_option linter.all false
set_option maxRecDepth 100000
set_option maxHeartbeats 1000000
namespace AM
open PySem PySem.Spec PyProof.Rows L2
end AM
set_option Elab.async false
set_option linter.all false
set_option maxRecDepth 100000
set_option maxHeartbeats 1000000
set_option exponentiation.threshold 100
namespace AM
open PySem PySem.Spec PyProof.Rows L2
def Bd (n : Nat) (f : List Int) : Prop := ∀ a ∈ f, a.natAbs < 2 ^ n
theorem Bd.mono {n m : Nat} {f : List Int} (h : Bd n f) (hm : n ≤ m) : Bd m f := fun a ha => Nat.lt_of_lt_of_le (h a ha) (Nat.pow_le_pow_right (by decide) hm)
theorem Bd.nil (n : Nat) : Bd n [] := fun a h => by cases h
theorem Bd.app {n : Nat} {f g : List Int} (h : Bd n f) (h2 : Bd n g) : Bd n (f ++ g) := fun a ha => (List.mem_append.mp ha).elim (h a) (h2 a)
theorem Bd.trim {n : Nat} {f : List Int} (h : Bd n f) : Bd n (trimZ f) := fun a ha => h a (trimZ_mem ha)
theorem Bd.zeros (n m : Nat) : Bd n (List.replicate m 0) := fun a ha => by rw [(List.mem_replicate.mp ha).2]; exact Nat.pow_pos (by decide)
theorem abs_mul_lt {a b : Int} {m n : Nat} (ha : a.natAbs < 2 ^ m) (hb : b.natAbs < 2 ^ n) : (a * b).natAbs < 2 ^ (m + n) := by
  rw [Int.natAbs_mul, Nat.pow_add]
  exact Nat.mul_lt_mul'' ha hb
theorem abs_add_lt {a b : Int} {n : Nat} (ha : a.natAbs < 2 ^ n) (hb : b.natAbs < 2 ^ n) : (a + b).natAbs < 2 ^ (n + 1) := by
  rw [Nat.pow_succ]; omega
theorem abs_lt_mono {a : Int} {m n : Nat} (ha : a.natAbs < 2 ^ m) (h : m ≤ n) : a.natAbs < 2 ^ n := Nat.lt_of_lt_of_le ha (Nat.pow_le_pow_right (by decide) h)
theorem Bd.zip {n : Nat} : ∀ {f g : List Int}, Bd n f → Bd n g → Bd (n + 1) (List.zipWith (· + ·) f g)
  | [], _, _, _ => fun a h => by simp at h
  | _ :: _, [], _, _ => fun a h => by simp at h
  | a :: f, b :: g, h1, h2 => fun c hc => by
    rw [List.zipWith_cons_cons] at hc
    rcases List.mem_cons.mp hc with rfl | hc
    · exact abs_add_lt (h1 a List.mem_cons_self) (h2 b List.mem_cons_self)
    · exact Bd.zip (fun a ha => h1 a (List.mem_cons_of_mem _ ha)) (fun a ha => h2 a (List.mem_cons_of_mem _ ha)) c hc
theorem Bd.pad {n m : Nat} {f : List Int} (h : Bd n f) : Bd n (padZ f m) := h.app (Bd.zeros _ _)
theorem Bd.add {n : Nat} {f g : List Int} (h : Bd n f) (h2 : Bd n g) : Bd (n + 1) (addZ f g) := (Bd.zip h.pad h2.pad).trim
theorem mulC_l {a b : Int} (ha : a.natAbs < 2 ^ 64) : mulC a b = some (a * b) := if_pos (AM.mulL ha)
theorem fdivQ_eq {a b : Int} (h0 : b ≠ 0) : fdivQ a b = some (a.fdiv b) := if_pos h0
theorem modC_eq {a b : Int} (h0 : b ≠ 0) : modC a b = some (a.fmod b) := if_pos h0
theorem gcd_loop : ∀ (n : Nat) (a b : Nat), b ≤ n → WhileS y_greatest_c1 y_greatest_b1 ((a : Int), (b : Int)) ((Nat.gcd a b : Int), 0)
  | n, a, 0, _ => by rw [Nat.gcd_zero_right]; exact .stop rfl
  | 0, a, b + 1, h => by omega
  | n + 1, a, b + 1, h => by
    have e : modC (a : Int) ((b + 1 : Nat) : Int) = some (((a % (b + 1) : Nat) : Int)) := by rw [modC_eq (by omega), fmod_nat]
    have r := gcd_loop n (b + 1) (a % (b + 1)) (by have := Nat.mod_lt a (show 0 < b + 1 by omega); omega)
    rw [Nat.gcd_comm a, Nat.gcd_rec, Nat.gcd_comm]
    refine .step (s' := (((b + 1 : Nat) : Int), ((a % (b + 1) : Nat) : Int))) ?_ ?_ r
    · show some (!decide (((b + 1 : Nat) : Int) = 0)) = some true
      rw [decide_eq_false (by omega)]; rfl
    · show (modC (a : Int) ((b + 1 : Nat) : Int)).bind _ = _
      rw [e]; rfl
theorem greatest_eq (a b : Int) : y_greatest a b = some (Int.gcd a b : Int) := by
  unfold y_greatest
  simp only [Option.bind_some]
  rw [whileO_iff.mpr (gcd_loop _ a.natAbs b.natAbs (Nat.le_refl _))]
  rfl
def scaleZ (c : Int) (f : List Int) : List Int := trimZ (f.map (c * ·))
def subZ (f g : List Int) : List Int := addZ f (scaleZ (-1) g)
theorem Bd.neg {n : Nat} {f : List Int} (h : Bd n f) : Bd n (scaleZ (-1) f) := fun a ha => by
  obtain ⟨b, hb, rfl⟩ := List.mem_map.mp (trimZ_mem ha)
  have := h b hb
  show ((-1) * b).natAbs < _
  rw [show (-1) * b = -b by omega, Int.natAbs_neg]; exact this
theorem Bd.sub {n : Nat} {f g : List Int} (h : Bd n f) (h2 : Bd n g) : Bd (n + 1) (subZ f g) := h.add h2.neg
end AM
set_option Elab.async false
set_option linter.all false
set_option maxRecDepth 100000
set_option maxHeartbeats 1000000
set_option exponentiation.threshold 100
namespace AM
open PySem PySem.Spec PyProof.Rows L2
theorem bstep {α β : Type} {m : Option α} {f : α → Option β} {r : β} {x : α} (e : m = some x) (h : f x = some r) : m.bind f = some r := by rw [e]; exact h
theorem ite_t {α : Type} {k : Bool} {a b : Option α} {r : α} (hk : k = true) (h : a = some r) : (if k = true then a else b) = some r := by rw [if_pos hk]; exact h
theorem ite_f {α : Type} {k : Bool} {a b : Option α} {r : α} (hk : k = false) (h : b = some r) : (if k = true then a else b) = some r := by rw [if_neg (by rw [hk]; decide)]; exact h
theorem take_spec {n : Int} {b : Bag} (ok : BagOk n b) (m : Int) (hn : n + 1 ≤ 1000000000 := by omega) (h0 : 0 < m := by omega) (h1 : m < 2 ^ 63 := by omega) : ∃ v, takeC b m = some v ∧ (0 ≤ v.1 ∧ v.1 < m) ∧ BagOk (n + 1) v.2 := by
  refine ⟨take b m, ?_, take_rng b h0, take_ok ok m⟩
  unfold takeC
  have h1 := ok.z1
  rw [if_pos ⟨ok.y0, ok.y1, ok.z0, by omega, h0, by assumption⟩]
theorem int_spec {n : Int} {b : Bag} (ok : BagOk n b) (hn : n + 2 ≤ 1000000000 := by omega) : ∃ v, y__law_int b = some v ∧ (-1000000 ≤ v.1 ∧ v.1 ≤ 1000000) ∧ BagOk (n + 2) v.2 := by
  obtain ⟨t, e, ht, okt⟩ := take_spec ok 8
  by_cases h5 : t.1 < 5
  · obtain ⟨u, e2, hu, oku⟩ := take_spec okt 13
    exact ⟨_, bstep e (ite_t (decide_eq_true h5) (bstep e2 rfl)), by constructor <;> (simp only []; omega), oku.mono (by omega)⟩
  · by_cases h7 : t.1 < 7
    · obtain ⟨u, e2, hu, oku⟩ := take_spec okt 201
      exact ⟨_, bstep e (ite_f (decide_eq_false h5) (ite_t (decide_eq_true h7) (bstep e2 rfl))), by constructor <;> (simp only []; omega), oku.mono (by omega)⟩
    · obtain ⟨u, e2, hu, oku⟩ := take_spec okt 2000001
      exact ⟨_, bstep e (ite_f (decide_eq_false h5) (ite_f (decide_eq_false h7) (bstep (mulC_l (by decide)) (bstep e2 rfl)))), by constructor <;> (simp only []; omega), oku.mono (by omega)⟩
theorem atI_nat' {α : Type} {xs : List α} {i : Nat} (h : i < xs.length) : atI xs (i : Int) = some xs[i] := by
  unfold atI
  rw [ixN_nat h]
  exact List.getElem?_eq_getElem h
theorem atI_pos {α : Type} {xs : List α} {i : Int} (h : 0 ≤ i) (h2 : i < xs.length) : ∃ x, atI xs i = some x ∧ x ∈ xs ∧ xs[i.toNat]? = some x := by
  refine ⟨xs[i.toNat]'(by omega), ?_, List.getElem_mem _, List.getElem?_eq_getElem _⟩
  have := atI_nat' (xs := xs) (i := i.toNat) (by omega)
  rwa [show ((i.toNat : Nat) : Int) = i by omega] at this
end AM
set_option Elab.async false
set_option linter.all false
set_option maxRecDepth 100000
set_option maxHeartbeats 1000000
set_option exponentiation.threshold 100
namespace AM
open PySem PySem.Spec PyProof.Rows L2
def cont (f : List Int) : Nat := gcdL 0 f
theorem fdiv_mul {a c : Int} (h : c ∣ a) : a.fdiv c * c = a := by
  obtain ⟨k, rfl⟩ := h
  by_cases hc : c = 0
  · subst hc; simp
  · rw [Int.mul_fdiv_cancel_left _ hc, Int.mul_comm]
theorem Bd.fdiv {n : Nat} {f : List Int} {c : Int} (hb : Bd n f) (hc : ∀ a ∈ f, c ∣ a) : Bd n (f.map (·.fdiv c)) := fun a ha => by
  obtain ⟨b, hb', rfl⟩ := List.mem_map.mp ha
  have h1 := fdiv_mul (hc b hb')
  have h2 := hb b hb'
  by_cases hc0 : c = 0
  · subst hc0; show (b.fdiv 0).natAbs < _; rw [Int.fdiv_zero]; exact Nat.pow_pos (by decide)
  · have : (b.fdiv c).natAbs ≤ b.natAbs := by
      have e : b.natAbs = (b.fdiv c).natAbs * c.natAbs := by rw [← Int.natAbs_mul, h1]
      rw [e]
      exact Nat.le_mul_of_pos_right _ (by omega)
    show (b.fdiv c).natAbs < _
    omega
end AM
set_option Elab.async false
set_option linter.all false
set_option maxRecDepth 100000
set_option maxHeartbeats 1000000
set_option exponentiation.threshold 100
namespace AM
open PySem PySem.Spec PyProof.Rows L2
theorem getD_addAt (acc : List Int) (i j : Nat) (x : Int) (h : i < acc.length) : (addAt acc i x).getD j 0 = if j = i then acc.getD i 0 + x else acc.getD j 0 := by
  unfold addAt
  rw [List.getD_eq_getElem?_getD]
  by_cases e : j = i
  · subst e; rw [List.getElem?_set_self h, if_pos rfl]; rfl
  · rw [List.getElem?_set_ne (Ne.symm e), if_neg e, List.getD_eq_getElem?_getD]
theorem inn_out (a : Int) : ∀ (g acc : List Int) (i j : Nat), i + g.length ≤ acc.length → j < i → (inn acc i a g).getD j 0 = acc.getD j 0
  | [], _, _, _, _, _ => rfl
  | b :: g, acc, i, j, h, hj => by
    rw [List.length_cons] at h
    rw [inn, inn_out a g _ (i + 1) j (by rw [addAt_len]; omega) (by omega), getD_addAt _ _ _ _ (by omega), if_neg (by omega)]
theorem mem_getD {l : List Int} {a : Int} (h : a ∈ l) : ∃ i, i < l.length ∧ l.getD i 0 = a := by
  obtain ⟨i, hi, e⟩ := List.mem_iff_getElem.mp h
  exact ⟨i, hi, by rw [List.getD_eq_getElem?_getD, List.getElem?_eq_getElem hi, e]; rfl⟩
theorem Bd.getD {n : Nat} {l : List Int} (h : Bd n l) (i : Nat) : (l.getD i 0).natAbs < 2 ^ n := by
  rw [List.getD_eq_getElem?_getD]
  cases z : l[i]? with
  | none => exact Nat.pow_pos (by decide)
  | some c => exact h c (List.mem_of_getElem? z)
theorem inn_get (a : Int) : ∀ (g acc : List Int) (i : Nat), i + g.length ≤ acc.length → ∀ j, (inn acc i a g).getD j 0 = acc.getD j 0 ∨ ∃ b ∈ g, (inn acc i a g).getD j 0 = acc.getD j 0 + a * b
  | [], _, _, _, _ => .inl rfl
  | b :: g, acc, i, h, j => by
    rw [List.length_cons] at h
    rw [inn]
    by_cases e : j < i + 1
    · rw [inn_out a g _ (i + 1) j (by rw [addAt_len]; omega) e, getD_addAt _ _ _ _ (by omega)]
      by_cases e2 : j = i
      · rw [if_pos e2]; subst e2; exact .inr ⟨b, List.mem_cons_self, rfl⟩
      · rw [if_neg e2]; exact .inl rfl
    · have hj : (AM.addAt acc i (a * b)).getD j 0 = acc.getD j 0 := by rw [getD_addAt _ _ _ _ (by omega), if_neg (by omega)]
      rcases inn_get a g (AM.addAt acc i (a * b)) (i + 1) (by rw [addAt_len]; omega) j with h2 | ⟨c, hc, h2⟩
      · rw [hj] at h2; exact .inl h2
      · rw [hj] at h2; exact .inr ⟨c, List.mem_cons_of_mem _ hc, h2⟩
theorem Bd.inn {n m : Nat} {acc g : List Int} {i : Nat} {a : Int} (h : Bd n acc) (ha : a.natAbs < 2 ^ n) (hg : Bd m g) (hl : i + g.length ≤ acc.length) : Bd (n + m + 1) (inn acc i a g) := fun c hc => by
  obtain ⟨j, _, e⟩ := mem_getD hc
  rcases inn_get a g acc i hl j with h2 | ⟨b, hb, h2⟩
  · rw [e] at h2; rw [h2]; exact abs_lt_mono (h.getD j) (by omega)
  · rw [e] at h2; rw [h2]
    exact abs_add_lt (abs_lt_mono (h.getD j) (by omega)) (abs_mul_lt ha (hg b hb))
theorem fdiv_abs (a b : Int) : (a.fdiv b).natAbs ≤ a.natAbs := by
  by_cases hb : b = 0
  · subst hb; rw [Int.fdiv_zero]; simp
  · by_cases hp : 0 < b
    · rw [Int.fdiv_eq_ediv_of_nonneg _ (by omega)]
      exact Int.natAbs_ediv_le_natAbs a b
    · have e : a.fdiv b = (-a).fdiv (-b) := (Int.neg_fdiv_neg a b).symm
      rw [e, Int.fdiv_eq_ediv_of_nonneg _ (by omega)]
      have := Int.natAbs_ediv_le_natAbs (-a) (-b)
      rwa [Int.natAbs_neg] at this
end AM
set_option Elab.async false
set_option linter.all false
set_option maxRecDepth 100000
set_option maxHeartbeats 1000000
set_option exponentiation.threshold 100
namespace AM
open PySem PySem.Spec PyProof.Rows L2
def lowZ (a b : Int) : Int × Int := (lowT a b, lowB a b)
theorem lowest_any {a b : Int} (h0 : b ≠ 0) : y_lowest a b = some (lowZ a b) := by
  unfold y_lowest
  refine bstep (greatest_eq a b) (bstep (x := sgcd a b) ?_ ?_)
  · unfold sgcd
    by_cases h : b < 0
    · rw [if_pos h]; exact ite_t (decide_eq_true h) rfl
    · rw [if_neg h]; exact ite_f (decide_eq_false h) rfl
  · exact bstep (fdivQ_eq (sgcd_ne h0)) (bstep (fdivQ_eq (sgcd_ne h0)) rfl)
theorem llow_loop : ∀ (n : Nat) (a b : Nat), b ≤ n → WhileS y__law_low_c1 y__law_low_b1 ((a : Int), (b : Int)) ((Nat.gcd a b : Int), 0) := gcd_loop
theorem law_low_any {a b : Int} (h0 : b ≠ 0) : y__law_low a b = some (lowZ a b) := by
  unfold y__law_low
  refine bstep rfl (bstep rfl (bstep (whileO_iff.mpr (llow_loop _ a.natAbs b.natAbs (Nat.le_refl _))) (bstep (x := sgcd a b) ?_ ?_)))
  · unfold sgcd
    by_cases h : b < 0
    · rw [if_pos h]; exact ite_t (decide_eq_true h) rfl
    · rw [if_neg h]; exact ite_f (decide_eq_false h) rfl
  · exact bstep (fdivQ_eq (sgcd_ne h0)) (bstep (fdivQ_eq (sgcd_ne h0)) rfl)
def Rat' (q : Int × Int) : Prop := 0 < q.2 ∧ Int.gcd q.1 q.2 = 1
theorem low_ex {a b : Int} (h0 : b ≠ 0) : ∃ s u v : Int, sgcd a b = s ∧ s ≠ 0 ∧ a = s * u ∧ b = s * v ∧ 0 < v ∧ Int.gcd u v = 1 := by
  have g0 := gcd_pos (a := a) h0
  obtain ⟨u, hu⟩ : (Int.gcd a b : Int) ∣ a := Int.gcd_dvd_left ..
  obtain ⟨v, hv⟩ : (Int.gcd a b : Int) ∣ b := Int.gcd_dvd_right ..
  have gg : (Int.gcd a b) = (Int.gcd a b) * Int.gcd u v := by
    have : Int.gcd a b = Int.gcd ((Int.gcd a b : Int) * u) ((Int.gcd a b : Int) * v) := by rw [← hu, ← hv]
    rw [Int.gcd_mul_left] at this
    simpa using this
  have g1 : Int.gcd u v = 1 := Nat.eq_of_mul_eq_mul_left g0 (by rw [← gg]; simp)
  unfold sgcd
  generalize Int.gcd a b = g at *
  have hg : (0 : Int) < (g : Int) := by omega
  by_cases h : b < 0
  · rw [if_pos h]
    refine ⟨0 - g, -u, -v, rfl, by omega, by grind, by grind, ?_, ?_⟩
    · rcases Int.lt_or_le v 0 with z | z
      · omega
      · have := Int.mul_nonneg (Int.le_of_lt hg) z; omega
    · rw [Int.neg_gcd, Int.gcd_neg]; exact g1
  · rw [if_neg h]
    refine ⟨g, u, v, rfl, by omega, hu, hv, ?_, g1⟩
    rcases Int.lt_or_le 0 v with z | z
    · exact z
    · have : (g : Int) * v ≤ 0 := Int.mul_nonpos_of_nonneg_of_nonpos (Int.le_of_lt hg) z
      omega
theorem low_rat {a b : Int} (h0 : b ≠ 0) : Rat' (lowZ a b) ∧ (lowZ a b).1 * b = a * (lowZ a b).2 := by
  obtain ⟨s, u, v, e, s0, ha, hb, hv, hg⟩ := low_ex (a := a) h0
  unfold lowZ lowT lowB
  rw [e]
  have e1 : a.fdiv s = u := by rw [ha]; exact Int.mul_fdiv_cancel_left _ s0
  have e2 : b.fdiv s = v := by rw [hb]; exact Int.mul_fdiv_cancel_left _ s0
  rw [e1, e2]
  exact ⟨⟨hv, hg⟩, by show u * b = a * v; rw [ha, hb]; grind⟩
theorem low_abs {a b : Int} (h0 : b ≠ 0) : (lowZ a b).1.natAbs ≤ a.natAbs ∧ (lowZ a b).2.natAbs ≤ b.natAbs := ⟨fdiv_abs _ _, fdiv_abs _ _⟩
theorem wide_spec {n : Int} {b : Bag} (ok : BagOk n b) (hn : n + 3 ≤ 1000000000 := by omega) : ∃ v, y__law_wide b = some v ∧ (-1000000000000000 ≤ v.1 ∧ v.1 ≤ 1000000000000000) ∧ BagOk (n + 3) v.2 := by
  obtain ⟨t, e, ht, okt⟩ := take_spec ok 4
  by_cases h2 : t.1 < 2
  · obtain ⟨u, e2, hu, oku⟩ := int_spec okt
    exact ⟨_, bstep e (ite_t (decide_eq_true h2) (bstep e2 rfl)), by constructor <;> (simp only []; omega), oku.mono (by omega)⟩
  · by_cases h3 : t.1 = 2
    · obtain ⟨u, e2, hu, oku⟩ := take_spec okt 2000000000000001
      exact ⟨_, bstep e (ite_f (decide_eq_false h2) (ite_t (decide_eq_true h3) (bstep (mulC_l (by decide)) (bstep e2 rfl)))), by constructor <;> (simp only []; omega), oku.mono (by omega)⟩
    · obtain ⟨u, e2, hu, oku⟩ := take_spec okt 5
      obtain ⟨x, e3, hx, _⟩ := atI_pos (xs := [(0 : Int), (1 : Int), (-(1 : Int)), (1000000000000000 : Int), ((0 : Int) - (1000000000000000 : Int))]) hu.1 (by simp; omega)
      refine ⟨(x, u.2), bstep e (ite_f (decide_eq_false h2) (ite_f (decide_eq_false h3) (bstep e2 (bstep e3 rfl)))), ?_, oku.mono (by omega)⟩
      simp only [List.mem_cons, List.not_mem_nil, or_false] at hx
      rcases hx with rfl | rfl | rfl | rfl | rfl <;> simp
def oddL : List PyData := [(eU ()), (PyData.bool true), (PyData.bool false), (PyData.str ("" : Str)), (PyData.str ("1" : Str)), (PyData.tuple []), (PyData.list []), ((eT PyData.int) [(1 : Int)]), ((eL PyData.int) [(1 : Int), (1 : Int)]), ((eP PyData.int PyData.int) ((1 : Int), (1 : Int))), ((eP eU PyData.int) ((), (1 : Int)))]
theorem odd_spec {n : Int} {b : Bag} (ok : BagOk n b) (hn : n + 1 ≤ 1000000000 := by omega) : ∃ v, y__law_odd b = some v ∧ v.1 ∈ oddL ∧ BagOk (n + 1) v.2 := by
  obtain ⟨t, e, ht, okt⟩ := take_spec ok 11
  obtain ⟨x, e3, hx, _⟩ := atI_pos (xs := oddL) ht.1 (by show t.1 < 11; omega)
  exact ⟨(x, t.2), bstep e (bstep e3 rfl), hx, okt⟩
end AM
set_option Elab.async false
set_option linter.all false
set_option maxRecDepth 100000
set_option maxHeartbeats 1000000
set_option exponentiation.threshold 100
namespace AM
open PySem PySem.Spec PyProof.Rows L2
theorem okC_eq {τ : Type} {m : Option (Ex τ)} {t : τ} (h : m = some (.ok t)) : okC m = some t := by rw [h]; rfl
theorem Bd.set {n : Nat} {f : List Int} {i : Nat} {x : Int} (h : Bd n f) (hx : x.natAbs < 2 ^ n) : Bd n (f.set i x) := fun a ha => by
  rcases List.mem_or_eq_of_mem_set ha with ha | rfl
  · exact h a ha
  · exact hx
theorem Bd.out {n m : Nat} {g : List Int} (hg : Bd m g) : ∀ (f acc : List Int) (i k : Nat), Bd n f → Bd (n + k * (m + 1)) acc → i + f.length + g.length ≤ acc.length + 1 ∨ f = [] → Bd (n + (k + f.length) * (m + 1)) (out acc i g f)
  | [], acc, i, k, _, hb, _ => hb
  | a :: f, acc, i, k, hf, hb, hl => by
    have hl := hl.resolve_right (List.cons_ne_nil _ _)
    rw [List.length_cons] at hl
    have h1 : Bd (n + k * (m + 1) + m + 1) (AM.inn acc i a g) := hb.inn (abs_lt_mono (hf a List.mem_cons_self) (by omega)) hg (by omega)
    have h2 := Bd.out hg f (AM.inn acc i a g) (i + 1) (k + 1) (fun x hx => hf x (List.mem_cons_of_mem _ hx)) (h1.mono (by rw [Nat.add_mul, Nat.one_mul]; omega)) (.inl (by rw [inn_len]; omega))
    refine h2.mono ?_
    rw [List.length_cons, show k + 1 + f.length = k + (f.length + 1) by omega]
    exact Nat.le_refl _
end AM
set_option Elab.async false
set_option linter.all false
set_option maxRecDepth 100000
set_option maxHeartbeats 1000000
set_option exponentiation.threshold 100
namespace AM
open PySem PySem.Spec PyProof.Rows L2
inductive SimpQ : Int → Int → Int → Int → Int → Int → Prop
  | base {a b c d : Int} : (a.fdiv b + 1) * d < c → SimpQ a b c d (a.fdiv b + 1) 1
  | step {a b c d p q : Int} : ¬ (a.fdiv b + 1) * d < c → SimpQ d (c - a.fdiv b * d) b (a - a.fdiv b * b) p q → SimpQ a b c d (a.fdiv b * p + q) p
theorem fdiv_facts {a b : Int} (ha : 0 ≤ a) (hb : 0 < b) : 0 ≤ a.fdiv b ∧ a.fdiv b * b ≤ a ∧ a < (a.fdiv b + 1) * b ∧ a.fdiv b ≤ a := by
  rw [Int.fdiv_eq_ediv_of_nonneg _ (by omega)]
  have h1 := Int.ediv_nonneg ha (Int.le_of_lt hb)
  have h2 := Int.mul_ediv_self_le (x := a) (k := b) (by omega)
  have h3 := Int.lt_mul_ediv_self_add (x := a) (k := b) hb
  have h4 : a / b ≤ a := Int.ediv_le_self _ ha
  refine ⟨h1, by rw [Int.mul_comm]; exact h2, ?_, h4⟩
  rw [Int.add_mul, Int.one_mul, Int.mul_comm]; exact h3
theorem SimpQ.ok {a b c d p q : Int} (h : SimpQ a b c d p q) : 0 ≤ a → 0 < b → 0 ≤ d → a * d < c * b → (0 < p ∧ 0 < q) ∧ (a * q < p * b ∧ p * d < c * q) ∧ (∀ x y, 0 < y → a * y < x * b → x * d < c * y → p ≤ x ∧ q ≤ y) ∧ Int.gcd p q = 1 := by
  induction h with
  | @base a b c d h =>
    intro ha hb hd hlt
    obtain ⟨f1, f2, f3, _⟩ := fdiv_facts ha hb
    generalize a.fdiv b = n at *
    refine ⟨⟨by omega, by decide⟩, ⟨by omega, by omega⟩, fun x y hy h1 h2 => ⟨?_, by omega⟩, Int.gcd_one⟩
    -- n y b ≤ a y < x b
    have h3 : n * b * y ≤ a * y := Int.mul_le_mul_of_nonneg_right f2 (by omega)
    have h4 : (n * y) * b < x * b := by have : n * b * y = (n * y) * b := by grind
                                        omega
    have h5 : n * y < x := Int.lt_of_mul_lt_mul_right h4 (by omega)
    have h6 : n * 1 ≤ n * y := Int.mul_le_mul_of_nonneg_left (by omega) f1
    omega
  | @step a b c d p q h _ ih =>
    intro ha hb hd hlt
    obtain ⟨f1, f2, f3, _⟩ := fdiv_facts ha hb
    generalize a.fdiv b = n at *
    have e1 : (n + 1) * d = n * d + d := by grind
    have e2 : (n + 1) * b = n * b + b := by grind
    -- c - n d > 0
    have hc : 0 < c - n * d := by
      have h3 : n * b * d ≤ a * d := Int.mul_le_mul_of_nonneg_right f2 hd
      have h4 : (n * d) * b < c * b := by have : n * b * d = (n * d) * b := by grind
                                          omega
      have := Int.lt_of_mul_lt_mul_right h4 (by omega)
      omega
    have hlt' : d * (a - n * b) < b * (c - n * d) := by
      have : b * (c - n * d) - d * (a - n * b) = c * b - a * d := by grind
      omega
    obtain ⟨⟨p0, q0⟩, ⟨g1, g2⟩, g3, g4⟩ := ih hd hc (by omega) hlt'
    have np : 0 ≤ n * p := Int.mul_nonneg f1 (by omega)
    refine ⟨⟨by omega, p0⟩, ⟨?_, ?_⟩, fun x y hy h1 h2 => ?_, ?_⟩
    · have : (n * p + q) * b - a * p = b * q - p * (a - n * b) := by grind
      omega
    · have : c * p - (n * p + q) * d = p * (c - n * d) - d * q := by grind
      omega
    · -- x between n y and (n + 1) y
      have hz : 0 < x - n * y := by
        have h3 : n * b * y ≤ a * y := Int.mul_le_mul_of_nonneg_right f2 (by omega)
        have h4 : (n * y) * b < x * b := by have : n * b * y = (n * y) * b := by grind
                                            omega
        have := Int.lt_of_mul_lt_mul_right h4 (by omega)
        omega
      obtain ⟨k1, k2⟩ := g3 y (x - n * y) hz (by
        have : y * (c - n * d) - d * (x - n * y) = c * y - x * d := by grind
        omega) (by
        have : b * (x - n * y) - y * (a - n * b) = x * b - a * y := by grind
        omega)
      refine ⟨?_, k1⟩
      have : n * p ≤ n * y := Int.mul_le_mul_of_nonneg_left k1 f1
      omega
    · rw [show n * p + q = q + p * n by grind, Int.gcd_comm, Int.gcd_add_mul_left_right, g4]
theorem low_id {p q : Int} (h : Int.gcd p q = 1) (hq : 0 < q) : lowZ p q = (p, q) := by
  unfold lowZ lowT lowB sgcd
  rw [if_neg (by omega), h]
  simp
def Lt' (q r : Int × Int) : Prop := q.1 * r.2 < r.1 * q.2
structure Simplest (low high s : Int × Int) : Prop where
  rat : Rat' s
  lo : Lt' low s
  hi : Lt' s high
  least : ∀ x y : Int, 0 < y → Lt' low (x, y) → Lt' (x, y) high → s.2 ≤ y ∧ s.1.natAbs ≤ x.natAbs
structure Pth (M : Int) (a b : Int × Int) : Prop where
  det : b.1 * a.2 - a.1 * b.2 = 1
  a0 : 0 ≤ a.1 ∧ a.1 ≤ M
  a2 : 0 < a.2 ∧ a.2 ≤ M
  b0 : 0 ≤ b.1 ∧ b.1 ≤ M
  b2 : 0 < b.2 ∧ b.2 ≤ M
theorem gcd_det {a b c d : Int} (h : b * c - a * d = 1) : Int.gcd a c = 1 ∧ Int.gcd b d = 1 := by
  constructor
  · have h1 : (Int.gcd a c : Int) ∣ a := Int.gcd_dvd_left ..
    have h2 : (Int.gcd a c : Int) ∣ c := Int.gcd_dvd_right ..
    have : (Int.gcd a c : Int) ∣ 1 := by rw [← h]; exact Int.dvd_sub (Int.dvd_mul_of_dvd_right h2) (Int.dvd_mul_of_dvd_left h1)
    have := Int.eq_one_of_dvd_one (by omega) this
    omega
  · have h1 : (Int.gcd b d : Int) ∣ b := Int.gcd_dvd_left ..
    have h2 : (Int.gcd b d : Int) ∣ d := Int.gcd_dvd_right ..
    have : (Int.gcd b d : Int) ∣ 1 := by rw [← h]; exact Int.dvd_sub (Int.dvd_mul_of_dvd_left h1) (Int.dvd_mul_of_dvd_right h2)
    have := Int.eq_one_of_dvd_one (by omega) this
    omega
theorem Pth.rat {M : Int} {a b : Int × Int} (h : Pth M a b) : Rat' a ∧ Rat' b := ⟨⟨h.a2.1, (gcd_det h.det).1⟩, ⟨h.b2.1, (gcd_det h.det).2⟩⟩
theorem Simplest.neg {a b s : Int × Int} (S : Simplest a b s) : Simplest (0 - b.1, b.2) (0 - a.1, a.2) (0 - s.1, s.2) where
  rat := ⟨S.rat.1, by show Int.gcd (0 - s.1) s.2 = 1; rw [Int.zero_sub, Int.neg_gcd]; exact S.rat.2⟩
  lo := by
    have : s.1 * b.2 < b.1 * s.2 := S.hi
    show (0 - b.1) * s.2 < (0 - s.1) * b.2
    have e1 : (0 - b.1) * s.2 = -(b.1 * s.2) := by grind
    have e2 : (0 - s.1) * b.2 = -(s.1 * b.2) := by grind
    omega
  hi := by
    have : a.1 * s.2 < s.1 * a.2 := S.lo
    show (0 - s.1) * a.2 < (0 - a.1) * s.2
    have e1 : (0 - a.1) * s.2 = -(a.1 * s.2) := by grind
    have e2 : (0 - s.1) * a.2 = -(s.1 * a.2) := by grind
    omega
  least := fun x y hy h1 h2 => by
    have h1 : (0 - b.1) * y < x * b.2 := h1
    have h2 : x * a.2 < (0 - a.1) * y := h2
    have := S.least (0 - x) y hy (by
      show a.1 * y < (0 - x) * a.2
      have e1 : (0 - a.1) * y = -(a.1 * y) := by grind
      have e2 : (0 - x) * a.2 = -(x * a.2) := by grind
      omega) (by
      show (0 - x) * b.2 < b.1 * y
      have e1 : (0 - b.1) * y = -(b.1 * y) := by grind
      have e2 : (0 - x) * b.2 = -(x * b.2) := by grind
      omega)
    refine ⟨this.1, ?_⟩
    have h3 := this.2
    show (0 - s.1).natAbs ≤ _
    omega
theorem dvd_cop {a b c : Int} (h : a ∣ b * c) (hg : Int.gcd b a = 1) : a ∣ c := by
  have h1 : a.natAbs ∣ b.natAbs * c.natAbs := by rw [← Int.natAbs_mul]; exact Int.natAbs_dvd_natAbs.mpr h
  have h2 : Nat.Coprime a.natAbs b.natAbs := by rw [Nat.coprime_comm]; exact hg
  exact Int.natAbs_dvd_natAbs.mp (Nat.Coprime.dvd_of_dvd_mul_left h2 h1)
theorem rat_eq {q r : Int × Int} (hq : Rat' q) (hr : Rat' r) (h : q.1 * r.2 = r.1 * q.2) : q = r := by
  have d1 : q.2 ∣ r.2 := by
    have : q.2 ∣ q.1 * r.2 := ⟨r.1, by rw [h, Int.mul_comm]⟩
    exact dvd_cop this hq.2
  have d2 : r.2 ∣ q.2 := by
    have : r.2 ∣ r.1 * q.2 := ⟨q.1, by rw [← h, Int.mul_comm]⟩
    exact dvd_cop this hr.2
  have q0 := hq.1
  have r0 := hr.1
  have l1 := Int.le_of_dvd r0 d1
  have l2 := Int.le_of_dvd q0 d2
  have e : q.2 = r.2 := by omega
  rw [e] at h
  exact Prod.ext (Int.eq_of_mul_eq_mul_right (by omega) h) e
end AM
set_option Elab.async false
set_option linter.all false
set_option maxRecDepth 100000
set_option maxHeartbeats 1000000
set_option exponentiation.threshold 400
namespace AM
open PySem PySem.Spec PyProof.Rows L2
abbrev nm3 (q : Int × Int) : Rl := ([0 - q.1, q.2], 0, (q, q))
theorem eqC_int (a b : Int) : eqC (PyData.int a) (PyData.int b) = some (decide (a = b)) := by
  unfold eqC
  rw [if_pos ⟨shE_int.sh _, shE_int.sh _⟩, eqE_int.eq]
theorem numberX_eq {a b : Int} (hb : b ≠ 0) : y_numberX (.int a) (.int b) = some (.ok (nm3 (lowZ a b))) := by
  have e2 : eqC (PyData.int b) (PyData.int 0) = some false := by rw [eqC_int, decide_eq_false hb]
  have e : y_ratio (.int a) (.int b) = some (.ok (lowZ a b)) := bstep (x := true) rfl (bstep (x := false) (ite_f rfl (bstep (x := true) rfl (bstep (x := false) (ite_f rfl (bstep e2 rfl)) rfl))) (ite_f rfl (bstep rfl (bstep rfl (bstep (lowest_any hb) rfl)))))
  exact bstep e rfl
theorem low_selfR {q : Int × Int} (hq : Rat' q) : lowZ q.1 q.2 = q := low_id hq.2 hq.1
theorem rat_one (a : Int) : Rat' (a, 1) := ⟨Int.zero_lt_one, by show Int.gcd a 1 = 1; exact Int.gcd_one⟩
theorem key_eq (q : Int × Int) : y__law_key (nm3 q) = some (some ([0 - q.1, q.2], 0)) := by
  refine bstep (x := false) (ite_f rfl (bstep (x := false) (ite_f rfl (bstep (x := true) rfl rfl)) rfl)) (ite_f rfl (bstep (x := ([] : List Int)) rfl rfl))
theorem pl_key (a b : Int) : pl 12 (eP (eP PyData.int PyData.int) PyData.int ((a, b), 0)) := by
  refine ⟨by simp, fun d m => ?_⟩
  simp only [List.mem_cons, List.not_mem_nil, or_false] at m
  rcases m with rfl | rfl
  · exact pl_ints 10 (ns := [a, b]) (by simp)
  · trivial
theorem emp_cat (a : Str) : Str.empty ++ a = a := by
  show (⟨#[] ++ a.cps⟩ : Str) = a
  rw [Array.empty_append]
theorem ok_of (s : String) : PyData.strOk (Str.ofString s) = true := by
  rw [Str.ofString_eq_toList]
  unfold PyData.strOk
  simp only [List.all_toArray, List.all_map, List.all_eq_true]
  intro c _
  refine decide_eq_true ?_
  have h : c.toNat < 0xd800 ∨ (0xdfff < c.toNat ∧ c.toNat < 0x110000) := c.valid
  omega
theorem ok_cat {a b : Str} (ha : PyData.strOk a = true) (hb : PyData.strOk b = true) : PyData.strOk (a ++ b) = true := by
  show (a.cps ++ b.cps).all _ = true
  rw [Array.all_append]
  exact Bool.and_eq_true_iff.mpr ⟨ha, hb⟩
theorem strC_len {i : Int} (h : i.natAbs < 2 ^ 60) : ∃ s, strC i = some s ∧ s.length ≤ 70 ∧ PyData.strOk s = true := by
  refine ⟨_, if_pos ?_, ?_, ok_of _⟩
  · rcases Nat.eq_zero_or_pos i.natAbs with h0 | hp
    · rw [h0]; decide
    · exact Nat.lt_of_lt_of_le ((Nat.log2_lt (Nat.ne_of_gt hp)).mpr h) (by decide)
  · rw [PySem.ofString_length]
    exact Nat.le_trans (PySem.int_text_length_le (k := 60) (by decide) (by
      rcases Nat.eq_zero_or_pos i.natAbs with h0 | hp
      · rw [h0]; decide
      · exact (Nat.log2_lt (Nat.ne_of_gt hp)).mpr h)) (by decide)
theorem join3G {a b c : Str} (h : a.length + b.length + c.length ≤ 1000) : joinC Str.empty [a, b, c] = some (a ++ b ++ c) := by
  have e0 : catS Str.empty a = some a := by
    unfold catS
    rw [if_pos (by show 0 + a.length ≤ _; omega), emp_cat]
  have e1 : catS a b = some (a ++ b) := if_pos (by omega)
  have e2 : catS (a ++ b) c = some (a ++ b ++ c) := if_pos (by rw [PySem.strLen_append]; omega)
  exact bstep e0 (bstep e1 (bstep e2 rfl))
theorem odd_ratio {d : PyData} (hd : d ∈ oddL) (x : PyData) : y_ratio d x = some (.ex .NoRatio) := by
  have : y_is_whole d = some false := by
    simp only [oddL, List.mem_cons, List.not_mem_nil, or_false] at hd
    rcases hd with rfl | rfl | rfl | rfl | rfl | rfl | rfl | rfl | rfl | rfl | rfl <;> rfl
  exact bstep this (bstep (x := true) (ite_t rfl rfl) (ite_t rfl rfl))
theorem odd_ratio2 {d : PyData} (hd : d ∈ oddL) (a : Int) : y_ratio (.int a) d = some (.ex .NoRatio) := by
  have : y_is_whole d = some false := by
    simp only [oddL, List.mem_cons, List.not_mem_nil, or_false] at hd
    rcases hd with rfl | rfl | rfl | rfl | rfl | rfl | rfl | rfl | rfl | rfl | rfl <;> rfl
  exact bstep (x := true) rfl (bstep (x := true) (ite_f rfl (bstep this (bstep (x := true) (ite_t rfl rfl) rfl))) (ite_t rfl rfl))
theorem ratio_zero (a : Int) : y_ratio (.int a) (.int 0) = some (.ex .NoRatio) := by
  have e2 : eqC (PyData.int 0) (PyData.int 0) = some true := by rw [eqC_int]; rfl
  exact bstep (x := true) rfl (bstep (x := true) (ite_f rfl (bstep (x := true) rfl (bstep (x := true) (ite_f rfl (bstep e2 rfl)) rfl))) (ite_t rfl rfl))
theorem pl_S (n : Nat) (s : Str) (h : PyData.strOk s = true) : pl n (.str s) := pl_str n s (by simp [PyData.canLay0, h])
theorem pl_ref : sameC (.tuple [.str "refused", .str "NoRatio"]) (eP PyData.str PyData.str (("refused" : Str), ("NoRatio" : Str))) = some true := by
  refine sameC_refl ⟨by simp, fun d m => ?_⟩
  simp only [List.mem_cons, List.not_mem_nil, or_false] at m
  rcases m with rfl | rfl <;> exact pl_S _ _ (ok_of _)
theorem sameB (v w : Bool) (h : v = w) : sameC (PyData.bool v) (PyData.bool w) = some true := by
  subst h; exact sameC_refl trivial
theorem nm_eq (q r : Int × Int) : (decide ((nm3 q).1 = (nm3 r).1) && decide ((nm3 q).2.1 = (nm3 r).2.1)) = decide (q = r) := by
  show (decide ([0 - q.1, q.2] = [0 - r.1, r.2]) && decide ((0 : Int) = 0)) = _
  rw [decide_eq_true (rfl : (0 : Int) = 0), Bool.and_true]
  refine decide_eq_decide.mpr ⟨fun h => ?_, fun h => by rw [h]⟩
  have h1 := (List.cons.inj h).1
  have h2 := (List.cons.inj (List.cons.inj h).2).1
  exact Prod.ext (by omega) h2
theorem m_law_k23 (rC : Addr) (b : Bag) (ok : BagOk 100000 b) : y_law_k23 rC b = some (.nx ()) := by
  obtain ⟨t, e, ht, ok0⟩ := wide_spec ok
  obtain ⟨t1, e1, ht1, ok1⟩ := wide_spec ok0
  obtain ⟨t2, e2, ht2, ok2⟩ := take_spec ok1 12
  obtain ⟨t3, e3, ht3, ok3⟩ := take_spec ok2 2
  obtain ⟨t4, e4, h4⟩ : ∃ c, atI [t1.1, 1 + t2.1] t3.1 = some c ∧ c.natAbs ≤ 1000000000000000 := by
    have : t3.1 = 0 ∨ t3.1 = 1 := by omega
    rcases this with z | z <;> rw [z]
    · exact ⟨_, rfl, by omega⟩
    · exact ⟨_, rfl, by omega⟩
  obtain ⟨vb, evb⟩ : ∃ vb, vb = (if decide (t4 = (0 : Int)) = true then (1 : Int) else t4) := ⟨_, rfl⟩
  have vb0 : vb ≠ 0 ∧ vb.natAbs ≤ 1000000000000000 := by
    rw [evb]
    by_cases h : t4 = 0
    · rw [if_pos (decide_eq_true h)]; exact ⟨by decide, by decide⟩
    · rw [if_neg (by rw [decide_eq_false h]; decide)]; exact ⟨h, h4⟩
  obtain ⟨lr, lv⟩ := low_rat (a := t.1) vb0.1
  have la := low_abs (a := t.1) vb0.1
  have el := law_low_any (a := t.1) vb0.1
  have en := numberX_eq (a := t.1) vb0.1
  obtain ⟨q, hq⟩ : ∃ q, q = lowZ t.1 vb := ⟨_, rfl⟩
  rw [← hq] at lr lv la el en
  have l1 : lowZ t.1 1 = (t.1, 1) := low_selfR (rat_one t.1)
  have en1 := numberX_eq (a := t.1) (b := 1) (by decide)
  rw [l1] at en1
  have q0 := lr.1
  have q0' : q.2 ≠ 0 := by omega
  have qb1 : q.1.natAbs < 2 ^ 60 := Nat.lt_of_le_of_lt (show _ ≤ 1000000000000000 by omega) (by decide)
  have qb2 : q.2.natAbs < 2 ^ 60 := Nat.lt_of_le_of_lt (show _ ≤ 1000000000000000 by omega) (by decide)
  obtain ⟨s1, es1, ls1, os1⟩ := strC_len qb1
  obtain ⟨s2, es2, ls2, os2⟩ := strC_len qb2
  -- the text
  have lsl : ("/" : Str).length = 1 := by decide
  obtain ⟨tx, etx, ety, ltx, oktx⟩ : ∃ tx : Str, (if (decide (q.2 = (1 : Int))) = true then (Option.bind (strC q.1) fun t13 => some t13) else (Option.bind (strC q.1) fun t14 => Option.bind (catS t14 ("/" : Str)) fun t15 => Option.bind (strC q.2) fun t16 => Option.bind (catS t15 t16) fun t17 => some t17)) = some tx ∧ y_ratio_text q = some tx ∧ tx.length ≤ 1000 ∧ PyData.strOk tx = true := by
    by_cases h : q.2 = 1
    · exact ⟨s1, ite_t (decide_eq_true h) (bstep es1 rfl), bstep (ite_t (decide_eq_true h) (bstep es1 rfl)) rfl, by omega, os1⟩
    · have c1 : catS s1 ("/" : Str) = some (s1 ++ ("/" : Str)) := if_pos (by omega)
      have c2 : catS (s1 ++ ("/" : Str)) s2 = some (s1 ++ ("/" : Str) ++ s2) := if_pos (by rw [PySem.strLen_append]; omega)
      refine ⟨s1 ++ ("/" : Str) ++ s2, ite_f (decide_eq_false h) (bstep es1 (bstep c1 (bstep es2 (bstep c2 rfl)))), bstep (ite_f (decide_eq_false h) (bstep es1 (bstep es2 (bstep (join3G (by omega)) rfl)))) rfl, by rw [PySem.strLen_append, PySem.strLen_append]; omega, ok_cat (ok_cat os1 (ok_of _)) os2⟩
  have el2 : y_lowest (0 - (0 - q.1)) q.2 = some q := by rw [show 0 - (0 - q.1) = q.1 by omega, lowest_any q0', low_selfR lr]
  have estr : y_Real___str__ (nm3 q) = some tx := by
    refine bstep (show y_real_text (nm3 q) = some tx from ?_) (bstep (show fitS tx = some tx from if_pos (by omega)) rfl)
    exact bstep (show y_degree_of [0 - q.1, q.2] = some 1 from rfl) (ite_t rfl (bstep (show atI [0 - q.1, q.2] 0 = some (0 - q.1) from rfl) (bstep (show atI [0 - q.1, q.2] 1 = some q.2 from rfl) (bstep el2 (bstep ety rfl)))))
  -- three times
  have en3 := numberX_eq (a := 3 * q.1) (b := 3 * q.2) (by omega)
  have l3 : lowZ (3 * q.1) (3 * q.2) = q := by
    obtain ⟨r1, r2⟩ := low_rat (a := 3 * q.1) (b := 3 * q.2) (by omega)
    refine rat_eq r1 lr ?_
    have : (lowZ (3 * q.1) (3 * q.2)).1 * (3 * q.2) = 3 * ((lowZ (3 * q.1) (3 * q.2)).1 * q.2) := by grind
    have : 3 * q.1 * (lowZ (3 * q.1) (3 * q.2)).2 = 3 * (q.1 * (lowZ (3 * q.1) (3 * q.2)).2) := by grind
    omega
  rw [l3] at en3
  obtain ⟨t26, e26, ht26, ok26⟩ := wide_spec ok3
  obtain ⟨t27, e27, ht27, ok27⟩ := take_spec ok26 3
  obtain ⟨c, ec, hc⟩ : ∃ c, atI [t26.1, t.1, t.1 + 1] t27.1 = some c ∧ c.natAbs ≤ 1000000000000001 := by
    have : t27.1 = 0 ∨ t27.1 = 1 ∨ t27.1 = 2 := by omega
    rcases this with z | z | z <;> rw [z] <;> exact ⟨_, rfl, by omega⟩
  have enc := numberX_eq (a := c) q0'
  have elc := law_low_any (a := c) q0'
  have enc1 := numberX_eq (a := c) (b := 1) (by decide)
  rw [show lowZ c 1 = (c, 1) from low_selfR (rat_one c)] at enc1
  obtain ⟨o, eo, ho, ok28⟩ := odd_spec ok27
  have ref : ∀ x y, y_ratio x y = some (.ex .NoRatio) → y_numberX x y = some (.ex .NoRatio) := fun x y h => bstep h rfl
  unfold y_law_k23
  refine bstep e (bstep e1 (bstep e2 (bstep e3 (bstep e4 (bstep (x := vb) (by rw [evb]) (bstep el (bstep (okC_eq en) (bstep (key_eq q) (bstep (x := true) (sameC_refl (pl_key _ _)) ?_)))))))))
  refine bstep (x := false) (ite_f rfl (bstep (okC_eq en1) (bstep (key_eq (t.1, 1)) (bstep (x := true) (sameC_refl (pl_key _ _)) rfl)))) (ite_f rfl ?_)
  refine bstep etx (bstep estr (bstep (x := true) (sameC_refl (pl_S _ _ oktx)) ?_))
  refine bstep (x := false) (ite_f rfl (bstep (mulC_l (by decide)) (bstep (mulC_l (by decide)) (bstep (okC_eq en3) (bstep (sameB _ _ (by rw [nm_eq]; exact decide_eq_true rfl)) rfl))))) (ite_f rfl ?_)
  refine bstep e26 (bstep e27 (bstep ec (bstep rfl (bstep (okC_eq enc) (bstep (x := c) rfl (bstep elc (bstep (sameB _ _ ?_) ?_)))))))
  · rw [nm_eq]
    exact decide_eq_decide.mpr ⟨fun h => h.symm, fun h => h.symm⟩
  have eqc : eqC (eP eD PyData.int (.int c, (1 : Int))) (eP PyData.int PyData.int q) = some (decide ((c, (1 : Int)) = q)) := by
    show eqC (eP PyData.int PyData.int (c, (1 : Int))) (eP PyData.int PyData.int q) = _
    unfold eqC
    rw [if_pos ⟨(ShE.P shE_int shE_int).sh _ (by decide), (ShE.P shE_int shE_int).sh _ (by decide)⟩, (EqE.P eqE_int eqE_int).eq]
  refine bstep (x := false) (ite_f rfl (bstep (okC_eq enc1) (bstep eqc (bstep (sameB _ _ ?_) rfl)))) (ite_f rfl ?_)
  · rw [nm_eq]
    exact decide_eq_decide.mpr ⟨fun h => h.symm, fun h => h.symm⟩
  refine bstep (x := .nx ()) ?_ ?_
  · have one : ∀ x, eqND x = some false → y_law_k23_b1 rC (nm3 q) () x = some (.nx ()) := fun x h => bstep h (bstep (sameB _ _ rfl) (ite_f rfl rfl))
    refine bstep (one _ rfl) (bstep (one _ rfl) (bstep (one _ rfl) (bstep (one _ rfl) (bstep (one _ rfl) (bstep (one _ rfl) rfl)))))
  refine bstep eo (bstep (x := .nx ()) ?_ ?_)
  · have one : ∀ x : PyData × PyData, y_ratio x.1 x.2 = some (.ex .NoRatio) → y_law_k23_b2 rC () x = some (.nx ()) := fun x h => bstep (ref _ _ h) (bstep (x := .tuple [.str "refused", .str "NoRatio"]) rfl (bstep pl_ref (ite_f rfl rfl)))
    refine bstep (one _ (odd_ratio ho _)) (bstep (one _ (odd_ratio2 ho _)) (bstep (one _ (ratio_zero _)) (bstep (one _ (odd_ratio ho _)) rfl)))
  exact bstep (ref _ _ (odd_ratio ho _)) (bstep (x := .tuple [.str "refused", .str "NoRatio"]) rfl (bstep pl_ref (ite_f rfl rfl)))
end AM
set_option Elab.async false
set_option linter.all false
set_option maxRecDepth 100000
set_option maxHeartbeats 4000000
namespace LW
open PySem PySem.Spec PyProof.Rows L2 AM
section
variable {a_RootError a_NoSuch a_NoRatio a_Real : Addr}
section
variable {cl : Xn → Addr} {rC : Addr}
section
variable {P : Program} {w : World} {K : PySem.W.Frag} {mg : Str → Option Value} {base : Heap} {k : Nat} {T : List (Addr × Str)}
theorem sc_greatest : FnScope ["one", "other"] ["one", "other"] (defScope s_greatest) := ⟨rfl, rfl, rfl, by decide +kernel, rfl, by decide +kernel, by decide +kernel⟩
theorem c_greatest (D : Def K mg "greatest" s_greatest ["one", "other"]) (B : Bt mg) : Cal P w K mg base (k + 1) "greatest" ["one", "other"] (spP K (RY2 PyData.int PyData.int PyData.int y_greatest))  := by
  refine cal_pure D sc_greatest (fun ds r h => ?_) (by decide) (fun f cdv A outer s H G E ds r hr h => ?_)
  · obtain ⟨_, _, _, rfl, _⟩ := h; rfl
  · obtain ⟨v_one, v_other, v, rfl, h, rfl⟩ := h
    refine ds_to (Γ := [.dat (PyData.int v_one), .dat (PyData.int v_other)]) ?_ rfl
    obtain ⟨v_one1, e_v_one1, h⟩ := bs h
    refine y_set (en := PyData.int) (v := (v_one.natAbs : Int)) 0 (sm e_v_one1) (de_abs (de_var 0) B.abs) ?_ sc_greatest.nd
    obtain ⟨v_other1, e_v_other1, h⟩ := bs h
    refine y_set (en := PyData.int) (v := (v_other.natAbs : Int)) 1 (sm e_v_other1) (de_abs (de_var 1) B.abs) ?_ sc_greatest.nd
    obtain ⟨r, e_r, h⟩ := bs h
    refine y_while (fun s : Int × Int => [.dat (PyData.int s.1), .dat (PyData.int s.2)]) _ _ e_r (passes_of rfl) (fun s v h => by exact y_t (dt_neI (de_var 1) de_int) (sm h)) (fun s s' h => ?_) ?_
    · clear e_r
      obtain ⟨t, e_t, h⟩ := bs h
      refine ds_par 0 1 (da_cons (de_var 1) (da_cons (y_mod (de_var 0) (de_var 1) e_t) da_nil)) ?_ sc_greatest.nd
      have h := sm h
      subst h
      exact ds_nil rfl
    exact ds_ret (d := (PyData.int r.1)) (de_var 0) (by
      have h := sm h
      subst h
      exact rfl)
theorem sc_is_whole : FnScope ["thing"] ["thing"] (defScope s_is_whole) := ⟨rfl, rfl, rfl, by decide +kernel, rfl, by decide +kernel, by decide +kernel⟩
def R_is_whole : List PyData → Res → Prop := fun ds r => ∃ d, ds = [d] ∧ r = .ok (.bool (isWhole d))
theorem c_is_whole (D : Def K mg "is_whole" s_is_whole ["thing"]) (B : Bt mg) : Cal P w K mg base (k + 1) "is_whole" ["thing"] (spP K R_is_whole) := by
  refine cal_pure D sc_is_whole (fun ds r h => ?_) (by decide) (fun f cdv A outer s H G E ds r hr h => ?_)
  · obtain ⟨d, rfl, _⟩ := h; rfl
  · obtain ⟨d, rfl, rfl⟩ := h
    refine ds_ret (de_and (de_isiI B (de_var 0)) fun _ => de_one (de_not (de_isiB B (de_var 0)))) ?_
    show PyData.bool _ = .bool _
    rw [isWhole_eq]
theorem ad_is_whole {d : PyData} {v : Bool} (h : y_is_whole d = some v) : R_is_whole [d] (.ok (.bool v)) := ⟨d, rfl, by cases h; rfl⟩
theorem sc_lowest : FnScope ["top", "bottom", "part"] ["top", "bottom"] (defScope s_lowest) := ⟨rfl, rfl, rfl, by decide +kernel, rfl, by decide +kernel, by decide +kernel⟩
theorem c_lowest (D : Def K mg "lowest" s_lowest ["top", "bottom"]) (Bg : Big P base) (C_greatest : Cal P w K mg base k "greatest" ["one", "other"] (spP K (RY2 PyData.int PyData.int PyData.int y_greatest))) : Cal P w K mg base (k + 34) "lowest" ["top", "bottom"] (spP K (RY2 PyData.int PyData.int (eP PyData.int PyData.int) y_lowest))  := by
  refine cal_pure (k := k + 33) D sc_lowest (fun ds r h => ?_) (by decide) (fun f cdv A outer s H G E ds r hr h => ?_)
  · obtain ⟨_, _, _, rfl, _⟩ := h; rfl
  · obtain ⟨v_top, v_bottom, v, rfl, h, rfl⟩ := h
    refine ds_to (Γ := [.dat (PyData.int v_top), .dat (PyData.int v_bottom), .no]) ?_ rfl
    have hr0 := hr.mono (show k ≤ k + 33 by omega)
    obtain ⟨t, e_t, h⟩ := bs h
    refine y_set (en := PyData.int) (v := t) 2 rfl (dc C_greatest hr0 (da_cons (de_var 0) (da_cons (de_var 1) da_nil)) ⟨_, _, _, rfl, e_t, rfl⟩) ?_ sc_lowest.nd
    obtain ⟨j, e_j, h⟩ := bs h
    refine ds_cut (fun Γ => Γ = [.dat (PyData.int v_top), .dat (PyData.int v_bottom), .dat (PyData.int j)]) (fun Γ hJ => ?_) (fun tail => ?_)
    rotate_left
    · have h := e_j
      refine ds_if (dt_lt (de_var 1) de_int) (fun hc => ?_) (fun hc => ?_)
      · have h := ifT h hc
        obtain ⟨v_part, e_v_part, h⟩ := bs h
        refine y_set (en := PyData.int) (v := ((0 : Int) - t)) 2 (sm e_v_part) (de_sub de_int (de_var 2)) ?_ sc_lowest.nd
        have h := sm h
        subst h
        exact ds_skip (tail _ rfl)
      · have h := ifF h hc
        have h := sm h
        subst h
        exact ds_skip (tail _ rfl)
    subst hJ
    obtain ⟨t1, e_t1, h⟩ := bs h
    obtain ⟨t2, e_t2, h⟩ := bs h
    exact ds_ret (d := ((eP PyData.int PyData.int) (t1, t2))) (y_tup (ds := [(PyData.int t1), (PyData.int t2)]) (da_cons (y_fdivQ (de_var 0) (de_var 2) e_t1 Bg hr) (da_cons (y_fdivQ (de_var 1) (de_var 2) e_t2 Bg hr) da_nil))) (by
      have h := sm h
      subst h
      exact rfl)
theorem sc_ratio : FnScope ["top", "bottom"] ["top", "bottom"] (defScope s_ratio) := ⟨rfl, rfl, rfl, by decide +kernel, rfl, by decide +kernel, by decide +kernel⟩
theorem c_ratio (D : Def K mg "ratio" s_ratio ["top", "bottom"]) (X_NoRatio : Xcl K mg "NoRatio" (cl .NoRatio)) (C_is_whole : Cal P w K mg base k "is_whole" ["thing"] (spP K R_is_whole)) (C_lowest : Cal P w K mg base k "lowest" ["top", "bottom"] (spP K (RY2 PyData.int PyData.int (eP PyData.int PyData.int) y_lowest))) : Cal P w K mg base (k + 1) "ratio" ["top", "bottom"] (spP K (RX2 cl eD eD (eP PyData.int PyData.int) y_ratio))  := by
  refine cal_pure D sc_ratio (fun ds r h => ?_) (by decide) (fun f cdv A outer s H G E ds r hr h => ?_)
  · obtain ⟨_, _, _, rfl, _⟩ := h; rfl
  · obtain ⟨v_top, v_bottom, v, rfl, h, rfl⟩ := h
    refine ds_to (Γ := [.dat v_top, .dat v_bottom]) ?_ rfl
    obtain ⟨t, e_t, h⟩ := bs h
    obtain ⟨t4, e_t4, h⟩ := bs h
    refine ds_if (PW.pt (y_wor (w := t4) (dt_not (dt_b (dc C_is_whole hr (da_cons (de_var 0) da_nil) (ad_is_whole e_t)))) (fun hk => by have h := ifF e_t4 hk; obtain ⟨t1, e_t1, h⟩ := bs h; obtain ⟨t3, e_t3, h⟩ := bs h; have h := sm h; subst h; exact (y_wor (w := t3) (dt_not (dt_b (dc C_is_whole hr (da_cons (de_var 1) da_nil) (ad_is_whole e_t1)))) (fun hk => by have h := ifF e_t3 hk; obtain ⟨t2, e_t2, h⟩ := bs h; have h := sm h; subst h; exact (dw_or1 (y_teqQ (da := v_bottom) (db := (PyData.int (0 : Int))) hr (de_var 1) de_int e_t2))) (fun hk => ⟨(sm (ifT e_t3 hk)).symm, rfl⟩))) (fun hk => ⟨(sm (ifT e_t4 hk)).symm, rfl⟩))) (fun hc => ?_) (fun hc => ?_)
    · have h := ifT h hc
      exact ds_raise X_NoRatio (takes_of rfl rfl rfl rfl) (by
        have h := sm h
        subst h
        exact rfl)
    · have h := ifF h hc
      refine ds_nil ?_
      obtain ⟨t5, e_t5, h⟩ := bs h
      obtain ⟨t6, e_t6, h⟩ := bs h
      obtain ⟨t7, e_t7, h⟩ := bs h
      exact ds_ret (d := ((eP PyData.int PyData.int) t7)) (dc C_lowest hr (da_cons (cast_as (de_var 0) (asI_eq e_t5)) (da_cons (cast_as (de_var 1) (asI_eq e_t6)) da_nil)) ⟨_, _, _, rfl, e_t7, rfl⟩) (by
        have h := sm h
        subst h
        exact rfl)
theorem sc_degree_of : FnScope ["poly"] ["poly"] (defScope s_degree_of) := ⟨rfl, rfl, rfl, by decide +kernel, rfl, by decide +kernel, by decide +kernel⟩
theorem c_degree_of (D : Def K mg "degree_of" s_degree_of ["poly"]) (B : Bt mg) : Cal P w K mg base (k + 1) "degree_of" ["poly"] (spP K (RY1 (eT PyData.int) PyData.int y_degree_of))  := by
  refine cal_pure D sc_degree_of (fun ds r h => ?_) (by decide) (fun f cdv A outer s H G E ds r hr h => ?_)
  · obtain ⟨_, _, rfl, _⟩ := h; rfl
  · obtain ⟨v_poly, v, rfl, h, rfl⟩ := h
    refine ds_to (Γ := [.dat ((eT PyData.int) v_poly)]) ?_ rfl
    exact ds_ret (d := (PyData.int ((v_poly.length : Int) - (1 : Int)))) (de_sub (y_len (xs := v_poly) (en := PyData.int) (de_var 0) B) de_int) (by
      have h := sm h
      subst h
      exact rfl)
theorem sc_Real___eq__ : FnScope ["self", "other"] ["self", "other"] (defScope s_Real___eq__) := ⟨rfl, rfl, rfl, by decide +kernel, rfl, by decide +kernel, by decide +kernel⟩
theorem c_Real___eq__ (D : DefM K rC "__eq__" "Real.__eq__" s_Real___eq__ ["self", "other"]) (B : Bt mg) (O : RCl P w K mg base k rC) (Rq : RQ K rC) : CalM P w K mg base (k + 1) rC "__eq__" ["self", "other"] (spP K (REqX rC)) := by
  refine calM_pure D sc_Real___eq__ (fun ds r h => ?_) (by decide) (fun f cdv A outer s H G E ds r hr h => ?_)
  · cases h <;> rfl
  · cases h with
    | @rr v_self v_other v h =>
      refine ds_to (Γ := [.dat ((eR rC) v_self), .dat ((eR rC) v_other)]) ?_ rfl
      exact ds_ret (d := (PyData.bool (true && ((decide (v_self.1 = v_other.1)) && (decide (v_self.2.1 = v_other.2.1)))))) (de_and (y_isiRR O Rq.own B.isi (de_var 1)) fun _ => (de_and (y_eqD (x := v_self.1) (y := v_other.1) (EqE.T eqE_int) (ShE.T shE_int) hr (y_fP O (de_var 0)) (y_fP O (de_var 1))) fun _ => (de_one (de_eqI (y_fL O (de_var 0)) (y_fL O (de_var 1)))))) (by
        subst h
        exact rfl)
    | @rd v_self d h =>
      refine ds_to (Γ := [.dat ((eR rC) v_self), .dat d]) ?_ rfl
      exact ds_ret (d := (PyData.bool (false && false))) (de_and (y_isiRD O Rq B.isi (de_var 1) h) fun hk => by cases hk) rfl
theorem sc_Real___str__ : FnScope ["self"] ["self"] (defScope s_Real___str__) := ⟨rfl, rfl, rfl, by decide +kernel, rfl, by decide +kernel, by decide +kernel⟩
theorem c_Real___str__ (D : DefM K rC "__str__" "Real.__str__" s_Real___str__ ["self"]) (C_real_text : Cal P w K mg base k "real_text" ["one"] (spP K (RY1 (eR rC) PyData.str y_real_text))) : CalM P w K mg base (k + 1) rC "__str__" ["self"] (spP K (RY1 (eR rC) PyData.str y_Real___str__)) := by
  refine calM_pure D sc_Real___str__ (fun ds r h => ?_) (by decide) (fun f cdv A outer s H G E ds r hr h => ?_)
  · obtain ⟨_, _, rfl, _⟩ := h; rfl
  · obtain ⟨v_self, v, rfl, h, rfl⟩ := h
    refine ds_to (Γ := [.dat ((eR rC) v_self)]) ?_ rfl
    obtain ⟨t, e_t, h⟩ := bs h
    obtain ⟨t1, e_t1, h⟩ := bs h
    exact ds_ret (d := (PyData.str t1)) (y_f1 (y_fmtS (dc C_real_text hr (da_cons (de_var 0) da_nil) ⟨_, _, rfl, e_t, rfl⟩) e_t1)) (by
      have h := sm h
      subst h
      exact rfl)
theorem sc_ratio_text : FnScope ["one"] ["one"] (defScope s_ratio_text) := ⟨rfl, rfl, rfl, by decide +kernel, rfl, by decide +kernel, by decide +kernel⟩
theorem c_ratio_text (D : Def K mg "ratio_text" s_ratio_text ["one"]) : Cal P w K mg base (k + 1) "ratio_text" ["one"] (spP K (RY1 (eP PyData.int PyData.int) PyData.str y_ratio_text))  := by
  refine cal_pure D sc_ratio_text (fun ds r h => ?_) (by decide) (fun f cdv A outer s H G E ds r hr h => ?_)
  · obtain ⟨_, _, rfl, _⟩ := h; rfl
  · obtain ⟨v_one, v, rfl, h, rfl⟩ := h
    refine ds_to (Γ := [.dat ((eP PyData.int PyData.int) v_one)]) ?_ rfl
    obtain ⟨t4, e_t4, h⟩ := bs h
    exact ds_ret (d := (PyData.str t4)) (de_if (dt_eqI (de_ix (d := (PyData.int v_one.2)) (de_var 0) de_int rfl) de_int) (fun hk => by have h := ifT e_t4 hk; obtain ⟨t, e_t, h⟩ := bs h; exact y_as (en := PyData.str) (y_f1 (y_fmtI (de_ix (d := (PyData.int v_one.1)) (de_var 0) de_int rfl) e_t)) (sm h)) (fun hk => by have h := ifF e_t4 hk; obtain ⟨t1, e_t1, h⟩ := bs h; obtain ⟨t2, e_t2, h⟩ := bs h; obtain ⟨t3, e_t3, h⟩ := bs h; exact y_as (en := PyData.str) (y_joined (DJ.cons (y_fmtI (de_ix (d := (PyData.int v_one.1)) (de_var 0) de_int rfl) e_t1) (DJ.cons de_str (DJ.cons (y_fmtI (de_ix (d := (PyData.int v_one.2)) (de_var 0) de_int rfl) e_t2) DJ.nil))) e_t3) (sm h))) (by
      have h := sm h
      subst h
      exact rfl)
theorem sc_term_text : FnScope ["one", "power", "first", "mark", "many"] ["one", "power", "first"] (defScope s_term_text) := ⟨rfl, rfl, rfl, by decide +kernel, rfl, by decide +kernel, by decide +kernel⟩
theorem c_term_text (D : Def K mg "term_text" s_term_text ["one", "power", "first"]) (B : Bt mg) : Cal P w K mg base (k + 1) "term_text" ["one", "power", "first"] (spP K (RY3 PyData.int PyData.int PyData.bool PyData.str y_term_text))  := by
  refine cal_pure D sc_term_text (fun ds r h => ?_) (by decide) (fun f cdv A outer s H G E ds r hr h => ?_)
  · obtain ⟨_, _, _, _, rfl, _⟩ := h; rfl
  · obtain ⟨v_one, v_power, v_first, v, rfl, h, rfl⟩ := h
    refine ds_to (Γ := [.dat (PyData.int v_one), .dat (PyData.int v_power), .dat (PyData.bool v_first), .no, .no]) ?_ rfl
    obtain ⟨v_mark, e_v_mark, h⟩ := bs h
    refine y_set (en := PyData.str) (v := (if (decide (v_one < (0 : Int))) = true then ("-" : Str) else (if v_first = true then ("" : Str) else ("+" : Str)))) 3 (sm e_v_mark) (de_if (dt_lt (de_var 0) de_int) (fun hk => y_as (en := PyData.str) (v := ("-" : Str)) de_str (if_pos hk).symm) (fun hk => y_as (en := PyData.str) (v := (if v_first = true then ("" : Str) else ("+" : Str))) (de_if (dt_b (de_var 2)) (fun hk => y_as (en := PyData.str) (v := ("" : Str)) de_str (if_pos hk).symm) (fun hk => y_as (en := PyData.str) (v := ("+" : Str)) de_str (if_neg (by rw [hk]; decide)).symm)) (if_neg (by rw [hk]; decide)).symm)) ?_ sc_term_text.nd
    obtain ⟨t1, e_t1, h⟩ := bs h
    refine y_set (en := PyData.str) (v := t1) 4 rfl (de_if (PW.pt (dw_or (dt_eqI (de_var 1) de_int) fun _ => (dw_or1 (dt_neI (de_abs (de_var 0) B.abs) de_int)))) (fun hk => by have h := ifT e_t1 hk; obtain ⟨t, e_t, h⟩ := bs h; exact y_as (en := PyData.str) (y_f1 (y_fmtI (de_abs (de_var 0) B.abs) e_t)) (sm h)) (fun hk => by have h := ifF e_t1 hk; exact y_as (en := PyData.str) de_str (sm h))) ?_ sc_term_text.nd
    refine ds_if (dt_eqI (de_var 1) de_int) (fun hc => ?_) (fun hc => ?_)
    · have h := ifT h hc
      obtain ⟨t2, e_t2, h⟩ := bs h
      obtain ⟨t3, e_t3, h⟩ := bs h
      obtain ⟨t4, e_t4, h⟩ := bs h
      exact ds_ret (d := (PyData.str t4)) (y_joined (DJ.cons (y_fmtS (de_var 3) e_t2) (DJ.cons (y_fmtS (de_var 4) e_t3) DJ.nil)) e_t4) (by
        have h := sm h
        subst h
        exact rfl)
    · have h := ifF h hc
      refine ds_nil ?_
      obtain ⟨t12, e_t12, h⟩ := bs h
      exact ds_ret (d := (PyData.str t12)) (de_if (dt_eqI (de_var 1) de_int) (fun hk => by have h := ifT e_t12 hk; obtain ⟨t5, e_t5, h⟩ := bs h; obtain ⟨t6, e_t6, h⟩ := bs h; obtain ⟨t7, e_t7, h⟩ := bs h; exact y_as (en := PyData.str) (y_joined (DJ.cons (y_fmtS (de_var 3) e_t5) (DJ.cons (y_fmtS (de_var 4) e_t6) (DJ.cons de_str DJ.nil))) e_t7) (sm h)) (fun hk => by have h := ifF e_t12 hk; obtain ⟨t8, e_t8, h⟩ := bs h; obtain ⟨t9, e_t9, h⟩ := bs h; obtain ⟨t10, e_t10, h⟩ := bs h; obtain ⟨t11, e_t11, h⟩ := bs h; exact y_as (en := PyData.str) (y_joined (DJ.cons (y_fmtS (de_var 3) e_t8) (DJ.cons (y_fmtS (de_var 4) e_t9) (DJ.cons de_str (DJ.cons (y_fmtI (de_var 1) e_t10) DJ.nil)))) e_t11) (sm h))) (by
        have h := sm h
        subst h
        exact rfl)
theorem sc_poly_text : FnScope ["poly", "found", "k"] ["poly"] (defScope s_poly_text) := ⟨rfl, rfl, rfl, by decide +kernel, rfl, by decide +kernel, by decide +kernel⟩
theorem c_poly_text (D : Def K mg "poly_text" s_poly_text ["poly"]) (B : Bt mg) (C_degree_of : Cal P w K mg base k "degree_of" ["poly"] (spP K (RY1 (eT PyData.int) PyData.int y_degree_of))) (C_term_text : Cal P w K mg base k "term_text" ["one", "power", "first"] (spP K (RY3 PyData.int PyData.int PyData.bool PyData.str y_term_text))) : Cal P w K mg base (k + 1) "poly_text" ["poly"] (spP K (RY1 (eT PyData.int) PyData.str y_poly_text))  := by
  refine cal_pure D sc_poly_text (fun ds r h => ?_) (by decide) (fun f cdv A outer s H G E ds r hr h => ?_)
  · obtain ⟨_, _, rfl, _⟩ := h; rfl
  · obtain ⟨v_poly, v, rfl, h, rfl⟩ := h
    refine ds_to (Γ := [.dat ((eT PyData.int) v_poly), .no, .no]) ?_ rfl
    obtain ⟨v_found, e_v_found, h⟩ := bs h
    refine y_set (en := PyData.str) (v := ("" : Str)) 1 (sm e_v_found) de_str ?_ sc_poly_text.nd
    obtain ⟨t, e_t, h⟩ := bs h
    obtain ⟨t1, e_t1, h⟩ := bs h
    obtain ⟨r, e_r, h⟩ := bs h
    refine y_for (en := PyData.int) (fun s : Str => [.dat ((eT PyData.int) v_poly), .dat (PyData.str s), .no]) _ e_r (yi_range3 (dc C_degree_of hr (da_cons (de_var 0) da_nil) ⟨_, _, rfl, e_t, rfl⟩) (de_sub de_int de_int) (de_sub de_int de_int) B e_t1) (pt_name 2 sc_poly_text.nd) (passes_of rfl) (fun s x s' h => ⟨_, ⟨rfl, rfl, rfl⟩, ?_⟩) ?_
    · clear e_r
      obtain ⟨t2, e_t2, h⟩ := bs h
      refine ds_if (dt_neI (y_ix (en := PyData.int) (de_var 0) (de_var 2) e_t2) de_int) (fun hc => ?_) (fun hc => ?_)
      · have h := ifT h hc
        obtain ⟨t3, e_t3, h⟩ := bs h
        obtain ⟨t4, e_t4, h⟩ := bs h
        obtain ⟨t5, e_t5, h⟩ := bs h
        refine y_set (en := PyData.str) (v := t5) 1 rfl (y_addS (de_var 1) (dc C_term_text hr (da_cons (y_ix (en := PyData.int) (de_var 0) (de_var 2) e_t3) (da_cons (de_var 2) (da_cons (de_eqS (de_var 1) de_str) da_nil))) ⟨_, _, _, _, rfl, e_t4, rfl⟩) e_t5) ?_ sc_poly_text.nd
        refine ds_nil ?_
        have h := sm h
        subst h
        refine ds_drop 2 ?_
        exact ds_nil rfl
      · have h := ifF h hc
        refine ds_nil ?_
        have h := sm h
        subst h
        refine ds_drop 2 ?_
        exact ds_nil rfl
    exact ds_ret (d := (PyData.str (if (decide (r = ("" : Str))) = true then ("0" : Str) else r))) (de_if (dt_eqS (de_var 1) de_str) (fun hk => y_as (en := PyData.str) (v := ("0" : Str)) de_str (if_pos hk).symm) (fun hk => y_as (en := PyData.str) (v := r) (de_var 1) (if_neg (by rw [hk]; decide)).symm)) (by
      have h := sm h
      subst h
      exact rfl)
theorem sc_real_text : FnScope ["one"] ["one"] (defScope s_real_text) := ⟨rfl, rfl, rfl, by decide +kernel, rfl, by decide +kernel, by decide +kernel⟩
theorem c_real_text (D : Def K mg "real_text" s_real_text ["one"]) (O : RCl P w K mg base k rC) (C_degree_of : Cal P w K mg base k "degree_of" ["poly"] (spP K (RY1 (eT PyData.int) PyData.int y_degree_of))) (C_ratio_text : Cal P w K mg base k "ratio_text" ["one"] (spP K (RY1 (eP PyData.int PyData.int) PyData.str y_ratio_text))) (C_lowest : Cal P w K mg base k "lowest" ["top", "bottom"] (spP K (RY2 PyData.int PyData.int (eP PyData.int PyData.int) y_lowest))) (C_poly_text : Cal P w K mg base k "poly_text" ["poly"] (spP K (RY1 (eT PyData.int) PyData.str y_poly_text))) : Cal P w K mg base (k + 1) "real_text" ["one"] (spP K (RY1 (eR rC) PyData.str y_real_text))  := by
  refine cal_pure D sc_real_text (fun ds r h => ?_) (by decide) (fun f cdv A outer s H G E ds r hr h => ?_)
  · obtain ⟨_, _, rfl, _⟩ := h; rfl
  · obtain ⟨v_one, v, rfl, h, rfl⟩ := h
    refine ds_to (Γ := [.dat ((eR rC) v_one)]) ?_ rfl
    obtain ⟨t, e_t, h⟩ := bs h
    refine ds_if (dt_eqI (dc C_degree_of hr (da_cons (y_fP O (de_var 0)) da_nil) ⟨_, _, rfl, e_t, rfl⟩) de_int) (fun hc => ?_) (fun hc => ?_)
    · have h := ifT h hc
      obtain ⟨t1, e_t1, h⟩ := bs h
      obtain ⟨t2, e_t2, h⟩ := bs h
      obtain ⟨t3, e_t3, h⟩ := bs h
      obtain ⟨t4, e_t4, h⟩ := bs h
      exact ds_ret (d := (PyData.str t4)) (dc C_ratio_text hr (da_cons (dc C_lowest hr (da_cons (de_sub de_int (y_ix (en := PyData.int) (y_fP O (de_var 0)) de_int e_t1)) (da_cons (y_ix (en := PyData.int) (y_fP O (de_var 0)) de_int e_t2) da_nil)) ⟨_, _, _, rfl, e_t3, rfl⟩) da_nil) ⟨_, _, rfl, e_t4, rfl⟩) (by
        have h := sm h
        subst h
        exact rfl)
    · have h := ifF h hc
      refine ds_nil ?_
      obtain ⟨t5, e_t5, h⟩ := bs h
      obtain ⟨t6, e_t6, h⟩ := bs h
      obtain ⟨t7, e_t7, h⟩ := bs h
      obtain ⟨t8, e_t8, h⟩ := bs h
      exact ds_ret (d := (PyData.str t8)) (y_joined (DJ.cons de_str (DJ.cons (y_fmtI (y_fL O (de_var 0)) e_t5) (DJ.cons de_str (DJ.cons (y_fmtS (dc C_poly_text hr (da_cons (y_fP O (de_var 0)) da_nil) ⟨_, _, rfl, e_t6, rfl⟩) e_t7) DJ.nil)))) e_t8) (by
        have h := sm h
        subst h
        exact rfl)
theorem sc_number : FnScope ["top", "bottom", "one"] ["top", "bottom"] (defScope s_number) := ⟨rfl, rfl, rfl, by decide +kernel, rfl, by decide +kernel, by decide +kernel⟩
theorem c_number (D : DefV K mg "number" s_number ["top", "bottom"] [.int 1] 1 ["bottom"]) (O : RCl P w K mg base k rC) (C_ratio : Cal P w K mg base k "ratio" ["top", "bottom"] (spP K (RX2 cl eD eD (eP PyData.int PyData.int) y_ratio))) : CalV P w K mg base (k + 1) "number" ["top", "bottom"] (spP K (RX2 cl eD eD (eR rC) y_numberX)) [.int 1] 1 ["bottom"] := by
  refine cal_pureV D sc_number (fun ds r h => ?_) (by decide) (fun f cdv A outer s H G E ds r hr h => ?_)
  · obtain ⟨_, _, _, rfl, _⟩ := h; rfl
  · obtain ⟨v_top, v_bottom, v, rfl, h, rfl⟩ := h
    refine ds_to (Γ := [.dat v_top, .dat v_bottom, .no]) ?_ rfl
    obtain ⟨c, e_c, h⟩ := bs h
    cases c with
    | ex x1 =>
      have h := sm h
      subst h
      exact ds_setX 2 (de_callX C_ratio hr (takes_of rfl rfl rfl rfl) (da_cons (de_var 0) (da_cons (de_var 1) da_nil)) ⟨_, _, _, rfl, e_c, rfl⟩) rfl sc_number.nd
    | ok v_one =>
      refine ds_set 2 (d := ((eP PyData.int PyData.int) v_one)) (dc C_ratio hr (da_cons (de_var 0) (da_cons (de_var 1) da_nil)) ⟨_, _, _, rfl, e_c, rfl⟩) ?_ sc_number.nd
      exact ds_ret (d := ((eR rC) ([((0 : Int) - v_one.1), v_one.2], (0 : Int), (v_one, v_one)))) (y_mkR (r := ([((0 : Int) - v_one.1), v_one.2], (0 : Int), (v_one, v_one))) O hr (da_cons (y_tup (ds := [(PyData.int ((0 : Int) - v_one.1)), (PyData.int v_one.2)]) (da_cons (de_sub de_int (de_ix (d := (PyData.int v_one.1)) (de_var 2) de_int rfl)) (da_cons (de_ix (d := (PyData.int v_one.2)) (de_var 2) de_int rfl) da_nil))) (da_cons de_int (da_cons (y_tup (ds := [((eP PyData.int PyData.int) v_one), ((eP PyData.int PyData.int) v_one)]) (da_cons (de_var 2) (da_cons (de_var 2) da_nil))) da_nil)))) (by
        have h := sm h
        subst h
        exact rfl)
theorem sc__law_well : FnScope ["cell", "turn"] ["cell", "turn"] (defScope s__law_well) := ⟨rfl, rfl, rfl, by decide +kernel, rfl, by decide +kernel, by decide +kernel⟩
theorem c__law_well (D : Def K mg "_law_well" s__law_well ["cell", "turn"]) : Cal P w K mg base (k + 1) "_law_well" ["cell", "turn"] (spWell K) := by
  have C : Cal P w K mg base (k + 1) "_law_well" ["cell", "turn"] (spP K R_well) := by
    refine cal_pure D sc__law_well (fun ds r h => ?_) (by decide) (fun f cdv A outer s H G E ds r hr h => ?_)
    · obtain ⟨c, t, rfl, _⟩ := h; rfl
    · obtain ⟨c, t, rfl, rfl⟩ := h
      refine ds_if (dt_ge (de_var 0) (de_pw 1000000000000000000 de_int de_int)) (fun h => ?_) (fun h => ?_)
      · refine ds_ret (de_fz (dn_lst (ds := [.int (c - 1000000000000000000), .int (c.fmod P61), .int t]) (da_cons (de_sub (de_var 0) (de_pw 1000000000000000000 de_int de_int)) (da_cons (de_mod (de_var 0) de_int (by decide)) (da_cons (de_var 1) da_nil))) (by show 3 ≤ 100000; decide))) ?_
        show PyData.list _ = .list (bagD (wellB c t))
        rw [wellB, if_pos (of_decide_eq_true h)]; rfl
      · refine ds_skip ?_
        refine ds_ret (de_fz (dn_lst (ds := [.int 0, .int (c.fmod P61), .int t]) (da_cons de_int (da_cons (de_mod (de_var 0) de_int (by decide)) (da_cons (de_var 1) da_nil))) (by show 3 ≤ 100000; decide))) ?_
        show PyData.list _ = .list (bagD (wellB c t))
        rw [wellB, if_neg (of_decide_eq_false h)]; rfl
  exact C.imp well_imp
theorem sc__law_take : FnScope ["bag", "many", "found", "p", "n"] ["bag", "many"] (defScope s__law_take) := ⟨rfl, rfl, rfl, by decide +kernel, rfl, by decide +kernel, by decide +kernel⟩
theorem c__law_take (D : Def K mg "_law_take" s__law_take ["bag", "many"]) : Cal P w K mg base (k + 1) "_law_take" ["bag", "many"] (spB K R_take) := by
  refine cal_bag D sc__law_take (fun xs ds d xs' h => ?_) (by decide) (fun f cdv A outer s H G E p xs ds d xs' hr h => ?_)
  · obtain ⟨b, m, n, _, _, _, _, _, rfl, _⟩ := h; rfl
  · obtain ⟨b, m, n, ok, hn, hm0, hm1, rfl, rfl, rfl, rfl⟩ := h
    have z0 := ok.z0
    have z1 := ok.z1
    refine ds_if (dt_gt (de_ix (de_varO 0) de_int rfl) de_int) (fun h => ?_) (fun h => ?_)
    · have hx : 0 < b.x := of_decide_eq_true h
      refine ds_set 2 (de_mod (de_ix (de_varO 0) de_int rfl) (de_var 1) (by omega)) ?_ sc__law_take.nd
      refine ds_item (i := 0) (j := 0) (de_fdiv (de_ix (de_varO 0) de_int rfl) (de_var 1) (divC _ (by omega) 64 (by omega) (by decide))) (de_varO 0) de_int rfl ?_
      refine ds_ret (de_var 2) ?_
      show PyData.int _ = .int _ ∧ Sl.own _ = .own _
      rw [take, if_pos hx]
      exact ⟨rfl, rfl⟩
    · have hx : ¬ 0 < b.x := of_decide_eq_false h
      refine ds_skip ?_
      refine ds_item (i := 0) (j := 2) (de_add (de_ix (de_varO 0) de_int rfl) de_int) (de_varO 0) de_int rfl ?_
      refine ds_set 3 de_int ?_ sc__law_take.nd
      have r1 := fmod_rng (b.y + 1000003 * (b.z + 1)) (m := P61) (by decide)
      have r2 := fmod_rng ((b.y + 1000003 * (b.z + 1)).fmod P61 * (b.y + 1000003 * (b.z + 1)).fmod P61 + 7919 * (b.z + 1) ^ 2 + 5) (m := P61) (by decide)
      refine ds_set 4 (de_mod (de_add (de_ix (de_varO 0) de_int rfl) (de_mul de_int (de_ix (de_varO 0) de_int rfl) (mulL (by decide)))) (de_var 3) (by decide)) ?_ sc__law_take.nd
      have e61 : P61 = 2305843009213693951 := rfl
      refine ds_set 4 (de_mod (de_add (de_add (de_mul (de_var 4) (de_var 4) (mulL (by show ((b.y + 1000003 * (b.z + 1)).fmod P61).natAbs < 2 ^ 64; omega))) (de_mul de_int (de_pow (de_ix (de_varO 0) de_int rfl) de_int ⟨by decide, by decide, by show (b.z + 1).natAbs < 2 ^ 64; omega⟩) (mulL (by decide)))) de_int) (de_var 3) (by decide)) ?_ sc__law_take.nd
      refine ds_ret (de_mod (de_fdiv (de_mod (de_pow (de_var 4) de_int ⟨by decide, by decide, by show ((((b.y + 1000003 * (b.z + 1)).fmod P61 * (b.y + 1000003 * (b.z + 1)).fmod P61 + 7919 * (b.z + 1) ^ 2 + 5)).fmod P61).natAbs < 2 ^ 64; omega⟩) (de_var 3) (by decide)) de_int (divC _ (by decide) 64 (by decide) (by decide))) (de_var 1) (by omega)) ?_
      show PyData.int _ = .int _ ∧ Sl.own _ = .own _
      rw [take, if_neg hx]
      exact ⟨rfl, rfl⟩
theorem sc__law_bags : FnScope ["script", "most", "k", "cell"] ["script", "most"] (defScope s__law_bags) := ⟨rfl, rfl, rfl, by decide +kernel, rfl, by decide +kernel, by decide +kernel⟩
theorem c__law_bags (D : Def K mg "_law_bags" s__law_bags ["script", "most"]) (B : Bt mg) (C__law_well : Cal P w K mg base k "_law_well" ["cell", "turn"] (spWell K)) : Cal P w K mg base (k + 1) "_law_bags" ["script", "most"] (spBags K) := by
  obtain ⟨fw, fdw, w1, w2, w3, w4⟩ := C__law_well.ex
  refine cal_raw D sc__law_bags (fun vs H Q E h => ?_) (fun f cdv A outer s H vs Q E hr h => ?_)
  · obtain ⟨a, ns, m, rfl, _⟩ := h; rfl
  · obtain ⟨a, ns, m, rfl, hS, hlen, q⟩ := h
    refine ⟨_, pss_one (ps_ret (pe_lc (own := [("k", 2), ("cell", 3)]) (g := gTup K 2 (gCons (gName 2) (gCons (gName 3) gNil))) rfl sc__law_bags.nd (pi_enum rfl B.enum (pa_cons (pe_op op_catR (pe_slice sl_list (pv 0) po_none (po_some (pv 1))) (pe_lst (pa_cons pe_int pa_nil))) pa_nil)) (blkOk_by (own := [("k", 2), ("cell", 3)]) (N := ["script", "most", "k", "cell"]) (sc := defScope s__law_bags) (by decide +kernel))
      (fun _ _ _ _ _ => pt_pair 2 3 sc__law_bags.nd) (fun _ _ _ _ _ => pts_nil) (fun _ _ _ _ _ => pe_callS (E := WE fun _ _ _ _ => False) w1 hr rfl w2 w3 w4 (fun σ => passAt takes0 σ) (pa_cons (pv 3) (pa_cons (pe_op op_mul pe_int (pv 2)) pa_nil))))), ?_⟩
    refine ⟨.ref a, rfl, .int m, rfl, m, rfl, a, ns.map V.int, rfl, hS, fun p1 n1 => ?_⟩
    refine ⟨by show 1 ≤ sizeLine; decide, fun p2 n2 => ?_⟩
    have ne : p1 ≠ p2 := fun z => by rw [← z, upd_same] at n2; cases n2
    have l1 := cut_le (us := ns.map V.int) m
    rw [List.length_map] at l1
    refine ⟨p1, p2, _, _, rfl, rfl, .inl (by rw [upd_ne ne, upd_same]), .inl upd_same, ?_, fun p3 n3 => ?_⟩
    · show (cutV (ns.map V.int) none (some m)).length + 1 ≤ sizeLine
      exact Nat.le_trans (show _ ≤ 64 by omega) (by decide)
    · refine ⟨p3, _, rfl, .inl (.inl upd_same), fun Dd hDd => ?_⟩
      refine bags_lc (K := K) 2 3 rfl (by decide) (by show 2 < 4; decide) (by show 3 < 4; decide) upd_same hDd ?_ ?_ ?_ ?_
      · rw [List.length_append]
        show (cutV (ns.map V.int) none (some m)).length + 1 ≤ 64
        omega
      · intro u hu
        rcases List.mem_append.mp hu with hu | hu
        · obtain ⟨i, _, e⟩ := List.mem_map.mp (cut_mem hu)
          exact ⟨i, e.symm⟩
        · rw [List.mem_singleton] at hu
          exact ⟨0, hu⟩
      · intro i c σ2 H2 Q2 hi e1 e2 qq
        exact ⟨.int c, e2, .int (i : Int), e1, 977, (i : Int), rfl, rfl, .inl ⟨by decide, by decide⟩, c, 977 * (i : Int), rfl, by omega, by omega, qq⟩
      · intro bs H' sm h1 nd nD ok
        exact q Dd bs H' ((same_upd n1).trans ((same_upd n2).trans ((same_upd n3).trans sm))) h1 nd nD ok
theorem sc__law_same : FnScope ["a", "b", "x", "y"] ["a", "b"] (defScope s__law_same) := ⟨rfl, rfl, rfl, by decide +kernel, rfl, by decide +kernel, by decide +kernel⟩
theorem law_same_tail {f : Addr} {cdv : Value} {A : Around} {outer : List PySem.Env} {s : Shared} {H G : Hp} {E : XK} {a b : PyData} (B : Bt mg) (h1 : (isL a && isL b || isT a && isT b) = false) :
    PSs (cxOf (L2.CX P w) P w K mg base ["a", "b", "x", "y"] "_law_same" (defScope s__law_same) f cdv A outer s H E) ((defBody s__law_same).drop 1) (tS K (fx0 H G) (fun c d _ H => E c d H) (startG 4 [a, b]) (wantP (.ok (.bool (sameD a b))))) := by
  refine ds_if (PW.pt (dw_or (dt_as (dt_b (de_isi3 "bool" "list" "tuple" (ty_bool B) (ty_list B) (ty_tuple B) (de_var 0) B.isi)) (isi_blt a)) fun _ => dw_or1 (dt_as (dt_b (de_isi3 "bool" "list" "tuple" (ty_bool B) (ty_list B) (ty_tuple B) (de_var 1) B.isi)) (isi_blt b)))) (fun h => ?_) (fun h => ?_)
  · cases ha : isB a with
    | false =>
      refine ds_ret (de_as (de_and (l := true) (de_isiB B (de_var 0)) fun h => ?_) (by rw [ha]; try rfl)) ?_
      · rw [ha] at h; cases h
      · show PyData.bool false = .bool (sameD a b)
        cases a <;> cases b <;> first | rfl | (simp [isL, isT, isB] at h h1 ha; done)
    | true =>
      obtain ⟨x, rfl⟩ : ∃ x, a = .bool x := by cases a <;> first | exact ⟨_, rfl⟩ | cases ha
      cases hb : isB b with
      | false =>
        refine ds_ret (de_as (de_and (de_isiB B (de_var 0)) fun _ => de_and (l := true) (de_isiB B (de_var 1)) fun h => ?_) (by rw [hb]; try rfl)) ?_
        · rw [hb] at h; cases h
        · show PyData.bool false = .bool (sameD (.bool x) b)
          cases b <;> first | rfl | cases hb
      | true =>
        obtain ⟨y, rfl⟩ : ∃ y, b = .bool y := by cases b <;> first | exact ⟨_, rfl⟩ | cases hb
        refine ds_ret (de_and (de_isiB B (de_var 0)) fun _ => de_and (de_isiB B (de_var 1)) fun _ => de_one (de_cmp op_eq rd_eqB (de_var 0) (de_var 1) (nomark _))) ?_
        show PyData.bool _ = .bool _
        simp [isB, sameD]
  · refine ds_skip ?_
    have hab : isB a = false ∧ isL a = false ∧ isT a = false ∧ isB b = false ∧ isL b = false ∧ isT b = false := by
      simp only [Bool.or_eq_false_iff] at h
      exact ⟨h.1.1.1, h.1.1.2, h.1.2, h.2.1.1, h.2.1.2, h.2.2⟩
    obtain ⟨a1, a2, a3, b1, b2, b3⟩ := hab
    refine ds_if (PW.pt (dw_or (dt_b (de_isiI B (de_var 0))) fun _ => dw_or1 (dt_b (de_isiI B (de_var 1))))) (fun h => ?_) (fun h => ?_)
    · cases ha : isI a with
      | false =>
        refine ds_ret (de_as (de_and (l := true) (de_isiI B (de_var 0)) fun h => ?_) (by rw [ha]; try rfl)) ?_
        · rw [ha] at h; cases h
        · show PyData.bool false = .bool (sameD a b)
          cases a <;> cases b <;> first | rfl | (simp [isL, isT, isB, isI] at h a1 a2 a3 b1 b2 b3 ha; done)
      | true =>
        obtain ⟨x, rfl⟩ : ∃ x, a = .int x := by cases a <;> first | exact ⟨_, rfl⟩ | (cases a1; done) | (cases ha; done)
        cases hb : isI b with
        | false =>
          refine ds_ret (de_as (de_and (de_isiI B (de_var 0)) fun _ => de_and (l := true) (de_isiI B (de_var 1)) fun h => ?_) (by rw [hb]; try rfl)) ?_
          · rw [hb] at h; cases h
          · show PyData.bool false = .bool (sameD (.int x) b)
            cases b <;> first | rfl | cases hb
        | true =>
          obtain ⟨y, rfl⟩ : ∃ y, b = .int y := by cases b <;> first | exact ⟨_, rfl⟩ | (cases b1; done) | (cases hb; done)
          refine ds_ret (de_and (de_isiI B (de_var 0)) fun _ => de_and (de_isiI B (de_var 1)) fun _ => de_one (de_eqI (de_var 0) (de_var 1))) ?_
          show PyData.bool _ = .bool _
          simp [isI, sameD]
    · refine ds_skip ?_
      have hI : isI a = false ∧ isI b = false := by simpa only [Bool.or_eq_false_iff] using h
      obtain ⟨a4, b4⟩ := hI
      refine ds_if (PW.pt (dw_or (dt_b (de_isiS B (de_var 0))) fun _ => dw_or1 (dt_b (de_isiS B (de_var 1))))) (fun h => ?_) (fun h => ?_)
      · cases ha : isS a with
        | false =>
          refine ds_ret (de_as (de_and (l := true) (de_isiS B (de_var 0)) fun h => ?_) (by rw [ha]; try rfl)) ?_
          · rw [ha] at h; cases h
          · show PyData.bool false = .bool (sameD a b)
            cases a <;> cases b <;> first | rfl | (simp [isL, isT, isB, isI, isS] at h a1 a2 a3 a4 b1 b2 b3 b4 ha; done)
        | true =>
          obtain ⟨x, rfl⟩ : ∃ x, a = .str x := by cases a <;> first | exact ⟨_, rfl⟩ | cases ha
          cases hb : isS b with
          | false =>
            refine ds_ret (de_as (de_and (de_isiS B (de_var 0)) fun _ => de_and (l := true) (de_isiS B (de_var 1)) fun h => ?_) (by rw [hb]; try rfl)) ?_
            · rw [hb] at h; cases h
            · show PyData.bool false = .bool (sameD (.str x) b)
              cases b <;> first | rfl | cases hb
          | true =>
            obtain ⟨y, rfl⟩ : ∃ y, b = .str y := by cases b <;> first | exact ⟨_, rfl⟩ | cases hb
            refine ds_ret (de_and (de_isiS B (de_var 0)) fun _ => de_and (de_isiS B (de_var 1)) fun _ => de_one (de_eqS (de_var 0) (de_var 1))) ?_
            show PyData.bool _ = .bool _
            simp [isS, sameD]
      · refine ds_skip (ds_ret (de_and (de_isN (de_var 0)) fun _ => de_one (de_isN (de_var 1))) ?_)
        show PyData.bool _ = .bool _
        have hS : isS a = false ∧ isS b = false := by simpa only [Bool.or_eq_false_iff] using h
        cases a <;> cases b <;> first | rfl | (simp [isL, isT, isB, isI, isS] at a1 a2 a3 a4 b1 b2 b3 b4 hS; done)
theorem c__law_same (D : Def K mg "_law_same" s__law_same ["a", "b"]) (B : Bt mg) : ∀ n : Nat, Cal P w K mg base (k + n + 1) "_law_same" ["a", "b"] (spP K (R_same n)) := by
  intro n
  induction n with
  | zero =>
    refine cal_pure D sc__law_same (fun ds r h => ?_) (by decide) (fun f cdv A outer s H G E ds r hr h => ?_)
    · obtain ⟨a, b, rfl, _⟩ := h; rfl
    · obtain ⟨a, b, rfl, ha, hb, rfl⟩ := h
      have h1 : (isL a && isL b || isT a && isT b) = false := by
        cases a <;> first | rfl | exact ha.elim
      refine ds_if (dt_as (PW.pt (dw_or (PW.pt (dw_and (dt_b (de_isiL B (de_var 0))) fun _ => dw_and1 (dt_b (de_isiL B (de_var 1))))) fun _ => dw_or1 (PW.pt (dw_and (dt_b (de_isiT B (de_var 0))) fun _ => dw_and1 (dt_b (de_isiT B (de_var 1))))))) h1) (fun h => by cases h) (fun _ => ds_skip (law_same_tail B h1))
  | succ n ih =>
    refine cal_pure D sc__law_same (fun ds r h => ?_) (by decide) (fun f cdv A outer s H G E ds r hr h => ?_)
    · obtain ⟨a, b, rfl, _⟩ := h; rfl
    · obtain ⟨a, b, rfl, ha, hb, rfl⟩ := h
      refine ds_if (PW.pt (dw_or (PW.pt (dw_and (dt_b (de_isiL B (de_var 0))) fun _ => dw_and1 (dt_b (de_isiL B (de_var 1))))) fun _ => dw_or1 (PW.pt (dw_and (dt_b (de_isiT B (de_var 0))) fun _ => dw_and1 (dt_b (de_isiT B (de_var 1))))))) (fun h => ?_) (fun h => ds_skip (law_same_tail B h))
      have alt : (∃ as bs, a = .list as ∧ b = .list bs) ∨ (∃ as bs, a = .tuple as ∧ b = .tuple bs) := by
        cases a <;> cases b <;> first | exact .inl ⟨_, _, rfl, rfl⟩ | exact .inr ⟨_, _, rfl, rfl⟩ | (simp [isL, isT] at h; done)
      rcases alt with ⟨as, bs, rfl, rfl⟩ | ⟨as, bs, rfl, rfl⟩
      · refine ds_ret (de_and (de_eqI (de_len (de_var 0) B.len) (de_len (de_var 1) B.len)) fun _ => de_one (de_all (bs := (zipD as bs).map samePair)
          (de_fz (LcR.pe (lr_mapT (own := [("x", 2), ("y", 3)]) (fun d => .bool (samePair d)) (di_zipL (da_cons (de_var 0) (da_cons (de_var 1) da_nil)) B.zip) (tgt_pair 2 3) sc__law_same.nd (blkOk_by (own := [("x", 2), ("y", 3)]) (N := ["a", "b", "x", "y"]) (sc := defScope s__law_same) (by decide +kernel))
            (fun _ _ _ _ _ => pt_pair 2 3 sc__law_same.nd) (by rw [zipD_len]; exact Nat.lt_of_le_of_lt (Nat.min_le_left _ _) ha.1) (fun d hd => by
              obtain ⟨x, y, rfl, hx, hy⟩ := zipD_mem hd
              exact ⟨_, ⟨x, y, rfl, rfl, rfl, rfl, rfl, rfl⟩, rfl, fun _ _ _ _ _ => dc ih hr (da_cons (de_var 2) (da_cons (de_var 3) da_nil)) ⟨x, y, rfl, ha.2 x hx, hb.2 y hy, rfl⟩⟩)))) B.all (by show some (PyData.list _) = _; rw [List.map_map]; rfl))) ?_
        show PyData.bool _ = .bool _
        rw [show sameD (.list as) (.list bs) = AM.sameAll as bs from by simp only [sameD], sameAll_eq, dec_cast]
      · refine ds_ret (de_and (de_eqI (de_len (de_var 0) B.len) (de_len (de_var 1) B.len)) fun _ => de_one (de_all (bs := (zipD as bs).map samePair)
          (de_fz (LcR.pe (lr_mapT (own := [("x", 2), ("y", 3)]) (fun d => .bool (samePair d)) (di_zipT (da_cons (de_var 0) (da_cons (de_var 1) da_nil)) B.zip) (tgt_pair 2 3) sc__law_same.nd (blkOk_by (own := [("x", 2), ("y", 3)]) (N := ["a", "b", "x", "y"]) (sc := defScope s__law_same) (by decide +kernel))
            (fun _ _ _ _ _ => pt_pair 2 3 sc__law_same.nd) (by rw [zipD_len]; exact Nat.lt_of_le_of_lt (Nat.min_le_left _ _) ha.1) (fun d hd => by
              obtain ⟨x, y, rfl, hx, hy⟩ := zipD_mem hd
              exact ⟨_, ⟨x, y, rfl, rfl, rfl, rfl, rfl, rfl⟩, rfl, fun _ _ _ _ _ => dc ih hr (da_cons (de_var 2) (da_cons (de_var 3) da_nil)) ⟨x, y, rfl, ha.2 x hx, hb.2 y hy, rfl⟩⟩)))) B.all (by show some (PyData.list _) = _; rw [List.map_map]; rfl))) ?_
        show PyData.bool _ = .bool _
        rw [show sameD (.tuple as) (.tuple bs) = AM.sameAll as bs from by simp only [sameD], sameAll_eq, dec_cast]
theorem sc__law_low : FnScope ["t", "b", "x", "y"] ["t", "b"] (defScope s__law_low) := ⟨rfl, rfl, rfl, by decide +kernel, rfl, by decide +kernel, by decide +kernel⟩
theorem c__law_low (D : Def K mg "_law_low" s__law_low ["t", "b"]) (B : Bt mg) (Bg : Big P base) : Cal P w K mg base (k + 34) "_law_low" ["t", "b"] (spP K (RY2 PyData.int PyData.int (eP PyData.int PyData.int) y__law_low))  := by
  refine cal_pure (k := k + 33) D sc__law_low (fun ds r h => ?_) (by decide) (fun f cdv A outer s H G E ds r hr h => ?_)
  · obtain ⟨_, _, _, rfl, _⟩ := h; rfl
  · obtain ⟨v_t, v_b, v, rfl, h, rfl⟩ := h
    refine ds_to (Γ := [.dat (PyData.int v_t), .dat (PyData.int v_b), .no, .no]) ?_ rfl
    have hr0 := hr.mono (show k ≤ k + 33 by omega)
    obtain ⟨v_x, e_v_x, h⟩ := bs h
    refine y_set (en := PyData.int) (v := (v_t.natAbs : Int)) 2 (sm e_v_x) (de_abs (de_var 0) B.abs) ?_ sc__law_low.nd
    obtain ⟨v_y, e_v_y, h⟩ := bs h
    refine y_set (en := PyData.int) (v := (v_b.natAbs : Int)) 3 (sm e_v_y) (de_abs (de_var 1) B.abs) ?_ sc__law_low.nd
    obtain ⟨r, e_r, h⟩ := bs h
    refine y_while (fun s : Int × Int => [.dat (PyData.int v_t), .dat (PyData.int v_b), .dat (PyData.int s.1), .dat (PyData.int s.2)]) _ _ e_r (passes_of rfl) (fun s v h => by exact y_t (dt_neI (de_var 3) de_int) (sm h)) (fun s s' h => ?_) ?_
    · clear e_r
      obtain ⟨t, e_t, h⟩ := bs h
      refine ds_par 2 3 (da_cons (de_var 3) (da_cons (y_mod (de_var 2) (de_var 3) e_t) da_nil)) ?_ sc__law_low.nd
      have h := sm h
      subst h
      exact ds_nil rfl
    obtain ⟨j, e_j, h⟩ := bs h
    refine ds_cut (fun Γ => Γ = [.dat (PyData.int v_t), .dat (PyData.int v_b), .dat (PyData.int j), .dat (PyData.int r.2)]) (fun Γ hJ => ?_) (fun tail => ?_)
    rotate_left
    · have h := e_j
      refine ds_if (dt_lt (de_var 1) de_int) (fun hc => ?_) (fun hc => ?_)
      · have h := ifT h hc
        obtain ⟨v_x1, e_v_x1, h⟩ := bs h
        refine y_set (en := PyData.int) (v := ((0 : Int) - r.1)) 2 (sm e_v_x1) (de_sub de_int (de_var 2)) ?_ sc__law_low.nd
        have h := sm h
        subst h
        exact ds_skip (tail _ rfl)
      · have h := ifF h hc
        have h := sm h
        subst h
        exact ds_skip (tail _ rfl)
    subst hJ
    obtain ⟨t1, e_t1, h⟩ := bs h
    obtain ⟨t2, e_t2, h⟩ := bs h
    exact ds_ret (d := ((eP PyData.int PyData.int) (t1, t2))) (y_tup (ds := [(PyData.int t1), (PyData.int t2)]) (da_cons (y_fdivQ (de_var 0) (de_var 2) e_t1 Bg hr) (da_cons (y_fdivQ (de_var 1) (de_var 2) e_t2 Bg hr) da_nil))) (by
      have h := sm h
      subst h
      exact rfl)
theorem sc__law_int : FnScope ["bag", "way"] ["bag"] (defScope s__law_int) := ⟨rfl, rfl, rfl, by decide +kernel, rfl, by decide +kernel, by decide +kernel⟩
theorem c__law_int (D : Def K mg "_law_int" s__law_int ["bag"]) (C__law_take : Cal P w K mg base k "_law_take" ["bag", "many"] (spB K R_take)) : Cal P w K mg base (k + 1) "_law_int" ["bag"] (spB K (RYB0 PyData.int y__law_int))  := by
  refine cal_bag D sc__law_int (fun xs ds d xs' h => ?_) (by decide) (fun f cdv A outer s H G E p xs ds d xs' hr h => ?_)
  · obtain ⟨_, _, _, rfl, _⟩ := h; rfl
  · obtain ⟨b, v, rfl, rfl, h, rfl, rfl⟩ := h
    refine ds_to (Γ := [.own (bagD b), .no]) ?_ rfl
    obtain ⟨t, e_t, h⟩ := bs h
    refine y_set (en := PyData.int) (v := t.1) 1 rfl (dcb C__law_take hr (da_cons (de_varO 0) (da_cons de_int da_nil)) (takeC_R (v := t) e_t)) ?_ sc__law_int.nd
    refine ds_if (dt_lt (de_var 1) de_int) (fun hc => ?_) (fun hc => ?_)
    · have h := ifT h hc
      obtain ⟨t1, e_t1, h⟩ := bs h
      exact ds_ret (d := (PyData.int (t1.1 - (6 : Int)))) (de_sub (dcb C__law_take hr (da_cons (de_varO 0) (da_cons de_int da_nil)) (takeC_R (v := t1) e_t1)) de_int) (by
        have h := sm h
        subst h
        exact ⟨rfl, rfl⟩)
    · have h := ifF h hc
      refine ds_nil ?_
      refine ds_if (dt_lt (de_var 1) de_int) (fun hc => ?_) (fun hc => ?_)
      · have h := ifT h hc
        obtain ⟨t2, e_t2, h⟩ := bs h
        exact ds_ret (d := (PyData.int (t2.1 - (100 : Int)))) (de_sub (dcb C__law_take hr (da_cons (de_varO 0) (da_cons de_int da_nil)) (takeC_R (v := t2) e_t2)) de_int) (by
          have h := sm h
          subst h
          exact ⟨rfl, rfl⟩)
      · have h := ifF h hc
        refine ds_nil ?_
        obtain ⟨t3, e_t3, h⟩ := bs h
        obtain ⟨t4, e_t4, h⟩ := bs h
        exact ds_ret (d := (PyData.int (t4.1 - (1000000 : Int)))) (de_sub (dcb C__law_take hr (da_cons (de_varO 0) (da_cons (de_add (y_mul de_int (de_pw 1000000 de_int de_int) e_t3) de_int) da_nil)) (takeC_R (v := t4) e_t4)) (de_pw 1000000 de_int de_int)) (by
          have h := sm h
          subst h
          exact ⟨rfl, rfl⟩)
theorem sc__law_wide : FnScope ["bag", "way"] ["bag"] (defScope s__law_wide) := ⟨rfl, rfl, rfl, by decide +kernel, rfl, by decide +kernel, by decide +kernel⟩
theorem c__law_wide (D : Def K mg "_law_wide" s__law_wide ["bag"]) (C__law_take : Cal P w K mg base k "_law_take" ["bag", "many"] (spB K R_take)) (C__law_int : Cal P w K mg base k "_law_int" ["bag"] (spB K (RYB0 PyData.int y__law_int))) : Cal P w K mg base (k + 1) "_law_wide" ["bag"] (spB K (RYB0 PyData.int y__law_wide))  := by
  refine cal_bag D sc__law_wide (fun xs ds d xs' h => ?_) (by decide) (fun f cdv A outer s H G E p xs ds d xs' hr h => ?_)
  · obtain ⟨_, _, _, rfl, _⟩ := h; rfl
  · obtain ⟨b, v, rfl, rfl, h, rfl, rfl⟩ := h
    refine ds_to (Γ := [.own (bagD b), .no]) ?_ rfl
    obtain ⟨t, e_t, h⟩ := bs h
    refine y_set (en := PyData.int) (v := t.1) 1 rfl (dcb C__law_take hr (da_cons (de_varO 0) (da_cons de_int da_nil)) (takeC_R (v := t) e_t)) ?_ sc__law_wide.nd
    refine ds_if (dt_lt (de_var 1) de_int) (fun hc => ?_) (fun hc => ?_)
    · have h := ifT h hc
      obtain ⟨t1, e_t1, h⟩ := bs h
      exact ds_ret (d := (PyData.int t1.1)) (dcb C__law_int hr (da_cons (de_varO 0) da_nil) ⟨_, t1, rfl, rfl, e_t1, rfl, rfl⟩) (by
        have h := sm h
        subst h
        exact ⟨rfl, rfl⟩)
    · have h := ifF h hc
      refine ds_nil ?_
      refine ds_if (dt_eqI (de_var 1) de_int) (fun hc => ?_) (fun hc => ?_)
      · have h := ifT h hc
        obtain ⟨t2, e_t2, h⟩ := bs h
        obtain ⟨t3, e_t3, h⟩ := bs h
        exact ds_ret (d := (PyData.int (t3.1 - (1000000000000000 : Int)))) (de_sub (dcb C__law_take hr (da_cons (de_varO 0) (da_cons (de_add (y_mul de_int (de_pw 1000000000000000 de_int de_int) e_t2) de_int) da_nil)) (takeC_R (v := t3) e_t3)) (de_pw 1000000000000000 de_int de_int)) (by
          have h := sm h
          subst h
          exact ⟨rfl, rfl⟩)
      · have h := ifF h hc
        refine ds_nil ?_
        obtain ⟨t4, e_t4, h⟩ := bs h
        obtain ⟨t5, e_t5, h⟩ := bs h
        exact ds_ret (d := (PyData.int t5)) (y_ix (en := PyData.int) (de_fz (y_lst (ds := [(0 : Int), (1 : Int), (-(1 : Int)), (1000000000000000 : Int), ((0 : Int) - (1000000000000000 : Int))].map PyData.int) (da_cons de_int (da_cons de_int (da_cons (de_neg de_int) (da_cons (de_pw 1000000000000000 de_int de_int) (da_cons (de_sub de_int (de_pw 1000000000000000 de_int de_int)) da_nil))))))) (dcb C__law_take hr (da_cons (de_varO 0) (da_cons de_int da_nil)) (takeC_R (v := t4) e_t4)) e_t5) (by
          have h := sm h
          subst h
          exact ⟨rfl, rfl⟩)
theorem sc__law_is_int : FnScope ["x"] ["x"] (defScope s__law_is_int) := ⟨rfl, rfl, rfl, by decide +kernel, rfl, by decide +kernel, by decide +kernel⟩
theorem c__law_is_int (D : Def K mg "_law_is_int" s__law_is_int ["x"]) (B : Bt mg) : Cal P w K mg base (k + 1) "_law_is_int" ["x"] (spP K (RY1 eD PyData.bool y__law_is_int))  := by
  refine cal_pure D sc__law_is_int (fun ds r h => ?_) (by decide) (fun f cdv A outer s H G E ds r hr h => ?_)
  · obtain ⟨_, _, rfl, _⟩ := h; rfl
  · obtain ⟨v_x, v, rfl, h, rfl⟩ := h
    refine ds_to (Γ := [.dat v_x]) ?_ rfl
    exact ds_ret (d := (PyData.bool ((isI v_x) && (!(isB v_x))))) (de_and (de_isiI (da := v_x) B (de_var 0)) fun _ => (de_one (de_not (de_isiB (da := v_x) B (de_var 0))))) (by
      have h := sm h
      subst h
      exact rfl)
theorem sc__law_odd : FnScope ["bag"] ["bag"] (defScope s__law_odd) := ⟨rfl, rfl, rfl, by decide +kernel, rfl, by decide +kernel, by decide +kernel⟩
theorem c__law_odd (D : Def K mg "_law_odd" s__law_odd ["bag"]) (C__law_take : Cal P w K mg base k "_law_take" ["bag", "many"] (spB K R_take)) : Cal P w K mg base (k + 1) "_law_odd" ["bag"] (spB K (RYB0 eD y__law_odd))  := by
  refine cal_bag D sc__law_odd (fun xs ds d xs' h => ?_) (by decide) (fun f cdv A outer s H G E p xs ds d xs' hr h => ?_)
  · obtain ⟨_, _, _, rfl, _⟩ := h; rfl
  · obtain ⟨b, v, rfl, rfl, h, rfl, rfl⟩ := h
    refine ds_to (Γ := [.own (bagD b)]) ?_ rfl
    obtain ⟨t, e_t, h⟩ := bs h
    obtain ⟨t1, e_t1, h⟩ := bs h
    exact ds_ret (d := t1) (y_ix (en := eD) (de_fz (y_lst (ds := [(eU ()), (PyData.bool true), (PyData.bool false), (PyData.str ("" : Str)), (PyData.str ("1" : Str)), (PyData.tuple []), (PyData.list []), ((eT PyData.int) [(1 : Int)]), ((eL PyData.int) [(1 : Int), (1 : Int)]), ((eP PyData.int PyData.int) ((1 : Int), (1 : Int))), ((eP eU PyData.int) ((), (1 : Int)))].map eD) (da_cons de_non (da_cons de_bl (da_cons de_bl (da_cons de_str (da_cons de_str (da_cons de_nilT (da_cons (de_fz dn_nilL) (da_cons (y_tup (ds := [(PyData.int (1 : Int))]) (da_cons de_int da_nil)) (da_cons (de_fz (y_lst (ds := [(1 : Int), (1 : Int)].map PyData.int) (da_cons de_int (da_cons de_int da_nil)))) (da_cons (y_tup (ds := [(PyData.int (1 : Int)), (PyData.int (1 : Int))]) (da_cons de_int (da_cons de_int da_nil))) (da_cons (y_tup (ds := [(eU ()), (PyData.int (1 : Int))]) (da_cons de_non (da_cons de_int da_nil))) da_nil))))))))))))) (dcb C__law_take hr (da_cons (de_varO 0) (da_cons de_int da_nil)) (takeC_R (v := t) e_t)) e_t1) (by
      have h := sm h
      subst h
      exact ⟨rfl, rfl⟩)
theorem sc__law_key : FnScope ["x", "a"] ["x"] (defScope s__law_key) := ⟨rfl, rfl, rfl, by decide +kernel, rfl, by decide +kernel, by decide +kernel⟩
theorem c__law_key (D : Def K mg "_law_key" s__law_key ["x"]) (B : Bt mg) (O : RCl P w K mg base k rC) (RK : PySem.W.kitOne K (.ref rC) (.ref rC) = some true) (C__law_is_int : Cal P w K mg base k "_law_is_int" ["x"] (spP K (RY1 eD PyData.bool y__law_is_int))) : Cal P w K mg base (k + 1) "_law_key" ["x"] (spP K (RY1 (eR rC) (eO (eP (eT PyData.int) PyData.int)) y__law_key))  := by
  refine cal_pure D sc__law_key (fun ds r h => ?_) (by decide) (fun f cdv A outer s H G E ds r hr h => ?_)
  · obtain ⟨_, _, rfl, _⟩ := h; rfl
  · obtain ⟨v_x, v, rfl, h, rfl⟩ := h
    refine ds_to (Γ := [.dat ((eR rC) v_x), .no]) ?_ rfl
    obtain ⟨t2, e_t2, h⟩ := bs h
    refine ds_if (PW.pt (y_wor (w := t2) (dt_not (dt_b (y_isiRR O RK B.isi (de_var 0)))) (fun hk => by have h := ifF e_t2 hk; obtain ⟨t1, e_t1, h⟩ := bs h; have h := sm h; subst h; exact (y_wor (w := t1) (dt_not (dt_b (de_isiT (da := ((eT PyData.int) v_x.1)) B (y_fP O (de_var 0))))) (fun hk => by have h := ifF e_t1 hk; obtain ⟨t, e_t, h⟩ := bs h; have h := sm h; subst h; exact (dw_or1 (dt_not (dt_b (dc C__law_is_int hr (da_cons (y_fL O (de_var 0)) da_nil) ⟨_, _, rfl, e_t, rfl⟩))))) (fun hk => ⟨(sm (ifT e_t1 hk)).symm, rfl⟩))) (fun hk => ⟨(sm (ifT e_t2 hk)).symm, rfl⟩))) (fun hc => ?_) (fun hc => ?_)
    · have h := ifT h hc
      exact ds_ret (d := ((eO (eP (eT PyData.int) PyData.int)) none)) de_non (by
        have h := sm h
        subst h
        exact rfl)
    · have h := ifF h hc
      refine ds_nil ?_
      obtain ⟨t4, e_t4, h⟩ := bs h
      exact ds_ret (d := ((eO (eP (eT PyData.int) PyData.int)) (if (decide (t4 = ([] : List Int))) = true then (some (v_x.1, v_x.2.1)) else none))) (de_if (y_teqD (x := t4) (y := ([] : List Int)) (EqE.L eqE_int) (ShE.L shE_int) hr (de_fz (LcR.pe (y_lcf (own := [("a", 1)]) (en := PyData.int) (em := PyData.int) _ _ e_t4 (yi_tup (xs := v_x.1) (en := PyData.int) (y_fP O (de_var 0))) (tgt_name 1) sc__law_key.nd (blkOk_by (own := [("a", 1)]) (N := ["x", "a"]) (sc := defScope s__law_key) (by decide +kernel)) (fun _ _ _ _ _ => pg_name sc__law_key.nd rfl (by first | exact .inl rfl | exact .inr rfl)) (fun x1 y h => by obtain ⟨t3, e_t3, h⟩ := bs h; refine ⟨_, ⟨rfl, rfl, rfl⟩, rfl, fun _ _ _ _ _ => y_t (dt_not (dt_b (dc C__law_is_int hr (da_cons (de_var 1) da_nil) ⟨_, _, rfl, e_t3, rfl⟩))) (sm h), fun y _ h => ?_⟩; exact fun _ _ _ _ _ => y_as (en := PyData.int) (de_var 1) (sm h))))) (de_fz dn_nilL)) (fun hk => y_as (en := (eO (eP (eT PyData.int) PyData.int))) (v := (some (v_x.1, v_x.2.1))) (y_tup (ds := [((eT PyData.int) v_x.1), (PyData.int v_x.2.1)]) (da_cons (y_fP O (de_var 0)) (da_cons (y_fL O (de_var 0)) da_nil))) (if_pos hk).symm) (fun hk => y_as (en := (eO (eP (eT PyData.int) PyData.int))) (v := none) de_non (if_neg (by rw [hk]; decide)).symm)) (by
        have h := sm h
        subst h
        exact rfl)
theorem sc__law_ask : FnScope ["deed", "found"] ["deed"] (defScope s__law_ask) := ⟨rfl, rfl, rfl, by decide +kernel, rfl, by decide +kernel, by decide +kernel⟩
theorem ask_given {X : Cx} {q : Str} (X_NoRatio : Xcl X.K X.mg "NoRatio" (cl .NoRatio)) (X_RootError : Xcl X.K X.mg "RootError" (cl .RootError)) (g : Addr) (cdv : Value) : LamX.GivesTo X ["deed", "found"] "_law_ask" (defScope s__law_ask) g cdv (defBody s__law_ask) "deed" q (TTask X.K [(.ref (cl .NoRatio), [.str "refused", .str "NoRatio"]), (.ref (cl .RootError), [.str "refused", .str "other"])]) :=
  ask_gives rfl fun s H => (hd_cons (l := [(.ref (cl .RootError), [.str "refused", .str "other"])]) ⟨rfl, by decide, .inl X_NoRatio.gC⟩ sc__law_ask.nd (hd_cons (l := []) ⟨rfl, by decide, .inl X_RootError.gC⟩ sc__law_ask.nd .nil))
theorem sc_law : FnScope ["script", "bag", "a", "b", "q", "r", "text", "c", "x", "y"] ["script"] (defScope s_law) := ⟨rfl, rfl, rfl, by decide +kernel, rfl, by decide +kernel, by decide +kernel⟩
theorem c_law {f c Pt : Addr} {oc kV doc pm ct : Value} {od an : Option Addr} {osl : Array (Option Value)} (lk : K.lookup f = some ⟨oc, od, .func (PySem.W.fnOf "law" "law" (defArgs s_law) (defBody s_law) (defScope s_law) .none kV doc pm an (.ref c) ct), osl⟩) (hcd : PySem.W.codeIn K (.ref c) "law" = true) (TB : LamX.TabB base mg c Pt) (B : Bt mg) (O : RCl P w K mg base k rC) (Rq : RQ K rC) (C__law_wide : Cal P w K mg base k "_law_wide" ["bag"] (spB K (RYB0 PyData.int y__law_wide))) (C__law_take : Cal P w K mg base k "_law_take" ["bag", "many"] (spB K R_take)) (C__law_low : Cal P w K mg base k "_law_low" ["t", "b"] (spP K (RY2 PyData.int PyData.int (eP PyData.int PyData.int) y__law_low))) (C_number : CalV P w K mg base k "number" ["top", "bottom"] (spP K (RX2 cl eD eD (eR rC) y_numberX)) [.int 1] 1 ["bottom"]) (C__law_same : Cal P w K mg base k "_law_same" ["a", "b"] (spP K (R_same 12))) (C__law_key : Cal P w K mg base k "_law_key" ["x"] (spP K (RY1 (eR rC) (eO (eP (eT PyData.int) PyData.int)) y__law_key))) (C_Real___str__ : CalM P w K mg base k rC "__str__" ["self"] (spP K (RY1 (eR rC) PyData.str y_Real___str__))) (C_Real___eq__ : CalM P w K mg base k rC "__eq__" ["self", "other"] (spP K (REqX rC))) (C__law_odd : Cal P w K mg base k "_law_odd" ["bag"] (spB K (RYB0 eD y__law_odd))) (X_NoRatio : Xcl K mg "NoRatio" (cl .NoRatio)) (X_RootError : Xcl K mg "RootError" (cl .RootError)) (E_NoRatio_NoRatio : PySem.W.exmOne K (.ref (cl .NoRatio)) (.ref (cl .NoRatio)) = some true) (D__law_ask : Def K mg "_law_ask" s__law_ask ["deed"]) (C__law_bags : Cal P w K mg base k "_law_bags" ["script", "most"] (spBags K)) : FnOk P w K mg base (L2.CX P w) (k + 3) f (PySem.W.fnOf "law" "law" (defArgs s_law) (defBody s_law) (defScope s_law) .none kV doc pm an (.ref c) ct) ["script"] (spLaw K (lawT Pt)) := by
  have askM : ∀ c p, askN_k23 c = some p → manyD K [.str p.1, .str p.2] [(.ref (cl .NoRatio), [.str "refused", .str "NoRatio"]), (.ref (cl .RootError), [.str "refused", .str "other"])] (.ref (cl c)) := by
    intro c p h
    cases c
    case NoRatio => cases h; exact .inl ⟨E_NoRatio_NoRatio, rfl⟩
    all_goals cases h
  refine law_mkT (k := k + 2) lk hcd sc_law (fun A outer s H E hr => law_loop 1 (bags_call C__law_bags (hr.mono (by omega))) sc_law.nd rfl (passes_of rfl) (by decide) (fun H' p b ok nt => ?_))
  have hr0 := hr.mono (show k ≤ k + 2 by omega)
  refine ds_ask (ask_mk D__law_ask sc__law_ask (.inl rfl) (ask_given X_NoRatio X_RootError) TB rfl lawQ rfl rfl) fun ask => ?_
  have h := m_law_k23 rC b ok
  refine ds_to (Γ := [.no, .own (bagD b), .no, .no, .no, .no, .no, .no, .no, .no]) ?_ rfl
  obtain ⟨t, e_t, h⟩ := bs h
  refine y_set (en := PyData.int) (v := t.1) 2 rfl (dcb C__law_wide hr0 (da_cons (de_varO 1) da_nil) ⟨_, t, rfl, rfl, e_t, rfl, rfl⟩) ?_ sc_law.nd
  obtain ⟨t1, e_t1, h⟩ := bs h
  obtain ⟨t2, e_t2, h⟩ := bs h
  obtain ⟨t3, e_t3, h⟩ := bs h
  obtain ⟨t4, e_t4, h⟩ := bs h
  refine y_set (en := PyData.int) (v := t4) 3 rfl (y_ix (en := PyData.int) (de_fz (y_lst (ds := [t1.1, ((1 : Int) + t2.1)].map PyData.int) (da_cons (dcb C__law_wide hr0 (da_cons (de_varO 1) da_nil) ⟨_, t1, rfl, rfl, e_t1, rfl, rfl⟩) (da_cons (de_add de_int (dcb C__law_take hr0 (da_cons (de_varO 1) (da_cons de_int da_nil)) (takeC_R (v := t2) e_t2))) da_nil)))) (dcb C__law_take hr0 (da_cons (de_varO 1) (da_cons de_int da_nil)) (takeC_R (v := t3) e_t3)) e_t4) ?_ sc_law.nd
  obtain ⟨v_b, e_v_b, h⟩ := bs h
  refine y_set (en := PyData.int) (v := (if (decide (t4 = (0 : Int))) = true then (1 : Int) else t4)) 3 (sm e_v_b) (de_if (dt_eqI (de_var 3) de_int) (fun hk => y_as (en := PyData.int) (v := (1 : Int)) de_int (if_pos hk).symm) (fun hk => y_as (en := PyData.int) (v := t4) (de_var 3) (if_neg (by rw [hk]; decide)).symm)) ?_ sc_law.nd
  obtain ⟨t5, e_t5, h⟩ := bs h
  refine y_set (en := (eP PyData.int PyData.int)) (v := t5) 4 rfl (dc C__law_low hr0 (da_cons (de_var 2) (da_cons (de_var 3) da_nil)) ⟨_, _, _, rfl, e_t5, rfl⟩) ?_ sc_law.nd
  refine ds_to (Γ := [.no, .own (bagD t3.2), .dat (PyData.int t.1), .dat (PyData.int v_b), .dat ((eP PyData.int PyData.int) t5), .no, .no, .no, .no, .no]) ?_ rfl
  obtain ⟨t6, e_t6, h⟩ := bs h
  refine y_set (en := (eR rC)) (v := t6) 5 rfl (dc C_number.full hr0 (da_cons (de_var 2) (da_cons (de_var 3) da_nil)) ⟨_, _, _, rfl, (okC_some e_t6), rfl⟩) ?_ sc_law.nd
  obtain ⟨t7, e_t7, h⟩ := bs h
  obtain ⟨t8, e_t8, h⟩ := bs h
  obtain ⟨t12, e_t12, h⟩ := bs h
  refine ds_if (PW.pt (y_wor (w := t12) (dt_not (dt_b (dc C__law_same hr0 (da_cons (dc C__law_key hr0 (da_cons (de_var 5) da_nil) ⟨_, _, rfl, e_t7, rfl⟩) (da_cons (y_tup (ds := [((eP PyData.int PyData.int) (((0 : Int) - t5.1), t5.2)), (PyData.int (0 : Int))]) (da_cons (y_tup (ds := [(PyData.int ((0 : Int) - t5.1)), (PyData.int t5.2)]) (da_cons (de_sub de_int (de_ix (d := (PyData.int t5.1)) (de_var 4) de_int rfl)) (da_cons (de_ix (d := (PyData.int t5.2)) (de_var 4) de_int rfl) da_nil))) (da_cons de_int da_nil))) da_nil)) (sameC_R e_t8)))) (fun hk => by have h := ifF e_t12 hk; obtain ⟨t9, e_t9, h⟩ := bs h; obtain ⟨t10, e_t10, h⟩ := bs h; obtain ⟨t11, e_t11, h⟩ := bs h; have h := sm h; subst h; exact (dw_or1 (dt_not (dt_b (dc C__law_same hr0 (da_cons (dc C__law_key hr0 (da_cons (dcD C_number.dflt hr0 (da_cons (de_var 2) da_nil) (dds := [PyData.int 1]) ⟨_, _, _, rfl, (okC_some e_t9), rfl⟩ (fun _ => .cons (.int _) (.nil))) da_nil) ⟨_, _, rfl, e_t10, rfl⟩) (da_cons (y_tup (ds := [((eP PyData.int PyData.int) (((0 : Int) - t.1), (1 : Int))), (PyData.int (0 : Int))]) (da_cons (y_tup (ds := [(PyData.int ((0 : Int) - t.1)), (PyData.int (1 : Int))]) (da_cons (de_sub de_int (de_var 2)) (da_cons de_int da_nil))) (da_cons de_int da_nil))) da_nil)) (sameC_R e_t11)))))) (fun hk => ⟨(sm (ifT e_t12 hk)).symm, rfl⟩))) (fun hc => ?_) (fun hc => ?_)
  · have h := ifT h hc
    exact ds_ret de_bl (by cases h)
  · have h := ifF h hc
    refine ds_nil ?_
    obtain ⟨t18, e_t18, h⟩ := bs h
    refine y_set (en := PyData.str) (v := t18) 6 rfl (de_if (dt_eqI (de_ix (d := (PyData.int t5.2)) (de_var 4) de_int rfl) de_int) (fun hk => by have h := ifT e_t18 hk; obtain ⟨t13, e_t13, h⟩ := bs h; exact y_as (en := PyData.str) (y_strI (de_ix (d := (PyData.int t5.1)) (de_var 4) de_int rfl) e_t13 B.str) (sm h)) (fun hk => by have h := ifF e_t18 hk; obtain ⟨t14, e_t14, h⟩ := bs h; obtain ⟨t15, e_t15, h⟩ := bs h; obtain ⟨t16, e_t16, h⟩ := bs h; obtain ⟨t17, e_t17, h⟩ := bs h; exact y_as (en := PyData.str) (y_addS (y_addS (y_strI (de_ix (d := (PyData.int t5.1)) (de_var 4) de_int rfl) e_t14 B.str) de_str e_t15) (y_strI (de_ix (d := (PyData.int t5.2)) (de_var 4) de_int rfl) e_t16 B.str) e_t17) (sm h))) ?_ sc_law.nd
    refine ds_to (Γ := [.no, .own (bagD t3.2), .dat (PyData.int t.1), .dat (PyData.int v_b), .dat ((eP PyData.int PyData.int) t5), .dat ((eR rC) t6), .dat (PyData.str t18), .no, .no, .no]) ?_ rfl
    obtain ⟨t19, e_t19, h⟩ := bs h
    obtain ⟨t20, e_t20, h⟩ := bs h
    obtain ⟨t25, e_t25, h⟩ := bs h
    refine ds_if (PW.pt (y_wor (w := t25) (dt_not (dt_b (dc C__law_same hr0 (da_cons (y_strR C_Real___str__ hr B.str (de_var 5) ⟨_, _, rfl, e_t19, rfl⟩) (da_cons (de_var 6) da_nil)) (sameC_R e_t20)))) (fun hk => by have h := ifF e_t25 hk; obtain ⟨t21, e_t21, h⟩ := bs h; obtain ⟨t22, e_t22, h⟩ := bs h; obtain ⟨t23, e_t23, h⟩ := bs h; obtain ⟨t24, e_t24, h⟩ := bs h; have h := sm h; subst h; exact (dw_or1 (dt_not (dt_b (dc C__law_same hr0 (da_cons (y_eqRX C_Real___eq__ hr0 (de_var 5) (dc C_number.full hr0 (da_cons (y_mul de_int (de_ix (d := (PyData.int t5.1)) (de_var 4) de_int rfl) e_t21) (da_cons (y_mul de_int (de_ix (d := (PyData.int t5.2)) (de_var 4) de_int rfl) e_t22) da_nil)) ⟨_, _, _, rfl, (okC_some e_t23), rfl⟩) rfl) (da_cons de_bl da_nil)) (sameC_R e_t24)))))) (fun hk => ⟨(sm (ifT e_t25 hk)).symm, rfl⟩))) (fun hc => ?_) (fun hc => ?_)
    · have h := ifT h hc
      exact ds_ret de_bl (by cases h)
    · have h := ifF h hc
      refine ds_nil ?_
      obtain ⟨t26, e_t26, h⟩ := bs h
      obtain ⟨t27, e_t27, h⟩ := bs h
      obtain ⟨t28, e_t28, h⟩ := bs h
      obtain ⟨v_c, e_v_c, h⟩ := bs h
      refine y_set (en := eD) (v := (PyData.int t28)) 7 (sm e_v_c) (y_ix (en := PyData.int) (de_fz (y_lst (ds := [t26.1, t.1, (t.1 + (1 : Int))].map PyData.int) (da_cons (dcb C__law_wide hr0 (da_cons (de_varO 1) da_nil) ⟨_, t26, rfl, rfl, e_t26, rfl, rfl⟩) (da_cons (de_var 2) (da_cons (de_add (de_var 2) de_int) da_nil))))) (dcb C__law_take hr0 (da_cons (de_varO 1) (da_cons de_int da_nil)) (takeC_R (v := t27) e_t27)) e_t28) ?_ sc_law.nd
      obtain ⟨t29, e_t29, h⟩ := bs h
      obtain ⟨t30, e_t30, h⟩ := bs h
      obtain ⟨t31, e_t31, h⟩ := bs h
      obtain ⟨t32, e_t32, h⟩ := bs h
      obtain ⟨t36, e_t36, h⟩ := bs h
      refine ds_if (PW.pt (y_wor (w := t36) (dt_not (dt_b (dc C__law_same hr0 (da_cons (y_eqRX C_Real___eq__ hr0 (de_var 5) (dc C_number.full hr0 (da_cons (de_var 7) (da_cons (de_ix (d := (PyData.int t5.2)) (de_var 4) de_int rfl) da_nil)) ⟨_, _, _, rfl, (okC_some e_t29), rfl⟩) rfl) (da_cons (y_eqD (x := t31) (y := t5) (EqE.P eqE_int eqE_int) (ShE.P shE_int shE_int) hr0 (dc C__law_low hr0 (da_cons (cast_as (de_var 7) (asI_eq e_t30)) (da_cons (de_ix (d := (PyData.int t5.2)) (de_var 4) de_int rfl) da_nil)) ⟨_, _, _, rfl, e_t31, rfl⟩) (de_var 4)) da_nil)) (sameC_R e_t32)))) (fun hk => by have h := ifF e_t36 hk; obtain ⟨t33, e_t33, h⟩ := bs h; obtain ⟨t34, e_t34, h⟩ := bs h; obtain ⟨t35, e_t35, h⟩ := bs h; have h := sm h; subst h; exact (dw_or1 (dt_not (dt_b (dc C__law_same hr0 (da_cons (y_eqRX C_Real___eq__ hr0 (de_var 5) (dcD C_number.dflt hr0 (da_cons (de_var 7) da_nil) (dds := [PyData.int 1]) ⟨_, _, _, rfl, (okC_some e_t33), rfl⟩ (fun _ => .cons (.int _) (.nil))) rfl) (da_cons (y_eqQ (da := ((eP eD PyData.int) (v_c, (1 : Int)))) (db := ((eP PyData.int PyData.int) t5)) hr0 (y_tup (ds := [v_c, (PyData.int (1 : Int))]) (da_cons (de_var 7) (da_cons de_int da_nil))) (de_var 4) e_t34) da_nil)) (sameC_R e_t35)))))) (fun hk => ⟨(sm (ifT e_t36 hk)).symm, rfl⟩))) (fun hc => ?_) (fun hc => ?_)
      · have h := ifT h hc
        exact ds_ret de_bl (by cases h)
      · have h := ifF h hc
        refine ds_nil ?_
        obtain ⟨c, e_c, hL⟩ := bs h
        refine y_forC (en := eD) (fun s : Unit => [.no, .own (bagD t27.2), .dat (PyData.int t.1), .dat (PyData.int v_b), .dat ((eP PyData.int PyData.int) t5), .dat ((eR rC) t6), .dat (PyData.str t18), .dat v_c, .no, .no]) _ e_c (yi_list (xs := [(PyData.int t.1), ((eP PyData.int PyData.int) t5), (PyData.str t18), (eU ()), ((eP (eT PyData.int) PyData.int) (t6.1, t6.2.1)), ((eL (eR rC)) [t6])]) (en := eD) (de_fz (y_lst (ds := [(PyData.int t.1), ((eP PyData.int PyData.int) t5), (PyData.str t18), (eU ()), ((eP (eT PyData.int) PyData.int) (t6.1, t6.2.1)), ((eL (eR rC)) [t6])].map eD) (da_cons (de_var 2) (da_cons (de_var 4) (da_cons (de_var 6) (da_cons de_non (da_cons (y_tup (ds := [((eT PyData.int) t6.1), (PyData.int t6.2.1)]) (da_cons (y_fP O (de_var 5)) (da_cons (y_fL O (de_var 5)) da_nil))) (da_cons (de_fz (y_lst (ds := [t6].map (eR rC)) (da_cons (de_var 5) da_nil))) da_nil))))))))) (pt_name 8 sc_law.nd) (passes_of rfl) (fun s x v' h hK => ⟨_, ⟨rfl, rfl, rfl⟩, ?_⟩) (fun r hr1 => ?_)
        · clear e_c
          obtain ⟨t37, e_t37, h⟩ := bs h
          obtain ⟨t38, e_t38, h⟩ := bs h
          refine ds_if (dt_not (dt_b (dc C__law_same hr0 (da_cons (y_eqRD Rq C_Real___eq__ hr0 (de_var 5) (de_var 8) e_t37) (da_cons de_bl da_nil)) (sameC_R e_t38)))) (fun hc => ?_) (fun hc => ?_)
          · have h := ifT h hc
            exact ds_ret de_bl (by have q := hK _ (sm h).symm; subst q; cases hL)
          · have h := ifF h hc
            refine ds_nil ?_
            have h := sm h
            subst h
            refine ds_drop 8 ?_
            exact ds_nil ⟨_, rfl, rfl⟩
        · subst hr1
          have h := hL
          refine ds_to (Γ := [.no, .own (bagD t27.2), .dat (PyData.int t.1), .dat (PyData.int v_b), .dat ((eP PyData.int PyData.int) t5), .dat ((eR rC) t6), .dat (PyData.str t18), .dat v_c, .no, .no]) ?_ rfl
          obtain ⟨t39, e_t39, h⟩ := bs h
          refine y_set (en := eD) (v := t39.1) 7 rfl (dcb C__law_odd hr0 (da_cons (de_varO 1) da_nil) ⟨_, t39, rfl, rfl, e_t39, rfl, rfl⟩) ?_ sc_law.nd
          obtain ⟨c1, e_c1, hL1⟩ := bs h
          refine y_forC (en := (eP eD eD)) (fun s : Unit => [.no, .own (bagD t39.2), .dat (PyData.int t.1), .dat (PyData.int v_b), .dat ((eP PyData.int PyData.int) t5), .dat ((eR rC) t6), .dat (PyData.str t18), .dat t39.1, .no, .no]) _ e_c1 (yi_list (xs := [(t39.1, (PyData.int v_b)), ((PyData.int t.1), t39.1), ((PyData.int t.1), (PyData.int (0 : Int))), (t39.1, (PyData.int (0 : Int)))]) (en := (eP eD eD)) (de_fz (y_lst (ds := [(t39.1, (PyData.int v_b)), ((PyData.int t.1), t39.1), ((PyData.int t.1), (PyData.int (0 : Int))), (t39.1, (PyData.int (0 : Int)))].map (eP eD eD)) (da_cons (y_tup (ds := [t39.1, (PyData.int v_b)]) (da_cons (de_var 7) (da_cons (de_var 3) da_nil))) (da_cons (y_tup (ds := [(PyData.int t.1), t39.1]) (da_cons (de_var 2) (da_cons (de_var 7) da_nil))) (da_cons (y_tup (ds := [(PyData.int t.1), (PyData.int (0 : Int))]) (da_cons (de_var 2) (da_cons de_int da_nil))) (da_cons (y_tup (ds := [t39.1, (PyData.int (0 : Int))]) (da_cons (de_var 7) (da_cons de_int da_nil))) da_nil))))))) (pg_tgt (tgt_pair 8 9) (pt_pair 8 9 sc_law.nd)) (passes_of rfl) (fun s x v' h hK1 => ⟨_, ⟨_, _, rfl, rfl, rfl, rfl, rfl, rfl⟩, ?_⟩) (fun r1 hr1 => ?_)
          · clear e_c1
            refine ds_to (Γ := [.no, .own (bagD t39.2), .dat (PyData.int t.1), .dat (PyData.int v_b), .dat ((eP PyData.int PyData.int) t5), .dat ((eR rC) t6), .dat (PyData.str t18), .dat t39.1, .dat x.1, .dat x.2]) ?_ rfl
            obtain ⟨t40, e_t40, h⟩ := bs h
            obtain ⟨t41, e_t41, h⟩ := bs h
            obtain ⟨t42, e_t42, h⟩ := bs h
            refine ds_if (dt_not (dt_b (dc C__law_same hr0 (da_cons (y_ask (cl := cl) (z := t40) ask nt.1 hr (LamX.lamS_by (sc := defScope s_law) (by decide +kernel)) askM e_t41 (fun t hz _ _ _ _ _ _ _ hr1 => by subst hz; exact dc C_number.full hr1 (da_cons (de_var 8) (da_cons (de_var 9) da_nil)) ⟨_, _, _, rfl, e_t40, rfl⟩) (fun c hz _ _ _ _ _ _ _ hr1 => by subst hz; exact de_callX C_number.full hr1 (takes_of rfl rfl rfl rfl) (da_cons (de_var 8) (da_cons (de_var 9) da_nil)) ⟨_, _, _, rfl, e_t40, rfl⟩)) (da_cons (y_tup (ds := [(PyData.str ("refused" : Str)), (PyData.str ("NoRatio" : Str))]) (da_cons de_str (da_cons de_str da_nil))) da_nil)) (sameC_R e_t42)))) (fun hc => ?_) (fun hc => ?_)
            · have h := ifT h hc
              exact ds_ret de_bl (by have q := hK1 _ (sm h).symm; subst q; cases hL1)
            · have h := ifF h hc
              refine ds_nil ?_
              have h := sm h
              subst h
              refine ds_drop 8 ?_
              refine ds_drop 9 ?_
              exact ds_nil ⟨_, rfl, rfl⟩
          · subst hr1
            have h := hL1
            obtain ⟨t43, e_t43, h⟩ := bs h
            obtain ⟨t44, e_t44, h⟩ := bs h
            obtain ⟨t45, e_t45, h⟩ := bs h
            refine ds_if (dt_not (dt_b (dc C__law_same hr0 (da_cons (y_ask (cl := cl) (z := t43) ask nt.1 hr (LamX.lamS_by (sc := defScope s_law) (by decide +kernel)) askM e_t44 (fun t hz _ _ _ _ _ _ _ hr1 => by subst hz; exact dcD C_number.dflt hr1 (da_cons (de_var 7) da_nil) (dds := [PyData.int 1]) ⟨_, _, _, rfl, e_t43, rfl⟩ (fun _ => .cons (.int _) (.nil))) (fun c hz _ _ _ _ _ _ _ hr1 => by subst hz; exact dcDX C_number.dflt hr1 (takes_of rfl rfl rfl rfl) (da_cons (de_var 7) da_nil) (dds := [PyData.int 1]) ⟨_, _, _, rfl, e_t43, rfl⟩ (fun _ => .cons (.int _) (.nil)))) (da_cons (y_tup (ds := [(PyData.str ("refused" : Str)), (PyData.str ("NoRatio" : Str))]) (da_cons de_str (da_cons de_str da_nil))) da_nil)) (sameC_R e_t45)))) (fun hc => ?_) (fun hc => ?_)
            · have h := ifT h hc
              exact ds_ret de_bl (by cases h)
            · have h := ifF h hc
              refine ds_nil ?_
              exact ds_nil rfl
end
end
end
theorem all_mk {l : PySem.W.OpenLaw} {w : World} {K : PySem.W.Frag} {h : Heap} {mg : Str → Option Value} {fa : Addr} (X : K.In h) (G : h.Ns mainGlobals mg) (hfa : mg "law" = some (.ref fa)) (hS : ∀ base : Heap, K.In base → base.Ns mainGlobals mg → base.NoSeer) (hTr : l.prog.given.tree = none) (c : AM.SaysZ fasZ fnsZ tfZ exZ w h K) : LamX.LawAtS l w K (L2.CX l.prog w) 40 63 "script" mg fa h := by
  have hex : (exsZ K).all id = true := AM.z_ex c
  have e := hfa.symm.trans (AM.z_glo c X G 0 rfl)
  cases e
  have B : Bt mg := ⟨AM.z_free c X G 1 rfl, AM.z_free c X G 2 rfl, AM.z_free c X G 3 rfl, AM.z_free c X G 4 rfl, AM.z_free c X G 5 rfl, AM.z_free c X G 6 rfl, AM.z_free c X G 7 rfl, AM.z_free c X G 8 rfl, AM.z_free c X G 9 rfl, AM.z_free c X G 10 rfl, AM.z_free c X G 11 rfl, AM.z_free c X G 12 rfl, AM.z_free c X G 13 rfl, AM.z_free c X G 14 rfl, AM.z_free c X G 15 rfl, AM.z_free c X G 16 rfl, AM.z_free c X G 17 rfl, AM.z_free c X G 18 rfl, AM.z_free c X G 19 rfl⟩
  have D_greatest : Def K mg "greatest" s_greatest ["one", "other"] := AM.z_Def c X G 0 20 rfl rfl (fun _ _ _ _ _ _ us hl => match us, hl with | [_, _], _ => rfl)
  have D_is_whole : Def K mg "is_whole" s_is_whole ["thing"] := AM.z_Def c X G 1 21 rfl rfl (fun _ _ _ _ _ _ us hl => match us, hl with | [_], _ => rfl)
  have D_lowest : Def K mg "lowest" s_lowest ["top", "bottom"] := AM.z_Def c X G 2 22 rfl rfl (fun _ _ _ _ _ _ us hl => match us, hl with | [_, _], _ => rfl)
  obtain ⟨_, _, _, _, _, _, _, _, _, t_ratio, _, _, _, _, _, l_ratio, h_ratio, k_ratio, d_ratio⟩ := AM.z_def1 c 3 rfl rfl
  have F_ratio : FunD K "ratio" "ratio" (defArgs s_ratio) (defBody s_ratio) (defScope s_ratio) [.int 1] [] _ _ := ⟨⟨_, _, _, _, _, _, _, _, _, _, rfl, l_ratio, h_ratio, .inr ⟨by simp, t_ratio, _, _, _, rfl, d_ratio, rfl, (.cons ⟨_, rfl⟩ .nil)⟩, .inl rfl⟩, k_ratio⟩
  obtain ⟨bd_ratio, bv_ratio, bb_ratio⟩ := F_ratio.binds1 (ps := ["top", "bottom"]) 1 0 (by simp) rfl (fun _ _ _ _ _ _ _ us its h1 h2 => match us, its, h1, h2 with | [_], [_], _, _ => ⟨_, rfl, rfl⟩)
  have D_ratio : DefV K mg "ratio" s_ratio ["top", "bottom"] [.int 1] 1 ["bottom"] := ⟨_, _, _, ⟨⟨_, _, _, _, _, _, _, _, _, _, rfl, l_ratio, h_ratio⟩, k_ratio⟩, AM.z_glo c X G 23 rfl, (fun s us kin hl => match us, hl with | [_, _], _ => bindsTo_d kin d_ratio rfl ⟨_, rfl, rfl⟩), bv_ratio, bb_ratio, ⟨fun s us ws kin h1 h2 => match us, ws, h1, h2 with | [_], [_], _, _ => bindsTo_d kin d_ratio rfl ⟨_, rfl, rfl⟩, fun r1 r2 => r1.append r2⟩⟩
  have D_degree_of : Def K mg "degree_of" s_degree_of ["poly"] := AM.z_Def c X G 4 24 rfl rfl (fun _ _ _ _ _ _ us hl => match us, hl with | [_], _ => rfl)
  have D_Real___eq__ : DefM K (He.ga K "Real") "__eq__" "Real.__eq__" s_Real___eq__ ["self", "other"] := AM.z_DefM c 6 25 rfl rfl (fun _ _ _ _ _ _ us hl => match us, hl with | [_, _], _ => rfl)
  have D_Real___str__ : DefM K (He.ga K "Real") "__str__" "Real.__str__" s_Real___str__ ["self"] := AM.z_DefM c 7 26 rfl rfl (fun _ _ _ _ _ _ us hl => match us, hl with | [_], _ => rfl)
  have D_ratio_text : Def K mg "ratio_text" s_ratio_text ["one"] := AM.z_Def c X G 8 27 rfl rfl (fun _ _ _ _ _ _ us hl => match us, hl with | [_], _ => rfl)
  have D_term_text : Def K mg "term_text" s_term_text ["one", "power", "first"] := AM.z_Def c X G 9 28 rfl rfl (fun _ _ _ _ _ _ us hl => match us, hl with | [_, _, _], _ => rfl)
  have D_poly_text : Def K mg "poly_text" s_poly_text ["poly"] := AM.z_Def c X G 10 29 rfl rfl (fun _ _ _ _ _ _ us hl => match us, hl with | [_], _ => rfl)
  have D_real_text : Def K mg "real_text" s_real_text ["one"] := AM.z_Def c X G 11 30 rfl rfl (fun _ _ _ _ _ _ us hl => match us, hl with | [_], _ => rfl)
  obtain ⟨_, _, _, _, _, _, _, _, _, t_number, _, _, _, _, _, l_number, h_number, k_number, d_number⟩ := AM.z_def1 c 12 rfl rfl
  have F_number : FunD K "number" "number" (defArgs s_number) (defBody s_number) (defScope s_number) [.int 1] [] _ _ := ⟨⟨_, _, _, _, _, _, _, _, _, _, rfl, l_number, h_number, .inr ⟨by simp, t_number, _, _, _, rfl, d_number, rfl, (.cons ⟨_, rfl⟩ .nil)⟩, .inl rfl⟩, k_number⟩
  obtain ⟨bd_number, bv_number, bb_number⟩ := F_number.binds1 (ps := ["top", "bottom"]) 1 0 (by simp) rfl (fun _ _ _ _ _ _ _ us its h1 h2 => match us, its, h1, h2 with | [_], [_], _, _ => ⟨_, rfl, rfl⟩)
  have D_number : DefV K mg "number" s_number ["top", "bottom"] [.int 1] 1 ["bottom"] := ⟨_, _, _, ⟨⟨_, _, _, _, _, _, _, _, _, _, rfl, l_number, h_number⟩, k_number⟩, AM.z_glo c X G 31 rfl, (fun s us kin hl => match us, hl with | [_, _], _ => bindsTo_d kin d_number rfl ⟨_, rfl, rfl⟩), bv_number, bb_number, ⟨fun s us ws kin h1 h2 => match us, ws, h1, h2 with | [_], [_], _, _ => bindsTo_d kin d_number rfl ⟨_, rfl, rfl⟩, fun r1 r2 => r1.append r2⟩⟩
  have D__law_well : Def K mg "_law_well" s__law_well ["cell", "turn"] := AM.z_Def c X G 13 32 rfl rfl (fun _ _ _ _ _ _ us hl => match us, hl with | [_, _], _ => rfl)
  have D__law_take : Def K mg "_law_take" s__law_take ["bag", "many"] := AM.z_Def c X G 14 33 rfl rfl (fun _ _ _ _ _ _ us hl => match us, hl with | [_, _], _ => rfl)
  have D__law_bags : Def K mg "_law_bags" s__law_bags ["script", "most"] := AM.z_Def c X G 15 34 rfl rfl (fun _ _ _ _ _ _ us hl => match us, hl with | [_, _], _ => rfl)
  have D__law_same : Def K mg "_law_same" s__law_same ["a", "b"] := AM.z_Def c X G 16 35 rfl rfl (fun _ _ _ _ _ _ us hl => match us, hl with | [_, _], _ => rfl)
  have D__law_low : Def K mg "_law_low" s__law_low ["t", "b"] := AM.z_Def c X G 17 36 rfl rfl (fun _ _ _ _ _ _ us hl => match us, hl with | [_, _], _ => rfl)
  have D__law_int : Def K mg "_law_int" s__law_int ["bag"] := AM.z_Def c X G 18 37 rfl rfl (fun _ _ _ _ _ _ us hl => match us, hl with | [_], _ => rfl)
  have D__law_wide : Def K mg "_law_wide" s__law_wide ["bag"] := AM.z_Def c X G 19 38 rfl rfl (fun _ _ _ _ _ _ us hl => match us, hl with | [_], _ => rfl)
  have D__law_is_int : Def K mg "_law_is_int" s__law_is_int ["x"] := AM.z_Def c X G 20 39 rfl rfl (fun _ _ _ _ _ _ us hl => match us, hl with | [_], _ => rfl)
  have D__law_odd : Def K mg "_law_odd" s__law_odd ["bag"] := AM.z_Def c X G 21 40 rfl rfl (fun _ _ _ _ _ _ us hl => match us, hl with | [_], _ => rfl)
  have D__law_key : Def K mg "_law_key" s__law_key ["x"] := AM.z_Def c X G 22 41 rfl rfl (fun _ _ _ _ _ _ us hl => match us, hl with | [_], _ => rfl)
  have D__law_ask : Def K mg "_law_ask" s__law_ask ["deed"] := AM.z_Def c X G 23 42 rfl rfl (fun _ _ _ _ _ _ us hl => match us, hl with | [_], _ => rfl)
  obtain ⟨oc_law, od_law, kV_law, dc_law, pm_law, an_law, ct_law, sl_law, l_law, h_law, k_law⟩ := AM.z_defT c 24 rfl rfl
  have X_NoRatio : Xcl K mg "NoRatio" (He.ga K "NoRatio") := AM.z_X c X G 43 44 rfl rfl
  have X_RootError : Xcl K mg "RootError" (He.ga K "RootError") := AM.z_X c X G 45 46 rfl rfl
  have OC : OCls K (He.ga K "Real") := ⟨He.cls_ok (AM.z_fact c 47 rfl), of_decide_eq_true (AM.z_all hex 0 rfl), of_decide_eq_true (AM.z_all hex 1 rfl), of_decide_eq_true (AM.z_all hex 2 rfl), of_decide_eq_true (AM.z_all hex 3 rfl), fun T hT => by simp only [List.mem_cons, List.not_mem_nil, or_false] at hT; rcases hT with rfl | rfl | rfl | rfl | rfl; exact of_decide_eq_true (AM.z_all hex 4 rfl); exact of_decide_eq_true (AM.z_all hex 5 rfl); exact of_decide_eq_true (AM.z_all hex 6 rfl); exact of_decide_eq_true (AM.z_all hex 7 rfl); exact of_decide_eq_true (AM.z_all hex 8 rfl)⟩
  obtain ⟨_, _, _, _, _, _, _, _, _, l_Real___init__, h_Real___init__, k_Real___init__⟩ := AM.z_def c 5 rfl rfl
  have F_Real___init__ := fun_mk (st := s_Real___init__) l_Real___init__ h_Real___init__ k_Real___init__
  refine law_atT (c := (He.cT K ("law", none)).1) (Pt := (He.cT K ("law", none)).2) (q := lawQ ++ ("<lambda>" : Str)) X l_law (c.hd ("law", none) (by simp [tfZ])) (c.out ("law", none) (by simp [tfZ])) (c.empty ("law", none) (by simp [tfZ])) (fun s v => .of_eq rfl) (fun base kb nb TB_law => ?_)
  have Bg : Big l.prog base := ⟨hS base kb nb, hTr⟩
  have OR : RCl l.prog w K mg base 2 (He.ga K "Real") := ⟨⟨1, by decide, ocl3 (k := 0) (st := s_Real___init__) (qual := "Real.__init__") OC (AM.z_glo c X G 48 rfl) (He.mkr_ok (AM.z_fact c 52 rfl)) (fun_g F_Real___init__) (F_Real___init__.binds (ps := ["self", "poly", "place", "held"]) fun _ _ _ _ _ _ us hl => match us, hl with | [_, _, _, _], _ => rfl) ⟨rfl, rfl, rfl, by decide +kernel, rfl, by decide +kernel, by decide +kernel⟩ (by decide) (He.noat_ok (AM.z_fact c 49 rfl)) (He.noat_ok (AM.z_fact c 50 rfl)) (He.noat_ok (AM.z_fact c 51 rfl)) (fun cdv A outer s H E => pss_cons (ps_fld (pv 0) (pv 1) rfl) (pss_cons (ps_fld (pv 0) (pv 2) rfl) (pss_one (ps_fld (pv 0) (pv 3) rfl))))⟩, (He.noat_ok (AM.z_fact c 49 rfl)), (He.noat_ok (AM.z_fact c 50 rfl)), (He.noat_ok (AM.z_fact c 51 rfl))⟩
  have C_greatest := c_greatest (P := l.prog) (w := w) (base := base) (k := 0) D_greatest B
  have C_is_whole := c_is_whole (P := l.prog) (w := w) (base := base) (k := 0) D_is_whole B
  have C_lowest := c_lowest (P := l.prog) (w := w) (base := base) (k := 1) D_lowest Bg (C_greatest.mono (by decide))
  have C_ratio := c_ratio (cl := clOf [(.NoRatio, He.ga K "NoRatio"), (.RootError, He.ga K "RootError")]) (P := l.prog) (w := w) (base := base) (k := 35) (AM.defV_def D_ratio) X_NoRatio (C_is_whole.mono (by decide)) (C_lowest.mono (by decide))
  have C_degree_of := c_degree_of (P := l.prog) (w := w) (base := base) (k := 0) D_degree_of B
  have C_Real___eq__ := c_Real___eq__ (rC := (He.ga K "Real")) (P := l.prog) (w := w) (base := base) (k := 2) D_Real___eq__ B (OR.mono (by decide)) ⟨fun T hT => by simp only [TL, List.mem_cons, List.not_mem_nil, or_false] at hT; rcases hT with rfl | rfl | rfl | rfl | rfl | rfl; exact of_decide_eq_true (AM.z_all hex 9 rfl); exact of_decide_eq_true (AM.z_all hex 10 rfl); exact of_decide_eq_true (AM.z_all hex 11 rfl); exact of_decide_eq_true (AM.z_all hex 12 rfl); exact of_decide_eq_true (AM.z_all hex 13 rfl); exact of_decide_eq_true (AM.z_all hex 14 rfl), fun T hT => by simp only [TL, List.mem_cons, List.not_mem_nil, or_false] at hT; rcases hT with rfl | rfl | rfl | rfl | rfl | rfl; exact of_decide_eq_true (AM.z_all hex 15 rfl); exact of_decide_eq_true (AM.z_all hex 16 rfl); exact of_decide_eq_true (AM.z_all hex 17 rfl); exact of_decide_eq_true (AM.z_all hex 18 rfl); exact of_decide_eq_true (AM.z_all hex 19 rfl); exact of_decide_eq_true (AM.z_all hex 20 rfl), of_decide_eq_true (AM.z_all hex 21 rfl)⟩
  have C_ratio_text := c_ratio_text (P := l.prog) (w := w) (base := base) (k := 0) D_ratio_text
  have C_term_text := c_term_text (P := l.prog) (w := w) (base := base) (k := 0) D_term_text B
  have C_poly_text := c_poly_text (P := l.prog) (w := w) (base := base) (k := 1) D_poly_text B (C_degree_of.mono (by decide)) (C_term_text.mono (by decide))
  have C_real_text := c_real_text (rC := (He.ga K "Real")) (P := l.prog) (w := w) (base := base) (k := 35) D_real_text (OR.mono (by decide)) (C_degree_of.mono (by decide)) (C_ratio_text.mono (by decide)) (C_lowest.mono (by decide)) (C_poly_text.mono (by decide))
  have C_Real___str__ := c_Real___str__ (rC := (He.ga K "Real")) (P := l.prog) (w := w) (base := base) (k := 36) D_Real___str__ (C_real_text.mono (by decide))
  have C_number := c_number (cl := clOf [(.NoRatio, He.ga K "NoRatio"), (.RootError, He.ga K "RootError")]) (rC := (He.ga K "Real")) (P := l.prog) (w := w) (base := base) (k := 36) D_number (OR.mono (by decide)) (C_ratio.mono (by decide))
  have C__law_well := c__law_well (P := l.prog) (w := w) (base := base) (k := 0) D__law_well
  have C__law_take := c__law_take (P := l.prog) (w := w) (base := base) (k := 0) D__law_take
  have C__law_bags := c__law_bags (P := l.prog) (w := w) (base := base) (k := 1) D__law_bags B (C__law_well.mono (by decide))
  have C__law_same := c__law_same (P := l.prog) (w := w) (base := base) (k := 0) D__law_same B 12
  have C__law_low := c__law_low (P := l.prog) (w := w) (base := base) (k := 0) D__law_low B Bg
  have C__law_int := c__law_int (P := l.prog) (w := w) (base := base) (k := 1) D__law_int (C__law_take.mono (by decide))
  have C__law_wide := c__law_wide (P := l.prog) (w := w) (base := base) (k := 2) D__law_wide (C__law_take.mono (by decide)) (C__law_int.mono (by decide))
  have C__law_is_int := c__law_is_int (P := l.prog) (w := w) (base := base) (k := 0) D__law_is_int B
  have C__law_odd := c__law_odd (P := l.prog) (w := w) (base := base) (k := 1) D__law_odd (C__law_take.mono (by decide))
  have C__law_key := c__law_key (rC := (He.ga K "Real")) (P := l.prog) (w := w) (base := base) (k := 2) D__law_key B (OR.mono (by decide)) (of_decide_eq_true (AM.z_all hex 21 rfl)) (C__law_is_int.mono (by decide))
  exact c_law (cl := clOf [(.NoRatio, He.ga K "NoRatio"), (.RootError, He.ga K "RootError")]) (rC := (He.ga K "Real")) (P := l.prog) (w := w) (base := base) (k := 37) l_law h_law TB_law B (OR.mono (by decide)) ⟨fun T hT => by simp only [TL, List.mem_cons, List.not_mem_nil, or_false] at hT; rcases hT with rfl | rfl | rfl | rfl | rfl | rfl; exact of_decide_eq_true (AM.z_all hex 9 rfl); exact of_decide_eq_true (AM.z_all hex 10 rfl); exact of_decide_eq_true (AM.z_all hex 11 rfl); exact of_decide_eq_true (AM.z_all hex 12 rfl); exact of_decide_eq_true (AM.z_all hex 13 rfl); exact of_decide_eq_true (AM.z_all hex 14 rfl), fun T hT => by simp only [TL, List.mem_cons, List.not_mem_nil, or_false] at hT; rcases hT with rfl | rfl | rfl | rfl | rfl | rfl; exact of_decide_eq_true (AM.z_all hex 15 rfl); exact of_decide_eq_true (AM.z_all hex 16 rfl); exact of_decide_eq_true (AM.z_all hex 17 rfl); exact of_decide_eq_true (AM.z_all hex 18 rfl); exact of_decide_eq_true (AM.z_all hex 19 rfl); exact of_decide_eq_true (AM.z_all hex 20 rfl), of_decide_eq_true (AM.z_all hex 21 rfl)⟩ (C__law_wide.mono (by decide)) (C__law_take.mono (by decide)) (C__law_low.mono (by decide)) (C_number.mono (by decide)) (C__law_same.mono (by decide)) (C__law_key.mono (by decide)) (C_Real___str__.mono (by decide)) (C_Real___eq__.mono (by decide)) (C__law_odd.mono (by decide)) X_NoRatio X_RootError (of_decide_eq_true (AM.z_all hex 22 rfl)) D__law_ask (C__law_bags.mono (by decide))
end LW
open PySem PySem.W PySem.Calls PyProof.Rows
set_option maxHeartbeats 0 in
theorem PySem.Challenge.cw_trueroots_k23_numbers_as_reals_holds : PySem.Challenge.rw_trueroots_k23_numbers_as_reals.Holds := by
  w_on; o_law
  refine LW.frontZ (by first | assumption | decide +kernel) ?hw ?hc
  case hw => w_witness2
  case hc =>
    refine AM.walk_seerZ (l := PySem.Challenge.rw_trueroots_k23_numbers_as_reals) (n := 63) (k := 40) (x := "script") (CX := fun w => L2.CX PySem.Challenge.rw_trueroots_k23_numbers_as_reals.prog w) rfl (by decide) LW.f_df ⟨rfl, by decide, by decide⟩ LW.f_imp ?F (fun _ _ _ _ _ h => AM.cx_no h)
    intro w mg fa h K KX c G hmg0 hS
    exact LW.all_mk KX G (by rw [← LW.f_nm]; exact hmg0) hS (by rfl) c
