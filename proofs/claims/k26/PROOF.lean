import PyProof.Rows.All
import Wide.All
import OpenK.AllK
import Wide.FinOn
import PySem.Challenge.RW_givenonce_k26_whole_functions_completed
import HandS.ExcInit
import HandS.ExcOwn
import HandS.ExcIs
import HandS.WordsExc
import HandS.HotCalls
import KE.KExcInit
import KE.KExcIs
import KE.KTryMore
import HandS.ExcField
import HandS.TupMul
import HandS.Lambda
import HandS.EndTab
import PyProof.ReprRoads
import HandS.ForMost
import HandS.IsInst
import HandS.Walk
import HandS.Evl
import KE.KDictKeyed
import HandS.SortInts
import HandS.TupAny
import HandS.FStr
import HandS.Style
import HandS.Conv
import HandS.Exc
import KE.DatumOrd
import HandS.Dict
import KE.DatumMoreOrd
import KE.KNestM
import HandS.SetFor
import HandS.Strs
import HandS.Deep
import HandS.MakeKwOnly
import HandS.SlotsOwn
import OpenK.KOps
import PyProof.Rows.ReprOcc
import HandS.Star
import HandS.Finally
import KE.KWithOwn
import HandS.NoneIn
import HandS.More
import HandS.WordsDict
import KE.SortData
import HandS.DictSubView
import KE.KDictSum
import KE.KDictDisplayH
import HandS.DictComp
import HandS.DictTup
import KE.KDictItemsList
import HandS.ExcValue
import KE.KDictPairs
import HandS.Words
import HandS.Defaults
import HandS.Head0
import HandS.Head1
import HandS.Head2
import HandS.HeadEnd
import HandS.HeadHook1
import HandS.HeadHook2
import HandS.HeadHook3
import HandS.HeadHook4
set_option maxHeartbeats 1000000
/-! the head's run: what it says, before all else (memory) -/
namespace HK
open PySem PySem.Spec PyProof.Rows L2
/-- a def of the text: where it stands, its name, its qualified name -/
def dd (p : Str × Option Str) (x qual : Str) (st : Stmt) : He.DefD := ⟨p, x, qual, defArgs st, defBody st, defScope st, [], []⟩
abbrev exOf (xl : List (PySem.W.Frag → Bool)) (K : PySem.W.Frag) : Bool := xl.all fun f => f K
theorem run3 {α β γ δ : Type} {o : Option α} {f : α → β} {g : α → γ} {h : α → δ} {b : β} {c : γ} {d : δ} (h1 : o.map (fun s => (f s, g s)) = some (b, c)) (h2 : o.map h = some d) : o.map (fun s => (f s, g s, h s)) = some (b, c, d) := by
  cases o with
  | none => cases h1
  | some s =>
    have e1 : (f s, g s) = (b, c) := Option.some.inj h1
    have e2 : h s = d := Option.some.inj h2
    cases e1; cases e2; rfl
theorem run5 {α β γ : Type} {o : Option α} {f : α → β × γ} {b : β × γ} (h1 : o.map (fun s => (f s).1) = some b.1) (h2 : o.map (fun s => (f s).2) = some b.2) : o.map f = some b := by
  cases o with
  | none => cases h1
  | some s =>
    have e1 : (f s).1 = b.1 := Option.some.inj h1
    have e2 : (f s).2 = b.2 := Option.some.inj h2
    exact congrArg some (Prod.ext e1 e2)
/-- a def m(self, *v, k=None) -/
def ddV (kn : Str) (p : Str × Option Str) (x qual : Str) (st : Stmt) : He.DefD := ⟨p, x, qual, defArgs st, defBody st, defScope st, [], [(kn, .non)]⟩
/-- what some of the module's names name, these in the order of the text -/
def pickN : List DictEntry → List Str → List Addr
  | [], _ => []
  | _ :: _, [] => []
  | e :: es, x :: xs => if e.key.isStr x then He.refV e.val ++ pickN es xs else pickN es (x :: xs)
def goN (g : Addr → Option Obj) : Nat → List Addr → List Addr
  | 0, as => as
  | n + 1, as => goN g n (He.growD g as)
/-- what these names reach in n steps more, and the module's names -/
def asN (need : List Str) (n : Nat) (g : Addr → Option Obj) : List Addr := mainGlobals :: goN g n (match g mainGlobals with
  | some o => (match o.data with
    | .dict es _ => pickN es.toList need
    | _ => [])
  | none => [])
/-- He.hookX with any way to the objects -/
def obsY (as : (Addr → Option Obj) → List Addr) (fa : List He.Fa) (fn : List He.DefD) (ts : List He.Tab) (tf : List He.Defn) (ex : PySem.W.Frag → Bool) (g : Addr → Option Obj) : He.AlX := (He.obsT fa fn ts (He.frT g (as g)), ex (He.frT g (as g)) && He.tabsB g tf (He.frT g (as g)))
theorem saysY_of {as : (Addr → Option Obj) → List Addr} {fa : List He.Fa} {fn : List He.DefD} {ts : List He.Tab} {tf : List He.Defn} {ex : PySem.W.Frag → Bool} {w : World} {h : Heap} (e : obsY as fa fn ts tf ex h.get? = He.valX fn ts w) : He.SaysX fa fn ts tf ex w h (He.frT h.get? (as h.get?)) := by
  have e1 : He.obsT fa fn ts (He.frT h.get? (as h.get?)) = He.valT fn ts w := congrArg (fun z : He.AlX => z.1) e
  have e2 : (ex (He.frT h.get? (as h.get?)) && He.tabsB h.get? tf (He.frT h.get? (as h.get?))) = true := congrArg (fun z : He.AlX => z.2) e
  obtain ⟨h1, h2⟩ := Bool.and_eq_true_iff.mp e2
  have key : ∀ p ∈ tf, PySem.W.codeHdIn (He.frT h.get? (as h.get?)) (He.cT (He.frT h.get? (as h.get?)) p).1 (He.cT (He.frT h.get? (as h.get?)) p).2 = true ∧ ∃ o, h.get? (He.cT (He.frT h.get? (as h.get?)) p).2 = some o ∧ He.emptyTab o = true := fun p hp => by
    obtain ⟨h3, h4⟩ := Bool.and_eq_true_iff.mp (List.all_eq_true.mp h2 p hp)
    refine ⟨h3, ?_⟩
    cases q : h.get? (He.cT (He.frT h.get? (as h.get?)) p).2 with
    | none =>
      rw [q] at h4
      cases h4
    | some o =>
      rw [q] at h4
      exact ⟨o, rfl, h4⟩
  exact ⟨e1, h1, fun p hp => (key p hp).1, fun p hp => by
    obtain ⟨_, o, q, z⟩ := key p hp
    exact He.frT_none q z, fun p hp => by
    obtain ⟨_, o, q, z⟩ := key p hp
    rw [q, He.emptyTab_eq z]⟩
def hookY (as : (Addr → Option Obj) → List Addr) (fa : List He.Fa) (fn : List He.DefD) (ts : List He.Tab) (tf : List He.Defn) (ex : PySem.W.Frag → Bool) : PySem.W.Hook where
  α := He.AlX
  obs := fun s => obsY as fa fn ts tf ex s.heap.get?
  val := fun w => He.valX fn ts w
  says := fun w h => ∃ K : PySem.W.Frag, K.In h ∧ He.SaysX fa fn ts tf ex w h K
  of := fun _ _ e => ⟨_, He.frT_in, saysY_of e⟩
  keeps := fun _ _ _ ⟨K, hK, c⟩ k => ⟨K, PySem.W.Frag.In.keeps hK k, ⟨c.t, c.more, c.hd, c.out, fun p hp => k _ _ (c.empty p hp)⟩⟩
theorem obsY_eq {as : (Addr → Option Obj) → List Addr} {fa : List He.Fa} {fn : List He.DefD} {ts : List He.Tab} {tf : List He.Defn} {ex : PySem.W.Frag → Bool} {g : Addr → Option Obj} {s : Shared} (h : ∀ a, g a = s.heap.get? a) : obsY as fa fn ts tf ex g = (hookY as fa fn ts tf ex).obs s := by
  have e : g = s.heap.get? := funext h
  rw [e] <;> rfl
end HK

set_option Elab.async false
set_option linter.all false
set_option maxRecDepth 100000
set_option maxHeartbeats 4000000
namespace My
open PySem PySem.Spec PyProof.Rows L2
def topS (i : Nat) : Stmt := PySem.Challenge.pw_givenonce_k26_whole_functions_completed.main.body.getD i (.Pass ⟨0, 0, 0, 0⟩)
abbrev s_is_between : Stmt := (topS 7)
abbrev s_check_amount : Stmt := (topS 8)
abbrev s_is_sight : Stmt := (topS 11)
abbrev s_check_sights : Stmt := (topS 12)
abbrev s_best_parts : Stmt := (topS 13)
abbrev s_barring_of : Stmt := (topS 14)
abbrev s_fits : Stmt := (topS 15)
abbrev s_barring_parts : Stmt := (topS 16)
abbrev s_least_values : Stmt := (topS 17)
abbrev s__law_jug : Stmt := (topS 19)
abbrev s__law_pour : Stmt := (topS 20)
abbrev s__law_one : Stmt := (topS 21)
abbrev s__law_sights : Stmt := (topS 22)
abbrev s__law_least : Stmt := (topS 23)
abbrev s__law_right : Stmt := (topS 24)
abbrev s_law : Stmt := (topS 25)
def fnl : List He.DefD := [HK.dd ("is_between", none) "is_between" "is_between" s_is_between,
  HK.dd ("check_amount", none) "check_amount" "check_amount" s_check_amount,
  HK.dd ("is_sight", none) "is_sight" "is_sight" s_is_sight,
  HK.dd ("check_sights", none) "check_sights" "check_sights" s_check_sights,
  HK.dd ("best_parts", none) "best_parts" "best_parts" s_best_parts,
  HK.dd ("barring_of", none) "barring_of" "barring_of" s_barring_of,
  HK.dd ("fits", none) "fits" "fits" s_fits,
  HK.dd ("barring_parts", none) "barring_parts" "barring_parts" s_barring_parts,
  HK.dd ("least_values", none) "least_values" "least_values" s_least_values,
  HK.dd ("_law_jug", none) "_law_jug" "_law_jug" s__law_jug,
  HK.dd ("_law_pour", none) "_law_pour" "_law_pour" s__law_pour,
  HK.dd ("_law_one", none) "_law_one" "_law_one" s__law_one,
  HK.dd ("_law_sights", none) "_law_sights" "_law_sights" s__law_sights,
  HK.dd ("_law_least", none) "_law_least" "_law_least" s__law_least,
  HK.dd ("_law_right", none) "_law_right" "_law_right" s__law_right,
  HK.dd ("law", none) "law" "law" s_law]
def tfl : List He.Defn := []
def exl : List (PySem.W.Frag → Bool) := [fun K => decide (((tfl.map (He.cT K)).map (·.2)).Nodup),
  fun K => decide (PySem.W.nsIn K mainGlobals "is_between" = some (some (.ref (He.fAd K ("is_between", none))))),
  fun K => decide (PySem.W.nsIn K mainGlobals "check_amount" = some (some (.ref (He.fAd K ("check_amount", none))))),
  fun K => decide (PySem.W.nsIn K mainGlobals "is_sight" = some (some (.ref (He.fAd K ("is_sight", none))))),
  fun K => decide (PySem.W.nsIn K mainGlobals "check_sights" = some (some (.ref (He.fAd K ("check_sights", none))))),
  fun K => decide (PySem.W.nsIn K mainGlobals "best_parts" = some (some (.ref (He.fAd K ("best_parts", none))))),
  fun K => decide (PySem.W.nsIn K mainGlobals "barring_of" = some (some (.ref (He.fAd K ("barring_of", none))))),
  fun K => decide (PySem.W.nsIn K mainGlobals "fits" = some (some (.ref (He.fAd K ("fits", none))))),
  fun K => decide (PySem.W.nsIn K mainGlobals "barring_parts" = some (some (.ref (He.fAd K ("barring_parts", none))))),
  fun K => decide (PySem.W.nsIn K mainGlobals "least_values" = some (some (.ref (He.fAd K ("least_values", none))))),
  fun K => decide (PySem.W.nsIn K mainGlobals "_law_jug" = some (some (.ref (He.fAd K ("_law_jug", none))))),
  fun K => decide (PySem.W.nsIn K mainGlobals "_law_pour" = some (some (.ref (He.fAd K ("_law_pour", none))))),
  fun K => decide (PySem.W.nsIn K mainGlobals "_law_one" = some (some (.ref (He.fAd K ("_law_one", none))))),
  fun K => decide (PySem.W.nsIn K mainGlobals "_law_sights" = some (some (.ref (He.fAd K ("_law_sights", none))))),
  fun K => decide (PySem.W.nsIn K mainGlobals "_law_least" = some (some (.ref (He.fAd K ("_law_least", none))))),
  fun K => decide (PySem.W.nsIn K mainGlobals "_law_right" = some (some (.ref (He.fAd K ("_law_right", none))))),
  fun K => decide (PySem.W.nsIn K mainGlobals "law" = some (some (.ref (He.fAd K ("law", none))))),
  fun K => (He.Fa.int "MOST_GIFT" 1000000).ok K,
  fun K => (He.Fa.int "MOST_VALUES" 24).ok K,
  fun K => (He.Fa.int "MOST_SIGHTS" 8).ok K,
  fun K => decide (PySem.W.nsIn K mainGlobals "abs" = some none),
  fun K => decide (PySem.W.nsIn K mainGlobals "all" = some none),
  fun K => decide (PySem.W.nsIn K mainGlobals "any" = some none),
  fun K => decide (PySem.W.nsIn K mainGlobals "bool" = some none),
  fun K => decide (PySem.W.nsIn K mainGlobals "dict" = some none),
  fun K => decide (PySem.W.nsIn K mainGlobals "divmod" = some none),
  fun K => decide (PySem.W.nsIn K mainGlobals "enumerate" = some none),
  fun K => decide (PySem.W.nsIn K mainGlobals "int" = some none),
  fun K => decide (PySem.W.nsIn K mainGlobals "isinstance" = some none),
  fun K => decide (PySem.W.nsIn K mainGlobals "len" = some none),
  fun K => decide (PySem.W.nsIn K mainGlobals "list" = some none),
  fun K => decide (PySem.W.nsIn K mainGlobals "max" = some none),
  fun K => decide (PySem.W.nsIn K mainGlobals "min" = some none),
  fun K => decide (PySem.W.nsIn K mainGlobals "range" = some none),
  fun K => decide (PySem.W.nsIn K mainGlobals "repr" = some none),
  fun K => decide (PySem.W.nsIn K mainGlobals "sorted" = some none),
  fun K => decide (PySem.W.nsIn K mainGlobals "sum" = some none),
  fun K => decide (PySem.W.nsIn K mainGlobals "tuple" = some none)]
abbrev Rw : PySem.W.OpenRow := PySem.W.OpenLaw.row PySem.Challenge.rw_givenonce_k26_whole_functions_completed
abbrev qv : Program := PySem.W.view Rw.prog [25]
def loose : List PySem.Str := (["InputError", "InvalidAmount", "InvalidSights", "MOST_VALUES", "MOST_GIFT", "is_between", "check_amount", "MOST_SIGHTS", "is_sight", "check_sights", "best_parts", "barring_of"] : List PySem.Str) ++ (["fits", "barring_parts", "least_values", "_law_jug", "_law_pour", "_law_one", "_law_sights", "_law_least", "_law_right"] : List PySem.Str)
def need : List PySem.Str := (["MOST_VALUES", "MOST_GIFT", "is_between", "check_amount", "MOST_SIGHTS", "is_sight", "check_sights", "best_parts", "barring_of", "fits", "barring_parts", "least_values"] : List PySem.Str) ++ (["_law_jug", "_law_pour", "_law_one", "_law_sights", "_law_least", "_law_right", "law"] : List PySem.Str)
abbrev hk : PySem.W.Hook := HK.hookY (HK.asN need 3) [] fnl [] tfl (HK.exOf exl)
def ob (s : PySem.W.SharedT) : He.AlX := HK.obsY (HK.asN need 3) [] fnl [] tfl (HK.exOf exl) (HandSHeadRun.getT s)
theorem ob_eq (s : PySem.W.SharedT) : ob s = hk.obs s.abs := HK.obsY_eq (HandSHeadRun.getT_eq s)
theorem run1 (w : World) (os : OsState) : (HandSHeadRun.endF (HandSHeadRun.stepQ (HandSHeadRun.denQ HandSHeadRun.tabQ) Rw.prog w) 20000 Rw.prog w os).map (fun s => (HandSHeadRun.looksF Rw.prog (PySem.W.boot_heap w.params) s.abs, HandSHeadRun.seenQ qv loose (PySem.importedModules Rw.prog.main.body) (fun s => PySem.W.xlAt qv [] s && PySem.W.recOk Rw.toRowW.records s) s.abs)) = some (true, PySem.W.openGood qv loose) := by
  kernel_rfl
theorem run2 (w : World) (os : OsState) : (HandSHeadRun.endF (HandSHeadRun.stepQ (HandSHeadRun.denQ HandSHeadRun.tabQ) Rw.prog w) 20000 Rw.prog w os).map (fun s => (ob s).1) = some (hk.val w).1 := by
  kernel_rfl
theorem run4 (w : World) (os : OsState) : (HandSHeadRun.endF (HandSHeadRun.stepQ (HandSHeadRun.denQ HandSHeadRun.tabQ) Rw.prog w) 20000 Rw.prog w os).map (fun s => (ob s).2) = some (hk.val w).2 := by
  kernel_rfl
theorem run (w : World) : HandSHeadRun.RunEq Rw qv hk ob 20000 loose w := fun os => HK.run3 (run1 w os) (HK.run5 (run2 w os) (run4 w os))
end My
set_option Elab.async false
set_option linter.all false
set_option maxRecDepth 100000
set_option maxHeartbeats 4000000
/-! ### own errors of any built-in base: made, raised -/
namespace EX
open PySem PySem.Spec PyProof.Rows L2
/-- what the written part says of an own error class at C over a base whose line of classes is bmB -/
structure ErC (K : PySem.W.Frag) (C : Addr) (bmB : List Value) (newId : String) : Prop where
  cls : PySem.W.excInitIn K C bmB newId = true
  hdd : PySem.W.hasDictIn K C = true
  sa : PySem.W.findIn K (.ref C) "__setattr__" = some (some (.builtin "object.__setattr__"))
  exC : PySem.W.subIn K (.ref C) (.type "BaseException") = some true
  tyC : PySem.W.typeIn K (.ref C) = some (.type "type")
  kC : PySem.W.keepIn K (.ref C) = true
section
variable {prog : Program} {w : World} {A : Around} {R : Result → Shared → Prop} {hp : Heap} {g : Array GenState} {d : Drawn} {t : Nat} {osx : OsState}
open Builtin Builtin.ObjectAttr
theorem cls_of {K : PySem.W.Frag} {C : Addr} {bmB : List Value} {newId : String} (q : PySem.W.excInitIn K C bmB newId = true) : ∃ cd bm, PySem.W.clsIn K C = some cd ∧ cd.mro = .ref C :: bm ∧ PySem.W.excTail bmB bm = true := by
  unfold PySem.W.excInitIn at q
  split at q
  · rename_i dd cd sl hob
    split at q
    · rename_i C' bm k0 kk1 k2 k3 n k5 hm hst
      simp only [Bool.and_eq_true, beq_iff_eq, Bool.not_eq_true'] at q
      obtain ⟨⟨⟨rfl, rfl⟩, hdel⟩, ht⟩ := q
      exact ⟨cd, bm, by unfold PySem.W.clsIn; rw [hob], hm, ht⟩
    · cases q
  · cases q
/-- self.name = v on an error that has no dict yet -/
theorem exc_osaB {K : PySem.W.Frag} {name : Str} {tkk : Tok} {v : Value} {x C : Addr} {fv : Array Value} {cd : ClassData} {B : String} {bm bmB : List Value} (SF : StoreFacts B bmB "object.__setattr__" "object")
    (X : K.In hp) (hxx : hp.get? x = some { cls := .ref C, data := .fields fv }) (hcd : PySem.W.clsIn K C = some cd) (hm0 : cd.mro = .ref C :: bm) (hm : PySem.W.excTail bmB bm = true) (hB : bmB.contains (.type "object") = true) (hh : cd.hasDict = true) (ha : PySem.W.findIn K (.ref C) name = some none)
    (hqq : ∀ h' tk' dz, (∀ b o, b ≠ x → hp.get? b = some o → h'.get? b = some o) → hp.objs.size ≤ dz → dz ≠ x → h'.get? x = some { cls := .ref C, dict := some dz, data := .fields fv } →
      h'.Ns1 dz (fun y => if y = name then some v else none) → R (.ok (.ret .none)) ⟨h', g, d, tk', osx⟩) :
    codeAny (model prog w) A (.call (.builtin "object.__setattr__") ⟨[.ref x, .str name tkk, v], []⟩) R ⟨hp, g, d, t, osx⟩ := by
  have I : PySem.W.InstAt hp x { cls := .ref C, data := .fields fv } C none := ⟨hxx, rfl, rfl, trivial⟩
  have SF0 := F.store_object
  have nee : cd.mro.isEmpty = false := by rw [hm0]; rfl
  have hob : cd.mro.contains (.type "object") = true := by rw [hm0, List.contains_cons, PySem.W.excTail_contains "object" bm hm, hB, Bool.or_true]
  have hps : refuseLoop (Value.ref x) "__setattr__" cd.mro = pure () := PySem.W.excTail_pass (Value.ref x) (SF.passes (Value.ref x)) cd.mro (by rw [hm0]; exact hm)
  have hxs : x ≠ hp.objs.size := Nat.ne_of_lt (Heap.lt_size hxx)
  have sbt : PySem.W.Looks (model prog w) hp (isInstance (.ref x) (.type "object")) true := I.type.andThen (PySem.W.looks_mroIn X (by unfold PySem.W.mroIn; rw [hcd, Option.bind_some, if_neg (by rw [nee]; decide), hob]))
  refine codeAny_call_builtin SF0.slot.plain SF0.entry (@PySem.W.check_slot (model prog w) _ _ ⟨hp, g, d, t, osx⟩ "object.__setattr__" "object" "__setattr__" (.ref x) [.str name tkk, v] [] _ SF0.kind SF0.split sbt (SF0.args (.ref x) (.str name tkk) v) ?_)
  have hmr : PySem.W.Looks (model prog w) hp (mroOf (.ref C)) cd.mro := (PySem.W.looks_clsIn X hcd).andThen .now
  have L3 : PySem.W.Looks (model prog w) hp (storeTaker? none) none := .now
  have hcls : PySem.W.Looks (model prog w) hp (classData C) cd := PySem.W.looks_clsIn X hcd
  rw [PySem.W.osa_eq, refuse_eq]
  refine wpAny_bind (wpAny_bind (I.type.at (wpAny_bind (hmr.at ?_))))
  rw [hps]
  refine wpAny_pure (wpAny_bind (I.type.at (wpAny_bind ((PySem.W.looks_findIn X ha).at (wpAny_bind (L3.at ?_))))))
  show wpAny _ _ (storeInOwnDict (.ref x) (.ref C) (.str name tkk) name v false) _ _ _
  obtain ⟨nm, bs, mro, ns, qn, hdd, sn, sb, ab, col, del⟩ := cd
  dsimp only at hh
  subst hh
  unfold storeInOwnDict ownDictForStores
  repeat (first | with_reducible refine PySem.HandSPX.store_in_new ?_ ?_ | with_reducible refine wpAny_loadPart_at hxx ?_ | with_reducible refine hcls.at ?_ | wp_step)
  · exact ⟨_, #[], _, (Heap.get?_update_ne _ _ _ _ hxs.symm).trans (Heap.get?_push_at rfl rfl), rfl, fun e hge => absurd hge (by simp), fun _ => rfl⟩
  · intro h' tk' hn' hst
    have hx₁ : (hp.push { cls := .type "dict", data := .dict #[] }).get? x = some { cls := .ref C, data := .fields fv } := Heap.get?_push_of_some _ hxx
    refine hqq h' tk' hp.objs.size (fun b o hbb hob => ?_) (Nat.le_refl _) hxs.symm ?_ hn'
    · exact (hst.2 b (Nat.ne_of_lt (Heap.lt_size hob))).trans ((Heap.get?_update_ne _ _ _ _ hbb).trans (Heap.get?_push_of_some _ hob))
    · exact (hst.2 x hxs).trans (Heap.get?_update_self _ hx₁ rfl)
end
section
variable {X : Cx} {pnz : List (Addr × Obj)} {σ : L2.St} {H : Hp} {s : Shared} {a C : Addr} {f : Str} {y : V} {u : Value} {Q : Unit → Shared → Prop} {E : Value → Shared → Prop} {A : Around} {bmB : List Value} {B newId : String}
/-- self.f = y, the first one -/
theorem ost_newB (T : ErC X.K C bmB newId) (SF : StoreFacts B bmB "object.__setattr__" "object") (hB : bmB.contains (.type "object") = true) (I : Inv X pnz σ H s) (e : H a = some (exo a C none)) (hno : PySem.W.findIn X.K (.ref C) f = some none) (ry : RelV y u)
    (h : ∀ dz s', H dz = none → dz ≠ a → Inv X pnz σ (upd (upd H dz (exd dz [(f, y)])) a (exo a C (some dz))) s' → Q () s') : wpAny (model X.prog X.w) A (setAttr (.ref a) f u) Q E s := by
  obtain ⟨cd, bm, hcl, hm0, ht⟩ := cls_of T.cls
  have hdc : cd.hasDict = true := by
    obtain ⟨cd', h1, h2⟩ := PySem.W.any_some T.hdd
    rw [hcl] at h1; cases h1; exact h2
  obtain ⟨t1, hob⟩ := exo_at I.hok e
  obtain ⟨hp, g, d, t, osx⟩ := s
  refine PySem.W.set_plain I.kIn (ox := { cls := .ref C, dict := none, data := .fields #[.ref t1, .none, .none, .none, .bool false, .none] }) (od := none) ⟨hob, rfl, rfl, trivial⟩ T.sa ?_
  refine exc_osaB SF I.kIn hob hcl hm0 ht hB hdc hno (fun h' tk' dz k dn dne hxx hnn => ?_)
  have hnd : H dz = none := I.hok.fresh dn
  have nd : ∀ {b : Addr} {o : Obj}, hp.get? b = some o → b ≠ dz := fun {b o} q => Nat.ne_of_lt (Nat.lt_of_lt_of_le (Heap.lt_size q) dn)
  have na : ∀ {b : Addr}, H b = none → b ≠ a := fun {b} n z => by
    rw [z, e] at n
    cases n
  have Un1 : Un X.fs [] H (upd (upd H dz (exd dz [(f, y)])) a (exo a C (some dz))) hp h' := {
    keep := fun b o q n _ _ => k b o (na n) q
    slot := fun b o q n _ _ => ⟨o.slots, k b o (na n) q⟩
    free := fun b o q n _ => by rw [upd_ne (na n), upd_ne (nd q)]; exact n
    there := fun b o q _ => by
      by_cases hbb : b = a
      · exact ⟨_, by rw [hbb]; exact hxx⟩
      · exact ⟨o, k b o hbb q⟩
    tups := fun b xs q => by rw [upd_ne (at_ne e q exo_tup), upd_ne (ne_of_none q hnd)]; exact q
    frzs := fun b o v q => by rw [upd_ne (at_ne e q exo_frz), upd_ne (ne_of_none q hnd)]; exact q
    tbls := fun b ps q => ⟨#[], by rw [upd_ne (at_ne e q exo_tbl), upd_ne (ne_of_none q hnd), q]; simp⟩ }
  refine h dz _ hnd dne (I.un (t' := tk') Un1 fun b o q => ?_)
  by_cases hbb : b = a
  · subst hbb
    rw [upd_same] at q
    cases q
    exact exo_ok hxx
  · rw [upd_ne hbb] at q
    by_cases hdd : b = dz
    · subst hdd
      rw [upd_same] at q
      cases q
      exact exd_ok hnn (relO_put (fs := []) ry fun g => True.intro)
    · rw [upd_ne hdd] at q
      exact (I.hok b o q).stay (fun c v hc z => k c v (by
          rcases hc with hc | hc
          · rw [hc]
            exact hbb
          · exact at_ne e hc exo_own) z)
        (fun c hc => by rw [upd_ne (at_ne e hc exo_own), upd_ne (ne_of_none hc hnd)]; exact hc) (fun c xs hc => by rw [upd_ne (at_ne e hc exo_tup), upd_ne (ne_of_none hc hnd)]; exact hc)
end
/-- self.f = e in __init__ of an error -/
def tOstB (K : PySem.W.Frag) (bmB : List Value) (newId : String) (f : Str) (to te : TE) : TS := fun D σ H => te σ H fun y G1 => to σ G1 fun x H2 => ∃ a C : Addr, x = .ref a ∧ ErC K C bmB newId ∧ PySem.W.findIn K (.ref C) f = some none ∧ H2 a = some (exo a C none) ∧ ∀ dz, H2 dz = none → dz ≠ a → D.nx σ (upd (upd H2 dz (exd dz [(f, y)])) a (exo a C (some dz)))
section
variable {X : Cx} {o e : Expr} {es : List Expr} {to te : TE} {ta : TA} {f x : Str} {p p' pos : Pos} {bmB : List Value} {B newId initId : String} {C fI : Addr}
theorem ps_ostB (SF : StoreFacts B bmB "object.__setattr__" "object") (hB : bmB.contains (.type "object") = true) (hob : PE X o to) (hge : PE X e te) (hst : swapsWith e (some (.Attribute o f p')) pos.line X.env = pure false) : PS X (.Assign [.Attribute o f p'] e pos) (tOstB X.K bmB newId f to te) := by
  refine ⟨fun pnz s σ H D I h => ?_⟩
  refine plainObj_wpAny_Assign_Attribute (thn (hge.run pnz s σ H _ I h) fun v z1 ⟨y, G1, In1, r1, q1⟩ => thn (hob.run pnz z1 σ G1 _ In1 q1) fun u s2 ⟨x, H2, In2, r2, a, C, ex, T, hno, ea, q⟩ => ?_) hst
  subst ex
  obtain rfl : u = Value.ref a := r2
  exact ost_newB T SF hB In2 ea hno r1 fun dz s' n nee Jv => ⟨σ, _, Jv, q dz n nee⟩
theorem pmk_oexB {CX : CXT} {k : Nat} {fd : FuncData} {ps : List Str} {sp : Sp} (F : ExcBaseFacts B newId initId bmB) (T : ErC X.K C bmB newId) (iC : PySem.W.findIn X.K (.ref C) "__init__" = some (some (.ref fI))) (tI : PySem.W.typeIn X.K (.ref fI) = some (.type "function"))
    (F1 : FnOk X.prog X.w X.K X.mg X.base CX k fI fd ps sp) (hrm : Room (k + 1) X.A) (hbb : Binds X.K fd ps []) (hxx : Passes CX X (fun _ _ _ => False)) (hg : Gl X x) (hm : X.mg x = some (.ref C)) (ha : PA X (e :: es) ta)
    (hdb : (x == ("__debug__" : Str)) = false := by decide) (hge : starEach (e :: es) X.env = (false, eval e X.env) :: starEach es X.env := by rfl) (hpl : (backTo pos (starEach es X.env)).any (·.1) = false := by rfl) :
    PMk X (.Call (.Name x p) (e :: es) [] pos) (tMkO C sp [] ta) := by
  intro pnz s σ H Q I h
  obtain ⟨nm0, N0, qn0, bs0, bm0, hdct0, sn0, sub0, ab0, col0, dd0, k00, k10, k20, k30, k50, _, hT⟩ := PySem.W.excInit_of I.kIn T.cls
  refine wpAny_Call_Name_kw (ld_glob I hg hm ?_ hdb)
  refine PySem.W.callWith_K (h₀ := X.base) I.ok.mod.kin T.kC (thn (ha.run pos pnz s σ H _ I h) fun uz z1 ⟨vz, G1, In1, r1, hzz, q1⟩ => ⟨In1.kIn, ?_⟩) hge hpl
  show wpAny _ _ (call (.ref C) uz) _ _ _
  obtain ⟨nm, N, qn, bs, bm, hdct, sn, sbt, ab, col, dd, k0, kk1, k2, k3, k5, hCc, hT⟩ := PySem.W.excInit_of In1.kIn T.cls
  obtain ⟨hp, g, dr, tkk, osx⟩ := z1
  have hsz : hp.objs.size ≤ hp.objs.size + 1 := Nat.le_succ _
  have hnn : G1 (hp.objs.size + 1) = none := In1.hok.fresh hsz
  have hqq := q1 (hp.objs.size + 1) hnn
  have kk : ∀ b o, hp.get? b = some o → ((hp.push (PySem.W.kdv_tup uz)).push (PySem.HandSPX.excO C hp.objs.size)).get? b = some o := fun b o e => Heap.get?_push_of_some _ (Heap.get?_push_of_some _ e)
  have hget : ((hp.push (PySem.W.kdv_tup uz)).push (PySem.HandSPX.excO C hp.objs.size)).get? (hp.objs.size + 1) = some (PySem.HandSPX.excO C hp.objs.size) := by heap_get
  have In2 : Inv X pnz σ (upd G1 (hp.objs.size + 1) (exo (hp.objs.size + 1) C none)) ⟨(hp.push (PySem.W.kdv_tup uz)).push (PySem.HandSPX.excO C hp.objs.size), g, dr, tkk, osx⟩ :=
    In1.laid (t' := tkk) (a := hp.objs.size + 1) (o := exo (hp.objs.size + 1) C none) (h' := (hp.push (PySem.W.kdv_tup uz)).push (PySem.HandSPX.excO C hp.objs.size)) kk hsz (exo_ok hget)
  have r2 : Vals (V.ref (hp.objs.size + 1) :: (vz ++ [])) (Value.ref (hp.objs.size + 1) :: (uz ++ [])) := .cons rfl (r1.append .nil)
  have hl : (Value.ref (hp.objs.size + 1) :: uz ++ []).length = ps.length := by
    have e := r2.length
    rw [F1.len _ _ _ _ hqq] at e
    exact e.symm
  have hus : uz.length ≤ sizeLine := by
    rw [← Paired.length r1, sizeLine_eq]
    omega
  refine wpAny_call (PySem.HandSPX.call_own F hT hCc (PySem.W.looks_findIn In1.kIn iC) (fun self => PySem.W.bind_fn In1.kIn self tI) hus
    (codeAny_mono (F1.run _ X.stack _ _ ⟨Value.ref (hp.objs.size + 1) :: uz, []⟩ (Value.ref (hp.objs.size + 1) :: uz ++ []) _ _ (fun _ _ _ => False) (hrm.make C uz []) (In2.env0.make C uz []) (hbb _ (Value.ref (hp.objs.size + 1) :: uz) In2.kIn hl) r2 hqq) fun r s' hq' => ?_))
  cases r with
  | error er => exact hxx pnz σ _ _ er s' In2 hq'
  | ok fl =>
    cases fl with
    | ret u =>
      obtain ⟨v, H2, os2, bare2, un2, hok2, rv, ev, d, fs, ea, ed, hd1, q2⟩ := hq'
      subst ev
      obtain ⟨h2, g2, d2, t2, os'⟩ := s'
      exact ⟨rv, mk_end (raises_own T.exC T.tyC) In1 hsz kk un2 hok2 os2 bare2 ea ed hd1 q2⟩
    | next => exact False.elim hq'
    | brk => exact False.elim hq'
    | cont => exact False.elim hq'
end
/-! ### the one kind of __init__ of this program: self.n = n -/
def spInit (C : Addr) (n : Str) : Sp := fun vz H Q _ => ∃ (a : Addr) (v : V), vz = [.ref a, v] ∧ H a = some (exo a C none) ∧ ∀ dz, H dz = none → dz ≠ a → Q .non (upd (upd H dz (exd dz [(n, v)])) a (exo a C (some dz)))
theorem ok_init {P : Program} {w : World} {K : PySem.W.Frag} {mg : Str → Option Value} {base : Heap} {qual n : Str} {st : Stmt} {C fI : Addr} {fd : FuncData} {bmB : List Value} {B newId : String} {q1 q2 q3 q4 : Pos} (SF : StoreFacts B bmB "object.__setattr__" "object") (hB : bmB.contains (.type "object") = true)
    (F : Fun K "__init__" qual st fI fd) (S : FnScope ["self", n] ["self", n] (defScope st)) (hbody : defBody st = [.Assign [.Attribute (.Name "self" q1) n q2] (.Name n q3) q4]) (T : ErC K C bmB newId) (hno : PySem.W.findIn K (.ref C) n = some none)
    (hv1 : (n == ("__debug__" : Str)) = false) (hv2 : (n == ("__classdict__" : Str)) = false) (hl1 : (defScope st).names.lookup ("self" : Str) = some NameKind.local) (hl2 : (defScope st).names.lookup n = some NameKind.local) : FnOk P w K mg base CX0 1 fI fd ["self", n] (spInit C n) := by
  refine F.ok S (fun vz H Q E ⟨a, v, e, _⟩ => by rw [e]; rfl) fun cdv A upp z H vz Q E hrm h => ?_
  obtain ⟨a, v, rfl, ha, hqq⟩ := h
  rw [hbody]
  refine ⟨_, pss_one (ps_ostB (bmB := bmB) (newId := newId) SF hB (pe_var (i := 0) rfl (.inl hl1) (by decide) (by decide)) (pe_var (i := 1) rfl (.inl hl2) hv1 hv2) rfl), ?_⟩
  exact ⟨v, rfl, .ref a, rfl, a, C, rfl, T, hno, ha, fun dz h1 h2 => hqq dz h1 h2⟩
theorem mk_one {C : Addr} {n : Str} {v : V} {G1 : Hp} {Q : XK} (q : ∀ d, G1 d = none → Q (.ref C) (some d) (upd G1 d (.xd [(n, v)]))) :
    [v].length ≤ 1000 ∧ ∀ a, G1 a = none → spInit C n (.ref a :: ([v] ++ [])) (upd G1 a (exo a C none))
      (fun u H2 => u = .non ∧ ∃ (d : Addr) (fs : List (Str × V)), H2 a = some (exo a C (some d)) ∧ H2 d = some (exd d fs) ∧ G1 d = none ∧ Q (.ref C) (some d) (upd (del H2 a) d (.xd fs))) (fun _ _ _ => False) := by
  refine ⟨by show 1 ≤ 1000; decide, fun a ha => ⟨a, v, rfl, upd_same, fun dz hdx hne => ?_⟩⟩
  have hd1 : G1 dz = none := by rw [upd_ne hne] at hdx; exact hdx
  refine ⟨rfl, dz, [(n, v)], upd_same, by rw [upd_ne hne, upd_same], hd1, ?_⟩
  have e : upd (del (upd (upd (upd G1 a (exo a C none)) dz (exd dz [(n, v)])) a (exo a C (some dz))) a) dz (.xd [(n, v)]) = upd G1 dz (.xd [(n, v)]) := by
    funext b
    by_cases h1 : b = dz
    · rw [h1, upd_same, upd_same]
    · rw [upd_ne h1, upd_ne h1]
      by_cases h2 : b = a
      · rw [h2, del_same, ha]
      · rw [del_ne h2, upd_ne h2, upd_ne h1, upd_ne h2]
  rw [e]
  exact q dz hd1
section
variable {X : Cx} {C fI : Addr} {bmB : List Value} {B newId initId : String} {x n : Str} {W : WX}
/-- raise C(e) -/
def tRaiseEr (C : Addr) (n : Str) (W : WX) (te : TE) : TS := fun _ σ H => tMkO C (spInit C n) [] (tCons te tNil) σ H fun cls d H' => W cls d σ H'
theorem ps_raiseEr {k : Nat} {fd : FuncData} {e : Expr} {te : TE} {p pos pos2 : Pos} (F : ExcBaseFacts B newId initId bmB) (T : ErC X.K C bmB newId) (iC : PySem.W.findIn X.K (.ref C) "__init__" = some (some (.ref fI))) (tI : PySem.W.typeIn X.K (.ref fI) = some (.type "function"))
    (F1 : FnOk X.prog X.w X.K X.mg X.base CX0 k fI fd ["self", n] (spInit C n)) (hrm : Room (k + 1) X.A) (hbb : Binds X.K fd ["self", n] []) (hg : Gl X x) (hm : X.mg x = some (.ref C)) (tkk : Takes X W) (hc : X.calm = true) (hge : PE X e te)
    (hdb : (x == ("__debug__" : Str)) = false := by decide) (hst : starEach (e :: []) X.env = (false, eval e X.env) :: starEach [] X.env := by rfl) (hpl : (backTo pos (starEach [] X.env)).any (·.1) = false := by rfl) :
    PS X (.Raise (some (.Call (.Name x p) [e] [] pos)) none pos2) (tRaiseEr C n W te) :=
  ps_raise (pos := pos2) hc tkk (pmk_oexB (p := p) (pos := pos) F T iC tI F1 hrm hbb pass0 hg hm (pa_cons hge pa_nil (hs := hst)) hdb hst hpl)
/-- C(), C without an __init__ of its own -/
theorem pmk_own0 {p pos : Pos} (F : ExcBaseFacts B newId initId bmB) (q : PySem.W.excIn X.K C bmB newId = true) (gC : X.mg x = some (.ref C)) (kC : PySem.W.keepIn X.K (.ref C) = true) (r : Raises X (.ref C)) (hg : Gl X x)
    (hdb : (x == ("__debug__" : Str)) = false := by decide) : PMk X (.Call (.Name x p) [] [] pos) (fun _ H Q => Q (.ref C) none H) := by
  intro pnz s σ H Q I h
  refine wpAny_Call_Name_kw (ld_glob I hg gC ?_ hdb)
  refine PySem.W.callWith_K0 I.kIn kC ?_
  show wpAny _ _ (call (.ref C) []) _ _ _
  obtain ⟨bm, N, nm, qn, bs, hdct, sn, sbt, ab, col, dd, k0, kk1, k2, k3, k5, mN, hCc, hN, hni, T⟩ := exc_obj I.kIn q
  refine wpAny_call_exc_subT F T hCc hN hni (fun h' e hm => ?_) (by show 0 ≤ sizeLine; exact Nat.zero_le _)
  exact mk_of I hm r h (I.hok.gone hm.new)
/-- raise C() -/
def tRaise0 (C : Addr) (W : WX) : TS := fun _ σ H => W (.ref C) none σ H
theorem ps_raise0 {p pos pos2 : Pos} (F : ExcBaseFacts B newId initId bmB) (q : PySem.W.excIn X.K C bmB newId = true) (kC : PySem.W.keepIn X.K (.ref C) = true) (r : Raises X (.ref C)) (hg : Gl X x) (gC : X.mg x = some (.ref C)) (tkk : Takes X W) (hc : X.calm = true)
    (hdb : (x == ("__debug__" : Str)) = false := by decide) : PS X (.Raise (some (.Call (.Name x p) [] [] pos)) none pos2) (tRaise0 C W) := ps_raise hc tkk (pmk_own0 F q gC kC r hg hdb)
end
end EX

set_option Elab.async false
set_option linter.all false
set_option maxRecDepth 100000
set_option maxHeartbeats 4000000
/-! ### an error that is caught, as a known object -/
namespace EX
open PySem PySem.Spec PyProof.Rows L2
/-- at a: an error of the class cls, its dict at d -/
def exq (a : Addr) (cls : Value) (d : Option Addr) : HO := .ext fun h => ∃ (ob : Obj) (vz : Array Value), h.get? a = some ob ∧ Zc cls d ob ∧ ob.data = .fields vz
theorem exq_ok {P : Program} {w : World} {H : Hp} {h : Heap} {a : Addr} {cls : Value} {d : Option Addr} {ob : Obj} {vz : Array Value} (e : h.get? a = some ob) (z : Zc cls d ob) (hdd : ob.data = .fields vz) : ObjOk P w H h a (exq a cls d) :=
  ⟨⟨ob, vz, e, z, hdd⟩, ⟨ob, e⟩, fun _ _ ⟨o, v, q, r⟩ k => ⟨o, v, k o q, r⟩⟩
theorem exq_at {P : Program} {w : World} {H : Hp} {h : Heap} {a : Addr} {cls : Value} {d : Option Addr} (hok : HOk P w H h) (hge : H a = some (exq a cls d)) : ∃ (ob : Obj) (vz : Array Value), h.get? a = some ob ∧ Zc cls d ob ∧ ob.data = .fields vz := by
  have x : ObjOk P w H h a (.ext fun h => ∃ (ob : Obj) (vz : Array Value), h.get? a = some ob ∧ Zc cls d ob ∧ ob.data = .fields vz) := hok a _ hge
  exact x.1
section
variable {X : Cx} {pnz : List (Addr × Obj)} {σ : L2.St} {H : Hp} {s : Shared} {a : Addr} {ob : Obj} {vz : Array Value} {cls : Value} {d : Option Addr}
/-- an object that is new since the entry is known from now on -/
theorem _root_.L2.Inv.adopt (I : Inv X pnz σ H s) (hob : s.heap.get? a = some ob) (hzz : Zc cls d ob) (hdd : ob.data = .fields vz) (na : H a = none) (n0 : X.s_0.heap.get? a = none) (nLl : a ≠ X.env.locals) (np : ∀ p ∈ X.pn ++ pnz, p.1 ≠ a) : Inv X pnz σ (upd H a (exq a cls d)) s := by
  have ne0 : ∀ b o, X.s_0.heap.get? b = some o → b ≠ a := fun b o e z => by rw [z, n0] at e; cases e
  have neS : ∀ b u, H b = some u → b ≠ a := fun b u e z => by rw [z, na] at e; cases e
  have neC : ∀ x c, X.env.cells.lookup x = some c → c ≠ a := fun x c e z => by
    obtain ⟨v, o, h1, h2⟩ := I.cell x c e
    rw [z, hob] at h1; cases h1
    rw [hdd] at h2; cases h2
  refine ⟨I.ok, I.os, I.bare, ⟨I.base.keep, I.base.slot, fun b o e n hxx => by rw [upd_ne (ne0 b o e)]; exact I.base.free b o e n hxx, I.base.there, fun b xs e => ?_, fun b o u e => ?_, fun b ps e => ?_⟩, I.loc, I.cell, by rw [upd_ne (Ne.symm nLl)]; exact I.free, fun x c e => by rw [upd_ne (neC x c e)]; exact I.freeC x c e, fun p hp => ?_, fun b u e => ?_, I.len⟩
  · have q := I.base.tups b xs e
    rw [upd_ne (neS b _ q)]; exact q
  · have q := I.base.frzs b o u e
    rw [upd_ne (neS b _ q)]; exact q
  · obtain ⟨m, q⟩ := I.base.tbls b ps e
    exact ⟨m, by rw [upd_ne (neS b _ q)]; exact q⟩
  · obtain ⟨e, n, nee, nf, dd⟩ := I.pin p hp
    exact ⟨e, by rw [upd_ne (np p hp)]; exact n, nee, nf, dd⟩
  · by_cases hbb : b = a
    · subst hbb
      rw [upd_same] at e
      cases e
      exact exq_ok hob hzz hdd
    · rw [upd_ne hbb] at e
      exact (I.hok b u e).stay (fun c v _ q => q) (fun c q => by rw [upd_ne (neS c _ q)]; exact q) fun c xs q => by rw [upd_ne (neS c _ q)]; exact q
theorem _root_.L2.Inv.suiteT (I : Inv X pnz σ H s) (a : Addr) : Inv (X.suite a (X.pn ++ pnz)) [] σ H s :=
  ⟨I.ok.suite _ _, I.os, I.bare, I.base, I.loc, I.cell, I.free, I.freeC, fun p hp => I.pin p (by rw [List.append_nil] at hp; exact hp), I.hok, I.len⟩
theorem _root_.L2.Inv.unsuiteT {a : Addr} {pn' : List (Addr × Obj)} (I : Inv (X.suite a (X.pn ++ pnz)) pn' σ H s) (ok : X.Ok) : Inv X pnz σ H s :=
  ⟨ok, I.os, I.bare, I.base, I.loc, I.cell, I.free, I.freeC, fun p hp => I.pin p (List.mem_append_left _ hp), I.hok, I.len⟩
end
theorem flying_keep {B h h' : Heap} {l : List Env} {e : Addr} {Z : Obj → Prop} (x : HandSPX.FlyingZ B l e Z h) (k : ∀ b o, h.get? b = some o → h'.get? b = some o) : HandSPX.FlyingZ B l e Z h' := by
  obtain ⟨kk1, k2, k3, ob, vz, T, oT, ts, hge, hzz, hdd, h1, hnn, hne, hT, hdT, h3⟩ := x
  exact ⟨fun b o e => k b o (kk1 b o e), k2, Heap.FunFrames.of_keeps (fun b o e _ => ⟨o, k b o e, rfl⟩) k3, ob, vz, T, oT, ts, k _ _ hge, hzz, hdd, h1, hnn, hne, k _ _ hT, hdT, h3⟩
/-! ### try: .. except clauses, of one class or of a tuple of classes, named or not -/
/-- what a clause's test answers -/
def TestX (X : Cx) (t : Expr) (cs : List Value) : Prop := ∀ (a : Addr) (cls : Value) (b : Bool) (pn pnz : List (Addr × Obj)) (σ : L2.St) (H : Hp) (s : Shared) (Q : Bool → Shared → Prop) (E : Value → Shared → Prop), Inv (X.suite a pn) pnz σ H s →
  PySem.W.Looks (model X.prog X.w) s.heap (typeOf (.ref a)) cls → PySem.W.exmAny X.K cls cs = some b → (∀ h', (∀ q o, s.heap.get? q = some o → h'.get? q = some o) → Q b { s with heap := h' }) →
  wpAny (model X.prog X.w) (X.A.mark (some (.ref a))) (eval t X.env) (fun c z1 => wpAny (model X.prog X.w) (X.A.mark (some (.ref a))) (excMatches (.ref a) c) Q E z1) E s
section
variable {X : Cx}
theorem tx_name_core {x : Str} {c : Value} {np : Pos} (hc : Names X x c) {a : Addr} {pn pnz : List (Addr × Obj)} {σ : L2.St} {H : Hp} {s : Shared} {Q : Value → Shared → Prop} {E : Value → Shared → Prop} (I : Inv (X.suite a pn) pnz σ H s) (q : Q c s) :
    wpAny (model X.prog X.w) (X.A.mark (some (.ref a))) (eval (.Name x np) X.env) Q E s := by
  obtain ⟨hg, hdbg, hm | ⟨hm, hv, hnn⟩⟩ := hc
  · exact ld_glob (X := X.suite a pn) I hg hm q hdbg
  · exact ld_blt (X := X.suite a pn) I hg hm hv q hnn hdbg
theorem tx_name {x : Str} {c : Value} {np : Pos} (hc : Names X x c) : TestX X (.Name x np) [c] := fun a cls b pn pnz σ H s Q E I LT hge q => by
  obtain ⟨b1, d1, h1, h2, h3⟩ := PySem.W.exmAny_cons hge
  cases h2
  rw [Bool.or_false] at h3
  subst h3
  exact tx_name_core hc I ((PySem.W.exm_one I.kIn LT h1).here (q s.heap fun _ _ z => z))
theorem tx_tup2 {x1 x2 : Str} {c1 c2 : Value} {p1 p2 tp : Pos} {kk : Nat} (n1 : Names X x1 c1) (n2 : Names X x2 c2) : TestX X (.Tuple [.Name x1 p1, .Name x2 p2] kk tp) [c1, c2] := fun a cls b pn pnz σ H s Q E I LT hge q => by
  refine wpAny_Tuple ?_
  refine wpAny_items_cons (tx_name_core n1 I ?_)
  refine wpAny_items_cons (tx_name_core n2 I ?_)
  refine wpAny_items_nil ⟨by size_fits, ?_⟩
  have kp : ∀ q o, s.heap.get? q = some o → (s.heap.push { cls := .type "tuple", data := .seq [c1, c2].toArray }).get? q = some o := fun _ _ z => Heap.get?_push_of_some _ z
  exact (PySem.W.exm_tup2 (I.kIn.keeps kp) (LT.keeps kp) (Heap.get?_push_size s.heap rfl) hge).here (q _ kp)
theorem tx_tup3 {x1 x2 x3 : Str} {c1 c2 c3 : Value} {p1 p2 p3 tp : Pos} {kk : Nat} (n1 : Names X x1 c1) (n2 : Names X x2 c2) (n3 : Names X x3 c3) : TestX X (.Tuple [.Name x1 p1, .Name x2 p2, .Name x3 p3] kk tp) [c1, c2, c3] := fun a cls b pn pnz σ H s Q E I LT hge q => by
  refine wpAny_Tuple ?_
  refine wpAny_items_cons (tx_name_core n1 I ?_)
  refine wpAny_items_cons (tx_name_core n2 I ?_)
  refine wpAny_items_cons (tx_name_core n3 I ?_)
  refine wpAny_items_nil ⟨by size_fits, ?_⟩
  have kp : ∀ q o, s.heap.get? q = some o → (s.heap.push { cls := .type "tuple", data := .seq [c1, c2, c3].toArray }).get? q = some o := fun _ _ z => Heap.get?_push_of_some _ z
  exact (PySem.W.exm_tup3 (I.kIn.keeps kp) (LT.keeps kp) (Heap.get?_push_size s.heap rfl) hge).here (q _ kp)
theorem tx_tup4 {x1 x2 x3 x4 : Str} {c1 c2 c3 c4 : Value} {p1 p2 p3 p4 tp : Pos} {kk : Nat} (n1 : Names X x1 c1) (n2 : Names X x2 c2) (n3 : Names X x3 c3) (n4 : Names X x4 c4) : TestX X (.Tuple [.Name x1 p1, .Name x2 p2, .Name x3 p3, .Name x4 p4] kk tp) [c1, c2, c3, c4] := fun a cls b pn pnz σ H s Q E I LT hge q => by
  refine wpAny_Tuple ?_
  refine wpAny_items_cons (tx_name_core n1 I ?_)
  refine wpAny_items_cons (tx_name_core n2 I ?_)
  refine wpAny_items_cons (tx_name_core n3 I ?_)
  refine wpAny_items_cons (tx_name_core n4 I ?_)
  refine wpAny_items_nil ⟨by size_fits, ?_⟩
  have kp : ∀ q o, s.heap.get? q = some o → (s.heap.push { cls := .type "tuple", data := .seq [c1, c2, c3, c4].toArray }).get? q = some o := fun _ _ z => Heap.get?_push_of_some _ z
  exact (PySem.W.exm_tup4 (I.kIn.keeps kp) (LT.keeps kp) (Heap.get?_push_size s.heap rfl) hge).here (q _ kp)
end
/-- a clause: its classes, its name's slot, its suite -/
structure Cls1 where
  cs : List Value
  i : Option Nat
  ts : TS
def setI (σ : L2.St) (i : Option Nat) (x : Option V) : L2.St := match i with
  | some i => σ.set i x
  | none => σ
/-- what the clauses wish of an error of the body -/
def wX (K : PySem.W.Frag) (Wout : WX) (D : Ends) : List Cls1 → WX
  | [] => Wout
  | c :: r => fun cls d σ H => ∃ b, PySem.W.exmAny K cls c.cs = some b ∧
      (b = true → ∀ a, H a = none → c.ts { nx := fun σ' H' => D.nx (setI σ' c.i none) H', rt := D.rt, bk := fun σ' H' => D.bk (setI σ' c.i none) H', ct := fun σ' H' => D.ct (setI σ' c.i none) H' } (setI σ c.i (some (.ref a))) (upd H a (exq a cls d))) ∧
      (b = false → wX K Wout D r cls d σ H)
inductive HdsX (X : Cx) : List ExceptHandler → List Cls1 → Prop
  | nil : HdsX X [] []
  | cons {t : Expr} {cs : List Value} {ts : TS} {b₀ : Stmt} {suite : List Stmt} {pos' : Pos} {hds : List ExceptHandler} {l : List Cls1} (ht : TestX X t cs) (hsui : ∀ (a : Addr) (pn : List (Addr × Obj)), PSs (X.suite a pn) (b₀ :: suite) ts) (r : HdsX X hds l) :
      HdsX X (.ExceptHandler (some t) none (b₀ :: suite) pos' :: hds) (⟨cs, none, ts⟩ :: l)
  | as {t : Expr} {cs : List Value} {ts : TS} {n : Str} {i : Nat} {b₀ : Stmt} {suite : List Stmt} {pos' : Pos} {hds : List ExceptHandler} {l : List Cls1} (ht : TestX X t cs) (hi : X.N[i]? = some n) (hln : X.env.kindOf n = some .local) (hN : X.N.Nodup) (hsui : ∀ (a : Addr) (pn : List (Addr × Obj)), PSs (X.suite a pn) (b₀ :: suite) ts) (r : HdsX X hds l) :
      HdsX X (.ExceptHandler (some t) (some n) (b₀ :: suite) pos' :: hds) (⟨cs, some i, ts⟩ :: l)
section
variable {X : Cx} {body : List Stmt} {h₀ : ExceptHandler} {hds : List ExceptHandler} {l : List Cls1} {pos : Pos} {tb : WX → TS} {Wout : WX}
theorem ps_tryX (hst : X.stack = X.env :: X.outer) (hf : X.env.frame = some X.env.locals) (hex : X.ex = []) (tkk : Takes X Wout)
    (hbb : ∀ (W : WX) (pn : List (Addr × Obj)) (xe : Value → Shared → Prop), Takes (X.tr pn xe) W → PassesOwn (model X.prog X.w) X.A X.env xe → PSs (X.tr pn xe) body (tb W))
    (hh : HdsX X (h₀ :: hds) l) : PS X (.Try body (h₀ :: hds) [] [] pos) (fun D σ H => tb (wX X.K Wout D l) D σ H) := by
  refine ⟨fun pnz s σ H D I h => ?_⟩
  have ok := I.ok
  have hfr : X.A.frames = some (X.env :: X.outer) := by rw [ok.frames, hst]
  refine wpAny_Try_except ?_
  refine wpAny_mono ((hbb (wX X.K Wout D l) (X.pn ++ pnz) (fun e s₁ => wpAny (model X.prog X.w) X.A (noteFrame e X.env) (fun _ s₂ => wpAny (model X.prog X.w) X.A (setFlight e none) (fun _ s₃ =>
    wpAny (model X.prog X.w) X.A (handleBy e X.env (h₀ :: hds)) (SP X pnz D) X.xe s₃) X.xe s₂) X.xe s₁) (fun u s' xx => ?_) PassesOwn.looking).run [] s σ H D (I.toTry _) h) (fun f z1 hpo => ?_) (fun e z1 hge => hge)
  · -- the catch
    obtain ⟨a, B, sI, pins', σ', H', cls, d, rfl, J', nbb, upp, sky, na, osx, abr, w⟩ := xx
    have Jv : Inv X pnz σ' H' sI := J'.ofTry ok
    have sky' : Sky B (X.env :: X.outer) a (Zc cls d) X.env.locals s'.heap := by rw [← hst]; exact sky
    show wpAny (model X.prog X.w) X.A (noteFrame (.ref a) X.env) _ _ _
    refine Sky.land Zc.steady hfr hf sky' fun h3 fy3 up3 => ?_
    have notFr : ∀ {h : Heap} {o : Obj} {vz : Array Value}, h.FunFrames B (X.env :: X.outer) → h.get? a = some o → o.data = .fields vz → a ∉ frs (X.env :: X.outer) := fun {h o vz} ff e dd hm => by
      obtain ⟨_, o', e', hnf⟩ := ff.mem hm
      rw [e] at e'; cases e'
      exact hnf _ dd
    have nfr : a ∉ frs (X.env :: X.outer) := by
      obtain ⟨oe3, vs3, he3, hz3, hd3⟩ := fy3.there
      exact notFr fy3.2.2.1 he3 hd3
    have nLl : a ≠ X.env.locals := fun z => nfr (List.mem_filterMap.mpr ⟨X.env, List.mem_cons_self, by rw [hf, z]⟩)
    have nB : B.get? a = none := fy3.2.1
    have gone : ∀ b o, sI.heap.get? b = some o → b ∉ frs X.stack → b ≠ a := fun b o e hbb z => by
      have := nbb b o e hbb
      rw [z, nB] at this; cases this
    have n0 : X.s_0.heap.get? a = none := by
      cases q : X.s_0.heap.get? a with
      | none => rfl
      | some o =>
        obtain ⟨o', e'⟩ := Jv.base.there a o q (by rw [hex]; exact fun z => nomatch z)
        exact absurd rfl (gone a o' e' (by rw [hst]; exact nfr))
    have np : ∀ p ∈ X.pn ++ pnz, p.1 ≠ a := fun p hp => by
      obtain ⟨e, n, nee, nf, dd⟩ := Jv.pin p hp
      refine gone p.1 p.2 e fun hm => ?_
      rcases List.mem_cons.mp (Jv.stkSub p.1 hm) with z | z
      · exact nee z
      · exact nf z
    have go : ∀ {hds' : List ExceptHandler} {l' : List Cls1}, HdsX X hds' l' → wX X.K Wout D l' cls d σ' H' → ∀ h3, HandSPX.FlyingZ B (X.env :: X.outer) a (Zc cls d) h3 → s'.heap.UpToSlots h3 →
        wpAny (model X.prog X.w) X.A (handleBy (.ref a) X.env hds') (SP X pnz D) X.xe { s' with heap := h3 } := by
      intro hds' l' hk
      have suite_go : ∀ {t : Expr} {cs : List Value} {hds2 : List ExceptHandler} {l2 : List Cls1} {nm : Option Str} {b₀ : Stmt} {suite : List Stmt} {pos' : Pos} {ts : TS} {i : Option Nat} (ht : TestX X t cs)
          (ih : wX X.K Wout D l2 cls d σ' H' → ∀ h3, HandSPX.FlyingZ B (X.env :: X.outer) a (Zc cls d) h3 → s'.heap.UpToSlots h3 → wpAny (model X.prog X.w) X.A (handleBy (.ref a) X.env hds2) (SP X pnz D) X.xe { s' with heap := h3 })
          (run : ∀ h4, HandSPX.FlyingZ B (X.env :: X.outer) a (Zc cls d) h4 → s'.heap.UpToSlots h4 →
            ts { nx := fun σ' H' => D.nx (setI σ' i none) H', rt := D.rt, bk := fun σ' H' => D.bk (setI σ' i none) H', ct := fun σ' H' => D.ct (setI σ' i none) H' } (setI σ' i (some (.ref a))) (upd H' a (exq a cls d)) →
            codeAny (model X.prog X.w) (X.A.mark (some (.ref a))) (.handlers (.ref a) [.ExceptHandler none nm (b₀ :: suite) pos'] X.env) (fun r s₂ => match r with
              | .ok f => (match nm with
                | none => SP X pnz D f s₂
                | some n => wpAny (model X.prog X.w) X.A (do bindName X.env n .none; unbindBehindTheSuite X.env n pos') (fun _ s₃ => SP X pnz D f s₃) X.xe s₂)
              | .error x => cameBackBy (model X.prog X.w) X.A X.env X.xe x s₂) { s' with heap := h4 }),
          wX X.K Wout D (⟨cs, i, ts⟩ :: l2) cls d σ' H' → ∀ h3, HandSPX.FlyingZ B (X.env :: X.outer) a (Zc cls d) h3 → s'.heap.UpToSlots h3 →
            wpAny (model X.prog X.w) X.A (handleBy (.ref a) X.env (.ExceptHandler (some t) nm (b₀ :: suite) pos' :: hds2)) (SP X pnz D) X.xe { s' with heap := h3 } := by
        intro t cs hds2 l2 nm b₀ suite pos' ts i ht ih run ⟨b, hb1, hyes, hno⟩ h3 fy3 up3
        have J3 : Inv X pnz σ' H' { s' with heap := h3 } := Jv.landed nbb fy3.1 (upp.trans up3) osx abr
        obtain ⟨oe3, vs3, he3, hz3, hd3⟩ := fy3.there
        have LT : PySem.W.Looks (model X.prog X.w) h3 (typeOf (.ref a)) cls := fun A Q E s k q => wpAny_typeOf_ref (k _ _ he3) (by rw [hz3.1]; exact q)
        refine wpAny_handleBy_cons (codeAny_handlers_test ?_) (by intro q; cases q)
        refine ht a cls b (X.pn ++ pnz) [] σ' H' _ _ _ (J3.suiteT a) LT hb1 fun h5 k5 => ?_
        have fl5 := flying_keep fy3 k5
        have up5 : s'.heap.UpToSlots h5 := up3.trans (Heap.UpToSlots.of_keeps k5)
        cases b with
        | true => exact run h5 fl5 up5 (hyes rfl a na)
        | false => exact ih (hno rfl) h5 fl5 up5
      induction hk with
      | nil =>
        intro w h3 fy3 up3
        refine wpAny_handleBy_nil ?_
        obtain ⟨kk1, k2, k3, ob, vz, T, oT, ts', hge, hzz, hdd, h1, hrm⟩ := id fy3
        unfold PySem.passOn
        refine wpAny_bind (wpAny_field hge hdd h1 ?_)
        rw [if_neg (show ¬ ((Value.ref T == Value.none) = true) from by simp)]
        have fin : wpAny (model X.prog X.w) X.A (setFlight (.ref a) X.env.frame) (fun _ s4 => wpAny (model X.prog X.w) X.A (throw (.ref a) : Sem Flow) (SP X pnz D) X.xe s4) X.xe { s' with heap := h3 } := by
          rw [hf]
          refine HandSPX.setFlight_upZ fy3 fun h4 hh4 up4 => wpAny_throw (tkk _ _ ?_)
          exact ⟨a, B, sI, pnz, σ', H', cls, d, rfl, Jv, nbb, (upp.trans up3).trans up4, .inr (.inr (by rw [hst]; exact hh4)), na, osx, abr, w⟩
        first
          | exact wpAny_bind (wpAny_pure (wpAny_bind fin))
          | exact wpAny_bind fin
      | @cons t cs ts b₀ suite pos' hds2 l2 ht hsui r ih =>
        refine suite_go ht ih fun h3 fy3 up3 hts => ?_
        refine codeAny_handlers_suite ?_
        refine HandSPX.lands_againZ fy3 fun h4 fy4 up4 => ?_
        have J4 : Inv X pnz σ' H' { s' with heap := h4 } := Jv.landed nbb fy4.1 ((upp.trans up3).trans up4) osx abr
        obtain ⟨oe4, vs4, he4, hz4, hd4⟩ := fy4.there
        have S4 := (L2.Inv.adopt J4 he4 hz4 hd4 na n0 nLl np).suiteT a
        refine wpAny_mono ((hsui a (X.pn ++ pnz)).run [] _ _ _ _ S4 hts) (fun f z6 hpo => ?_) (fun _ _ z => False.elim z)
        cases f with
        | next =>
          obtain ⟨σ6, G6, Z6, w6⟩ := hpo
          exact ⟨_, _, Z6.unsuiteT ok, w6⟩
        | brk =>
          obtain ⟨σ6, G6, Z6, w6⟩ := hpo
          exact ⟨_, _, Z6.unsuiteT ok, w6⟩
        | cont =>
          obtain ⟨σ6, G6, Z6, w6⟩ := hpo
          exact ⟨_, _, Z6.unsuiteT ok, w6⟩
        | ret u =>
          obtain ⟨u6, σ6, G6, Z6, r6, w6⟩ := hpo
          exact ⟨_, _, _, Z6.unsuiteT ok, r6, w6⟩
      | @as t cs ts n i b₀ suite pos' hds2 l2 ht hi hln hN hsui r ih =>
        refine suite_go ht ih fun h3 fy3 up3 hts => ?_
        have hloc : Loc X.env.scope n := .inl hln
        refine codeAny_handlers_suite_as ?_
        refine HandSPX.lands_againZ fy3 fun h4 fy4 up4 => ?_
        have J4 : Inv X pnz σ' H' { s' with heap := h4 } := Jv.landed nbb fy4.1 ((upp.trans up3).trans up4) osx abr
        obtain ⟨oe4, vs4, he4, hz4, hd4⟩ := fy4.there
        have S4 := (L2.Inv.adopt J4 he4 hz4 hd4 na n0 nLl np).suiteT a
        refine store_ok (X := X.suite a (X.pn ++ pnz)) (v := .ref a) S4 hN hi hloc rfl (fun s5 S5 => ?_) (.inr hln)
        refine wpAny_mono ((hsui a (X.pn ++ pnz)).run [] s5 _ _ _ S5 hts) (fun f z6 hpo => ?_) (fun _ _ z => False.elim z)
        have end_ : ∀ {σ6 : L2.St} {G6 : Hp} {Q : Shared → Prop}, Inv (X.suite a (X.pn ++ pnz)) [] σ6 G6 z6 → (∀ s7, Inv X pnz (σ6.set i none) G6 s7 → Q s7) →
            wpAny (model X.prog X.w) X.A (do bindName X.env n .none; unbindBehindTheSuite X.env n pos') (fun _ s7 => Q s7) X.xe z6 := fun {σ6 G6 Q} Z6 hqq => gone_ok (Z6.unsuiteT ok) hN hi hln hqq
        cases f with
        | next =>
          obtain ⟨σ6, G6, Z6, w6⟩ := hpo
          exact end_ Z6 fun s7 J7 => ⟨_, _, J7, w6⟩
        | brk =>
          obtain ⟨σ6, G6, Z6, w6⟩ := hpo
          exact end_ Z6 fun s7 J7 => ⟨_, _, J7, w6⟩
        | cont =>
          obtain ⟨σ6, G6, Z6, w6⟩ := hpo
          exact end_ Z6 fun s7 J7 => ⟨_, _, J7, w6⟩
        | ret u =>
          obtain ⟨u6, σ6, G6, Z6, r6, w6⟩ := hpo
          exact end_ Z6 fun s7 J7 => ⟨_, _, _, J7, r6, w6⟩
    exact go hh w h3 fy3 up3
  · cases f with
    | next =>
      obtain ⟨σ', H', J', q⟩ := hpo
      exact wpAny_execs_nil ⟨σ', H', J'.ofTry ok, q⟩
    | brk =>
      obtain ⟨σ', H', J', q⟩ := hpo
      exact ⟨σ', H', J'.ofTry ok, q⟩
    | cont =>
      obtain ⟨σ', H', J', q⟩ := hpo
      exact ⟨σ', H', J'.ofTry ok, q⟩
    | ret u =>
      obtain ⟨v, σ', H', J', r, q⟩ := hpo
      exact ⟨v, σ', H', J'.ofTry ok, r, q⟩
end
end EX

set_option Elab.async false
set_option linter.all false
set_option maxRecDepth 100000
set_option maxHeartbeats 4000000
namespace EX
open PySem PySem.Spec PyProof.Rows L2 L2H
/-! ### isinstance and the attributes of a known error -/
def rIsQ (K : PySem.W.Frag) : List V → Hp → VK → Prop := fun xs H Q => ∃ (a D : Addr) (d : Option Addr) (c : V) (cv : Value) (b : Bool), xs = [.ref a, c] ∧ H a = some (exq a (.ref D) d) ∧ (∀ dd, d = some dd → ∃ u, H dd = some u) ∧ ExcC K D ∧ (∀ u, RelV c u → u = cv) ∧ PySem.W.kitOne K (.ref D) cv = some b ∧ Q (.bl b) H
theorem hok_there {P : Program} {w : World} {H : Hp} {h : Heap} {a : Addr} {u : HO} (hok : HOk P w H h) (e : H a = some u) : ∃ o, h.get? a = some o := objOk_get (hok a u e)
theorem inst_at {P : Program} {w : World} {H : Hp} {h : Heap} {a D : Addr} {d : Option Addr} (hok : HOk P w H h) (ha : H a = some (exq a (.ref D) d)) (hdd : ∀ dd, d = some dd → ∃ u, H dd = some u) : ∃ ox od, PySem.W.InstAt h a ox D od := by
  obtain ⟨ob, vz, hge, ⟨h1, h2⟩, hv⟩ := exq_at hok ha
  cases d with
  | none => exact ⟨ob, none, hge, h1, by unfold PySem.W.notCls; rw [hv] <;> rfl, by rw [h2]; trivial⟩
  | some dd =>
    obtain ⟨u, hu⟩ := hdd dd rfl
    obtain ⟨od, hob⟩ := hok_there hok hu
    exact ⟨ob, some od, hge, h1, by unfold PySem.W.notCls; rw [hv] <;> rfl, by rw [h2]; exact hob⟩
theorem call_isQ {X : Cx} : CallR X (.builtin "isinstance") (rIsQ X.K) := by
  intro pnz s σ H xs uz Q I r h
  obtain ⟨a, D, d, c, cv, b, rfl, ha, hdd, C, hcv, e, q⟩ := h
  cases r with
  | cons rx rr =>
    cases rr with
    | cons rt rr =>
      cases rr
      cases rx
      have ec := hcv _ rt
      subst ec
      obtain ⟨ox, od, Jv⟩ := inst_at I.hok ha hdd
      have hcl : (PySem.W.clsIn X.K D).isSome = true := by
        obtain ⟨cd, hc, _⟩ := PySem.W.any_some C.hd
        rw [hc]; rfl
      exact PySem.W.kia_one (PySem.W.kitx_exc (ox := ox) (od := od) hcl C.hg C.hk C.hs C.ha C.hn C.ht C.hm) I.kIn Jv e (fun z => nomatch z) fun tkk => ⟨.bl b, H, I.kept (t' := tkk) fun _ _ z => z, rfl, q⟩
/-- e.f of a known error -/
def tXq (K : PySem.W.Frag) (f : Str) (te : TE) : TE := fun σ H Q => te σ H fun x G1 => ∃ (a C dd : Addr) (fs : List (Str × V)) (v : V), x = .ref a ∧ G1 a = some (exq a (.ref C) (some dd)) ∧ G1 dd = some (.xd fs) ∧ XfC K C ∧ PySem.W.findIn K (.ref C) f = some none ∧ fs.lookup f = some v ∧ Q v G1
theorem pe_xq {X : Cx} {e : Expr} {te : TE} {f : Str} {pos : Pos} (hge : PE X e te) (hbb : attributeBase e f X.env (eval e X.env) = eval e X.env := by rfl) : PE X (.Attribute e f pos) (tXq X.K f te) := by
  refine ⟨fun pnz s σ H Q I h => ?_⟩
  refine attr_of hbb (thn (hge.run pnz s σ H _ I h) fun u z1 hh => ?_)
  obtain ⟨x, G1, In1, rx, a, C, dd, fs, v, ex, ea, ed, T, hno, l, q⟩ := hh
  subst ex
  obtain rfl : u = Value.ref a := rx
  obtain ⟨ob, vz, hget, hzz, hdd⟩ := exq_at In1.hok ea
  have hxx : ObjOk X.prog X.w G1 z1.heap dd (.xd fs) := In1.hok dd _ ed
  obtain ⟨mA, hns, hrm⟩ := hxx
  obtain ⟨od, hob, hl⟩ := lookIn_ns hns
  obtain ⟨u, hu, ru⟩ := RelO.some_of (v := v) (o := mA f) (by rw [← l]; exact hrm f)
  have Jv : PySem.W.InstAt z1.heap a ob C (some od) := ⟨hget, hzz.1, by unfold PySem.W.notCls; rw [hdd] <;> rfl, by rw [hzz.2]; exact hob⟩
  exact HandSPX.exc_get In1.kIn Jv T.ga T.gg T.exC (PySem.W.findObj_own T.hdC hno rfl (by rw [hl, hu])) (handed_of ru) ⟨v, G1, In1.tok _, ru, q⟩
/-! ### defs called in an except suite -/
structure FnS (P : Program) (w : World) (K : PySem.W.Frag) (mg : Str → Option Value) (base : Heap) (k : Nat) (f : Addr) (fd : FuncData) (ps : List Str) (sp : Sp) : Prop where
  len : ∀ vz H Q E, sp vz H Q E → vz.length = ps.length
  run : ∀ (A : Around) (outer : List Env) (s : Shared) (H : Hp) (args : Args) (uz : List Value) (vz : List V) (Q : VK) (E : XK), RoomH k A → Env0 P w K mg base A outer s H → BindsTo s fd args (ps.zip uz) → Vals vz uz → sp vz H Q E →
    codeAny (model P w) A (.call (.ref f) args) (CR CX0 outer P w H s Q E) s
def cxS (P : Program) (w : World) (K : PySem.W.Frag) (mg : Str → Option Value) (base : Heap) (N : List Str) (qual : Str) (scope : Scope) (f : Addr) (cd : Value) (A : Around) (outer : List Env) (s : Shared) (H : Hp) (E : XK) : Cx :=
  { cxOf CX0 P w K mg base N qual scope f cd A outer s H E with calm := false }
theorem inv_startS {P : Program} {w : World} {K : PySem.W.Frag} {mg : Str → Option Value} {base : Heap} {N ps : List Str} {qual : Str} {scope : Scope} {f : Addr} {cd : Value} {A : Around} {outer : List Env} {s z1 : Shared} {H : Hp} {E : XK} {uz : List Value} {vz : List V}
    (S : FnScope N ps scope) (e0 : Env0 P w K mg base A outer s H) (hl : vz.length = ps.length) (r : Vals vz uz)
    (x : InCallC s s.heap.objs.size (bindL (envOfC qual scope s.heap.objs.size f cd).kindOf (ps.zip uz) fun _ => none) (cellsFrom (s.heap.objs.size + 1) scope.names []) (bindC (envOfC qual scope s.heap.objs.size f cd).kindOf (ps.zip uz) fun _ => none) z1) :
    Inv (cxS P w K mg base N qual scope f cd A outer s H E) [] (L2.start N vz) H z1 := by
  have hpl : ps.length ≤ N.length := by have := congrArg List.length S.pre; rw [List.length_take] at this; omega
  obtain ⟨h1, tkk, rfl, hk⟩ := x.done
  have noA : ∀ b : Addr, b ∉ (cxS P w K mg base N qual scope f cd A outer s H E).ex := fun b z => absurd (show b ∈ ([] : List Addr) from z) (by simp)
  refine ⟨⟨e0.mod, S.kind, rfl, rfl, Nat.le_refl _, fun y z c h1 h2 => ?_, fun y hy => ?_, fun y c _ h => ?_, (fun z => Bool.noConfusion (show false = true from z)), Around.frames_deeper e0.frames, .inr ⟨rfl, rfl⟩, fun b z => absurd z (noA b), e0.bs, e0.bsz, fun b _ _ => noA b, fun b z => absurd z (noA b), e0.funs, e0.frf⟩,
    rfl, e0.bare, Un.kept hk, ⟨_, x.toInCall.ns, fun i y v h1 h2 h3 => ?_⟩, fun y c h => ⟨_, x.cell y c h⟩, e0.hok.fresh (Nat.le_refl _), fun y c h => ?_, fun q hqq => absurd (show q ∈ ([] : List (Addr × Obj)) ++ [] from hqq) (by simp), e0.hok.kept hk, ?_⟩
  · exact name_of_addr x.apart (PySem.mem_of_lookup h1) (PySem.mem_of_lookup h2)
  · have hy : scope.names.lookup y = some .cell ∨ scope.names.lookup y = some .free := hy
    rcases hy with hy | hy
    · exact cell_has hy
    · exact absurd rfl (S.nofree _ (PySem.mem_of_lookup hy))
  · exact Nat.le_of_lt (x.above y c (PySem.mem_of_lookup h))
  · have hi : i < vz.length := by
      unfold L2.start at h2
      by_cases hi : i < vz.length
      · exact hi
      · rw [List.getElem?_append_right (by simpa using hi)] at h2
        rw [List.getElem?_replicate] at h2
        split at h2 <;> cases h2
    have ha : vz[i]? = some v := by
      unfold L2.start at h2
      rw [List.getElem?_append_left (by simpa using hi), List.getElem?_map] at h2
      cases e : vz[i]? with
      | none => rw [e] at h2; cases h2
      | some a => rw [e] at h2; cases h2; rfl
    obtain ⟨u, hu, rv⟩ := r.get ha
    have hp : ps[i]? = some y := by
      rw [← S.pre, List.getElem?_take_of_lt (by omega)]; exact h1
    have ndP : ps.Nodup := by rw [← S.pre]; exact S.nd.sublist (List.take_sublist _ _)
    refine ⟨u, rv, ?_⟩
    rcases S.par y (List.mem_of_getElem? hp) with k | k
    · exact .inl ⟨k, bindL_get ndP hp hu k⟩
    · obtain ⟨c, e⟩ := cell_has (n := s.heap.objs.size + 1) k
      refine .inr ⟨.inl k, c, e, ?_⟩
      have q := x.cell y c e
      rw [bindC_get ndP hp hu (by show scope.names.lookup y ≠ _; rw [k]; decide)] at q
      exact q
  · exact e0.hok.fresh (Nat.le_of_lt (x.above y c (PySem.mem_of_lookup h)))
  · unfold L2.start
    show _ = N.length
    rw [List.length_append, List.length_map, List.length_replicate]
    omega
theorem fn_ofS {P : Program} {w : World} {K : PySem.W.Frag} {mg : Str → Option Value} {base : Heap} {k : Nat} {x qual : Str} {st : Stmt} {f : Addr} {fd : FuncData} {N ps : List Str} {sp : Sp} (F : Fun K x qual st f fd) (S : FnScope N ps (defScope st))
    (len : ∀ vz H Q E, sp vz H Q E → vz.length = ps.length)
    (hbody : ∀ (cdv : Value) (A : Around) (outer : List Env) (s : Shared) (H : Hp) (vz : List V) (Q : VK) (E : XK), RoomH k (A.deeper (envOfC qual (defScope st) s.heap.objs.size f cdv)) → sp vz H Q E →
      ∃ t, PSs (cxS P w K mg base N qual (defScope st) f cdv A outer s H E) (defBody st) t ∧ t { nx := fun _ H' => Q .non H', rt := Q } (L2.start N vz) H) :
    FnS P w K mg base (k + 1) f fd ps sp := by
  obtain ⟨oc, od, kV, doc, pm, an, cdv, ct, osl, rfl, lk, hcd⟩ := F.ex
  refine ⟨len, fun A outer s H args uz vz Q E hrm e0 hbb r hpo => ?_⟩
  have hl := len _ _ _ _ hpo
  have KX : K.In s.heap := e0.mod.kin.keeps fun b o e => (e0.bs b o e).1
  have lim : s.heap.NoLimit := e0.mod.nolimit.keeps fun b o e => (e0.bs b o e).1
  have hkind : ∀ y ∈ ps.zip uz, (defScope st).names.lookup y.1 = some .local ∨ ((defScope st).names.lookup y.1 = some .cell ∧ ((cellsFrom (s.heap.objs.size + 1) (defScope st).names []).lookup y.1).isSome = true) := fun ⟨n, v⟩ hy => by
    rcases S.par n (List.of_mem_zip hy).1 with q | q
    · exact .inl q
    · exact .inr ⟨q, PySem.W.cellsFrom_some _ _ _ (.inl q)⟩
  refine codeAny_call_function hrm.depth (KX _ _ lk) rfl S.co S.gen rfl (PySem.W.codeRec_of KX hcd) (hbb _ _ _ _ ?_)
  refine wpAny_newFunctionEnv_cells S.kind hkind fun env hge z1 x => ?_
  subst hge
  refine ⟨lim.keeps x.toInCall.keep, codeAny_func ?_⟩
  obtain ⟨t, ht, hqq⟩ := hbody cdv A outer s H vz Q E (hrm.deeper _) hpo
  have I : Inv (cxS P w K mg base N qual (defScope st) f cdv A outer s H E) [] (L2.start N vz) H z1 := inv_startS S e0 hl r x
  refine wpAny_mono (ht.run [] z1 (L2.start N vz) H _ I hqq) (fun fl s' hst => ?_) fun e s' hst => hst
  have fin : ∀ {σ' : L2.St} {H' : Hp} {v : V} {u : Value}, Inv (cxS P w K mg base N qual (defScope st) f cdv A outer s H E) [] σ' H' s' → RelV v u → Q v H' → CE outer P w H s Q u s' :=
    fun {σ' H' v u} Jv rv q => ⟨v, H', Jv.os, Jv.bare, Jv.base, Jv.hok, rv, q⟩
  cases fl with
  | ret u =>
    obtain ⟨v, σ', H', Jv, rv, q⟩ := hst
    exact fin Jv rv q
  | next =>
    obtain ⟨σ', H', Jv, q⟩ := hst
    exact fin (v := V.non) (u := Value.none) Jv rfl q
  | brk =>
    obtain ⟨_, _, _, q⟩ := hst
    exact False.elim q
  | cont =>
    obtain ⟨_, _, _, q⟩ := hst
    exact False.elim q
section
variable {X : Cx} {k : Nat} {f : Addr} {fd : FuncData} {ps : List Str} {sp : Sp} {E : XK} {x : Str} {q pos : Pos} {e : Expr} {es : List Expr} {t : TA}
theorem pe_callSu (F : FnS X.prog X.w X.K X.mg X.base k f fd ps sp) (hrm : RoomH k X.A) (hg : Gl X x) (hm : X.mg x = some (.ref f)) (hk : PySem.W.keepIn X.K (.ref f) = true) (hbb : Binds X.K fd ps [])
    (ha : PA X (e :: es) t) (hdb : (x == ("__debug__" : Str)) = false := by decide) (hge : starEach (e :: es) X.env = (false, eval e X.env) :: starEach es X.env := by rfl) (hpl : (backTo pos (starEach es X.env)).any (·.1) = false := by rfl) :
    PE X (.Call (.Name x q) (e :: es) [] pos) (tCall sp [] E t) := by
  refine ⟨fun pnz s σ H Q I h => ?_⟩
  refine wpAny_Call_Name_kw (ld_glob I hg hm ?_ hdb)
  refine PySem.W.callWith_K (h₀ := X.base) I.ok.mod.kin hk (thn (ha.run pos pnz s σ H _ I h) fun uz z1 ⟨vz, G1, In1, r, q⟩ => ⟨In1.kIn, ?_⟩) hge hpl
  have q' : sp vz G1 Q E := by
    have z : sp (vz ++ []) G1 Q E := q
    rw [List.append_nil] at z; exact z
  have hl : uz.length = ps.length := by rw [← r.length]; exact F.len _ _ _ _ q'
  have b := hbb z1 uz In1.kIn (by rw [List.append_nil]; exact hl)
  rw [List.append_nil] at b
  refine wpAny_call (codeAny_mono (F.run X.A X.stack z1 G1 ⟨uz, []⟩ uz vz Q E hrm In1.env0 b r q') fun r s' hqq => ?_)
  cases r with
  | error e => exact False.elim hqq
  | ok fl =>
    cases fl with
    | ret u => exact In1.after hqq
    | next => exact False.elim hqq
    | brk => exact False.elim hqq
    | cont => exact False.elim hqq
end
theorem roomS {k : Nat} {A : Around} {o : Option Value} (r : Room k A) : RoomH k (A.mark o) := ⟨r.dp, r.un⟩
end EX

set_option Elab.async false
set_option linter.all false
set_option maxRecDepth 100000
set_option maxHeartbeats 4000000
/-! ### a tuple times one, times none -/
namespace EX
open PySem PySem.Spec PyProof.Rows L2
theorem tuple_mul1 (l : Addr) (items : Array Value) (n : Nat) (dd : Option Addr) (sl : Array (Option Value)) (u : Tok) :
    Meets (Builtin.«tuple.__mul__» ⟨[.ref l, .int 1 u], []⟩) (fun _ R z => z.heap.get? l = some { cls := .type "tuple", dict := dd, data := .seq items n, slots := sl } ∧ R (.ok (.ret (Value.ref l))) z) :=
  .of_wp fun prog w A R z h => by
    obtain ⟨h0, g, d, tk, os⟩ := z
    obtain ⟨hl, h⟩ := h
    have f1 := AutoSeq1.idx_int
    wp_walk using wpAny_loadPart' hl
    exact ⟨_, rfl, h⟩
theorem tuple_mul0 (l : Addr) (items : Array Value) (n : Nat) (dd : Option Addr) (sl : Array (Option Value)) (u : Tok) (hne : items.isEmpty = false) :
    Meets (Builtin.«tuple.__mul__» ⟨[.ref l, .int 0 u], []⟩) (fun _ R z => z.heap.get? l = some { cls := .type "tuple", dict := dd, data := .seq items n, slots := sl } ∧
      R (.ok (.ret (Value.ref z.heap.objs.size))) { z with heap := z.heap.push { cls := Value.type "tuple", data := Data.seq #[] }, toks := z.toks }) :=
  .of_wp fun prog w A R z h => by
    obtain ⟨h0, g, d, tk, os⟩ := z
    obtain ⟨hl, h⟩ := h
    have f1 := AutoSeq1.idx_int
    have c1 : (items.isEmpty || (0 : Int) == 1) = false := by rw [hne]; rfl
    wp_walk using wpAny_loadPart' hl
    repeat (first
      | (refine wpAny_ite_false (decide_eq_false (by rw [c1]; exact Bool.false_ne_true)) ?_; wp_walk using wpAny_loadPart' hl))
    exact ⟨_, rfl, h⟩
def rRep01 (K : PySem.W.Frag) : R2 := fun x y H Q => ∃ l xs, x = .ref l ∧ SqT K H l xs ∧ xs ≠ [] ∧ ((y = .int 1 ∧ Q (.ref l) H) ∨ (y = .int 0 ∧ ∀ p, H p = none → Q (.ref p) (upd H p (.tup []))))
theorem op_rep01 {X : Cx} : OpR X (binaryOp .Mult) (rRep01 X.K) := by
  intro pz z σ H x y v u Q I rx ry h
  obtain ⟨l, xs, rfl, hT, hne, h⟩ := h
  cases rx
  obtain ⟨its, r, ⟨⟨cls, dd, data, sl⟩, ho, hc, n, hd⟩, hz⟩ := I.tuple hT
  simp only at hc hd
  subst hc hd
  have hi : its.toArray.isEmpty = false := by
    cases its with
    | nil => cases xs with
      | nil => exact absurd rfl hne
      | cons a b => cases r
    | cons a b => rfl
  rcases h with ⟨rfl, q⟩ | ⟨rfl, q⟩
  · obtain ⟨t, rfl⟩ := ry
    refine wpAny_binaryOp_repeat_ref (T := "tuple") (U := "int") (by decide) ⟨_, ho, rfl⟩ (fun s' => typeIs_int s' 1 t) noFill_tuple_mul F.fills_int_mul F.slot_int_rmul repeat_tuple F.slot_int_index.lookup
      (call_meets F.slot_int_rmul (typeIs_int z 1 t) F.entry_int_rmul (F.args_int_rmul_2 _ _) (int_rmul_tuple 1 t l its.toArray n dd sl)
        ⟨ho, rfl, ⟨_, ho, rfl⟩, call_meets F.slot_tuple_mul ⟨_, ho, rfl⟩ F.entry_tuple_mul (F.args_tuple_mul_2 _ _) (tuple_mul1 l its.toArray n dd sl t) ⟨ho, ?_⟩⟩)
    exact ⟨.ref l, H, I, rfl, q⟩
  · obtain ⟨t, rfl⟩ := ry
    refine wpAny_binaryOp_repeat_ref (T := "tuple") (U := "int") (by decide) ⟨_, ho, rfl⟩ (fun s' => typeIs_int s' 0 t) noFill_tuple_mul F.fills_int_mul F.slot_int_rmul repeat_tuple F.slot_int_index.lookup
      (call_meets F.slot_int_rmul (typeIs_int z 0 t) F.entry_int_rmul (F.args_int_rmul_2 _ _) (int_rmul_tuple 0 t l its.toArray n dd sl)
        ⟨ho, rfl, ⟨_, ho, rfl⟩, call_meets F.slot_tuple_mul ⟨_, ho, rfl⟩ F.entry_tuple_mul (F.args_tuple_mul_2 _ _) (tuple_mul0 l its.toArray n dd sl t hi) ⟨ho, ?_⟩⟩)
    refine ⟨.ref z.heap.objs.size, _, I.laid (t' := z.toks) (o := .tup []) (fun b ob q => Heap.get?_push_of_some _ q) (Nat.le_refl _) ?_, rfl, q _ (I.hok.fresh (Nat.le_refl _))⟩
    exact ⟨Nat.zero_le _, [], .nil, IsTup.new _ _⟩
end EX

set_option Elab.async false
set_option linter.all false
set_option maxRecDepth 100000
set_option maxHeartbeats 4000000
namespace DD
open PySem L2
abbrev Ex := Evl.Ex
/-- deep data -/
inductive DV where
  | non | bl (b : Bool) | int (i : Int) | str (s : Str)
  | tup (xs : List DV) | lst (xs : List DV)
  | ins (C : Addr) (fs : List (Str × DV))
  | rd (xs : List DV)
  | raw (v : V)
  /-- an empty dict that stays -/
  | dic
  /-- an error of the own class at C -/
  | exn (C : Addr) (fs : List (Str × DV))
  /-- a dict of ints by ints that stays -/
  | dki (kvs : List (Int × Int))
  /-- a tuple, exactly, that has no dict of its own -/
  | tx (xs : List DV)
/-- a dict of ints by ints, as the heap has it -/
def kvI (kvs : List (Int × Int)) : List (Key × V) := kvs.map fun p => (.inl p.1, .int p.2)
mutual
inductive Rp (K : PySem.W.Frag) (F : Hp) : V → DV → Prop
  | non : Rp K F .non .non
  | bl (b : Bool) : Rp K F (.bl b) (.bl b)
  | int (i : Int) : Rp K F (.int i) (.int i)
  | str (s : Str) : Rp K F (.str s) (.str s)
  | raw (v : V) : Rp K F v (.raw v)
  | tup {a : Addr} {xs : List V} {ds : List DV} (h : SqT K F a xs) (r : RpA K F xs ds) : Rp K F (.ref a) (.tup ds)
  | lst {a : Addr} {xs : List V} {ds : List DV} (h : F a = some (.lst xs)) (r : RpA K F xs ds) : Rp K F (.ref a) (.lst ds)
  | rd {a : Addr} {xs : List V} {ds : List DV} (h : SqL K F a xs) (r : RpA K F xs ds) : Rp K F (.ref a) (.rd ds)
  | ins {a C dx : Addr} {fs : List (Str × V)} {ds : List (Str × DV)} (h : F a = some (.ins C dx fs)) (r : RpF K F fs ds) : Rp K F (.ref a) (.ins C ds)
  | dic {a : Addr} (h : F a = some (.dK [])) : Rp K F (.ref a) .dic
  | dki {a : Addr} {o : Obj} {kvs : List (Int × Int)} (h : F a = some (.frz o (.dK (kvI kvs)))) : Rp K F (.ref a) (.dki kvs)
  | tx {a : Addr} {o : Obj} {xs : List V} {ds : List DV} (h : F a = some (.frz o (.tup xs))) (hc : o.cls = .type "tuple" ∧ o.dict = none) (r : RpA K F xs ds) : Rp K F (.ref a) (.tx ds)
  | exn {a C : Addr} {d : Option Addr} {fs : List (Str × V)} {ds : List (Str × DV)} (h : F a = some (EX.exq a (.ref C) d)) (hd : (d = none ∧ fs = []) ∨ ∃ dd, d = some dd ∧ F dd = some (.xd fs)) (r : RpF K F fs ds) : Rp K F (.ref a) (.exn C ds)
inductive RpA (K : PySem.W.Frag) (F : Hp) : List V → List DV → Prop
  | nil : RpA K F [] []
  | cons {v : V} {vs : List V} {d : DV} {ds : List DV} (h : Rp K F v d) (t : RpA K F vs ds) : RpA K F (v :: vs) (d :: ds)
inductive RpF (K : PySem.W.Frag) (F : Hp) : List (Str × V) → List (Str × DV) → Prop
  | nil : RpF K F [] []
  | cons {x : Str} {v : V} {vs : List (Str × V)} {d : DV} {ds : List (Str × DV)} (h : Rp K F v d) (t : RpF K F vs ds) : RpF K F ((x, v) :: vs) ((x, d) :: ds)
end
section
variable {K : PySem.W.Frag} {F F' : Hp}
mutual
theorem Rp.mono (e : Ex F F') : ∀ {v : V} {d : DV}, Rp K F v d → Rp K F' v d
  | _, _, .non => .non
  | _, _, .bl b => .bl b
  | _, _, .int i => .int i
  | _, _, .str s => .str s
  | _, _, .raw v => .raw v
  | _, _, .tup h r => .tup (Evl.ex_t e h) (RpA.mono e r)
  | _, _, .lst h r => .lst (e _ _ h) (RpA.mono e r)
  | _, _, .rd h r => .rd (Evl.ex_l e h) (RpA.mono e r)
  | _, _, .ins h r => .ins (e _ _ h) (RpF.mono e r)
  | _, _, .dic h => .dic (e _ _ h)
  | _, _, .dki h => .dki (e _ _ h)
  | _, _, .tx h hc r => .tx (e _ _ h) hc (RpA.mono e r)
  | _, _, .exn h hd r => .exn (e _ _ h) (hd.imp id fun ⟨dd, h1, h2⟩ => ⟨dd, h1, e _ _ h2⟩) (RpF.mono e r)
theorem RpA.mono (e : Ex F F') : ∀ {v : List V} {d : List DV}, RpA K F v d → RpA K F' v d
  | _, _, .nil => .nil
  | _, _, .cons h t => .cons (Rp.mono e h) (RpA.mono e t)
theorem RpF.mono (e : Ex F F') : ∀ {v : List (Str × V)} {d : List (Str × DV)}, RpF K F v d → RpF K F' v d
  | _, _, .nil => .nil
  | _, _, .cons h t => .cons (Rp.mono e h) (RpF.mono e t)
end
theorem RpA.length : ∀ {v : List V} {d : List DV}, RpA K F v d → v.length = d.length
  | _, _, .nil => rfl
  | _, _, .cons _ t => by simp [RpA.length t]
theorem RpA.get : ∀ {v : List V} {d : List DV} {i : Nat} {x : DV}, RpA K F v d → d[i]? = some x → ∃ u, v[i]? = some u ∧ Rp K F u x
  | _, _, _, _, .nil, e => by simp at e
  | _, _, 0, _, .cons h _, e => by simp at e; subst e; exact ⟨_, rfl, h⟩
  | _, _, i + 1, x, .cons _ t, e => by
    obtain ⟨u, h1, h2⟩ := RpA.get (i := i) (x := x) t (by simpa using e)
    exact ⟨u, by simpa using h1, h2⟩
theorem RpA.get' : ∀ {v : List V} {d : List DV} {i : Nat} {u : V}, RpA K F v d → v[i]? = some u → ∃ x, d[i]? = some x ∧ Rp K F u x
  | _, _, _, _, .nil, e => by simp at e
  | _, _, 0, _, .cons h _, e => by simp at e; subst e; exact ⟨_, rfl, h⟩
  | _, _, i + 1, x, .cons _ t, e => by
    obtain ⟨u, h1, h2⟩ := RpA.get' (i := i) (u := x) t (by simpa using e)
    exact ⟨u, by simpa using h1, h2⟩
theorem RpA.append : ∀ {v w : List V} {d e : List DV}, RpA K F v d → RpA K F w e → RpA K F (v ++ w) (d ++ e)
  | _, _, _, _, .nil, s => s
  | _, _, _, _, .cons r t, s => .cons r (RpA.append t s)
theorem RpA.take : ∀ {v : List V} {d : List DV} (n : Nat), RpA K F v d → RpA K F (v.take n) (d.take n)
  | _, _, 0, _ => .nil
  | _, _, _ + 1, .nil => .nil
  | _, _, n + 1, .cons r t => .cons r (RpA.take n t)
theorem RpA.drop : ∀ {v : List V} {d : List DV} (n : Nat), RpA K F v d → RpA K F (v.drop n) (d.drop n)
  | _, _, 0, r => r
  | _, _, _ + 1, .nil => .nil
  | _, _, n + 1, .cons _ t => RpA.drop n t
theorem RpA.set {x : V} {y : DV} (r : Rp K F x y) : ∀ {v : List V} {d : List DV} (i : Nat), RpA K F v d → RpA K F (v.set i x) (d.set i y)
  | _, _, _, .nil => .nil
  | _, _, 0, .cons _ t => .cons r t
  | _, _, i + 1, .cons q t => .cons q (RpA.set r i t)
theorem RpA.eraseIdx : ∀ {v : List V} {d : List DV} (i : Nat), RpA K F v d → RpA K F (v.eraseIdx i) (d.eraseIdx i)
  | _, _, _, .nil => .nil
  | _, _, 0, .cons _ t => t
  | _, _, i + 1, .cons q t => .cons q (RpA.eraseIdx i t)
theorem RpA.snoc {x : V} {y : DV} {v : List V} {d : List DV} (h : RpA K F v d) (r : Rp K F x y) : RpA K F (v ++ [x]) (d ++ [y]) := h.append (.cons r .nil)
theorem RpF.lookup {f : Str} : ∀ {v : List (Str × V)} {d : List (Str × DV)} {x : DV}, RpF K F v d → d.lookup f = some x → ∃ u, v.lookup f = some u ∧ Rp K F u x
  | _, _, _, .nil, e => by simp at e
  | (x, v) :: vs, _ :: ds, y, .cons h t, e => by
    by_cases hx : f == x
    · simp [List.lookup, hx] at e ⊢
      subst e
      exact h
    · simp [List.lookup, hx] at e ⊢
      exact RpF.lookup t e
theorem RpF.lookup_none {f : Str} : ∀ {v : List (Str × V)} {d : List (Str × DV)}, RpF K F v d → d.lookup f = none → v.lookup f = none
  | _, _, .nil, _ => rfl
  | (x, v) :: vs, _ :: ds, .cons h t, e => by
    unfold List.lookup at e ⊢
    cases hx : f == x with
    | true => rw [hx] at e; cases e
    | false =>
      rw [hx] at e
      exact RpF.lookup_none t e
theorem RpF.length : ∀ {v : List (Str × V)} {d : List (Str × DV)}, RpF K F v d → v.length = d.length
  | _, _, .nil => rfl
  | _, _, .cons _ t => by simp [RpF.length t]
def putD (f : Str) (v : DV) : List (Str × DV) → List (Str × DV)
  | [] => [(f, v)]
  | (g, w) :: r => if g = f then (g, v) :: r else (g, w) :: putD f v r
theorem RpA.ints (ns : List Int) : RpA K F (ns.map V.int) (ns.map DV.int) := by
  induction ns with
  | nil => exact .nil
  | cons n r ih => exact .cons (.int n) ih
theorem Rp.int_of {v : V} {i : Int} (h : Rp K F v (.int i)) : v = .int i := by cases h; rfl
theorem Rp.bl_of {v : V} {i : Bool} (h : Rp K F v (.bl i)) : v = .bl i := by cases h; rfl
theorem Rp.str_of {v : V} {i : Str} (h : Rp K F v (.str i)) : v = .str i := by cases h; rfl
theorem Rp.non_of {v : V} (h : Rp K F v .non) : v = .non := by cases h; rfl
theorem Rp.raw_of {v w : V} (h : Rp K F v (.raw w)) : v = w := by cases h; rfl
theorem Rp.tup_of {v : V} {ds : List DV} (h : Rp K F v (.tup ds)) : ∃ a xs, v = .ref a ∧ SqT K F a xs ∧ RpA K F xs ds := by cases h with | tup h r => exact ⟨_, _, rfl, h, r⟩
theorem Rp.lst_of {v : V} {ds : List DV} (h : Rp K F v (.lst ds)) : ∃ a xs, v = .ref a ∧ F a = some (.lst xs) ∧ RpA K F xs ds := by cases h with | lst h r => exact ⟨_, _, rfl, h, r⟩
theorem Rp.rd_of {v : V} {ds : List DV} (h : Rp K F v (.rd ds)) : ∃ a xs, v = .ref a ∧ SqL K F a xs ∧ RpA K F xs ds := by cases h with | rd h r => exact ⟨_, _, rfl, h, r⟩
theorem Rp.ins_of {v : V} {C : Addr} {ds : List (Str × DV)} (h : Rp K F v (.ins C ds)) : ∃ a dx fs, v = .ref a ∧ F a = some (.ins C dx fs) ∧ RpF K F fs ds := by cases h with | ins h r => exact ⟨_, _, _, rfl, h, r⟩
theorem Rp.exn_of {v : V} {C : Addr} {ds : List (Str × DV)} (h : Rp K F v (.exn C ds)) : ∃ a d fs, v = .ref a ∧ F a = some (EX.exq a (.ref C) d) ∧ ((d = none ∧ fs = []) ∨ ∃ dd, d = some dd ∧ F dd = some (.xd fs)) ∧ RpF K F fs ds := by cases h with | exn h hd r => exact ⟨_, _, _, rfl, h, hd, r⟩
theorem RpA.ints_of : ∀ {vs : List V} {ns : List Int}, RpA K F vs (ns.map DV.int) → vs = ns.map V.int
  | _, [], .nil => rfl
  | _, n :: ns, .cons h t => by rw [h.int_of, RpA.ints_of t]; rfl
theorem RpA.bls_of : ∀ {vs : List V} {ns : List Bool}, RpA K F vs (ns.map DV.bl) → vs = ns.map V.bl
  | _, [], .nil => rfl
  | _, n :: ns, .cons h t => by rw [h.bl_of, RpA.bls_of t]; rfl
theorem RpA.strs_of : ∀ {vs : List V} {ns : List Str}, RpA K F vs (ns.map DV.str) → vs = ns.map V.str
  | _, [], .nil => rfl
  | _, n :: ns, .cons h t => by rw [h.str_of, RpA.strs_of t]; rfl
end
/-- a dict whose keys are tuples, nested ones too: what is true of its object -/
def DNO (P : Program) (w : World) (d : Addr) (xs : List (NestedKey × Addr × Value)) : HO := .ext fun h => (d == sysModules) = false ∧ ∃ o es ep, h.get? d = some o ∧ o.ExactDict ∧ o.data = .dict es ep ∧ es.toList = xs.map (entryOfKey (nestedKind P w))
mutual
/-- data as such a key -/
def nkD : DV → Option NestedKey
  | .non => some .none
  | .bl b => some (.num (if b = true then 1 else 0))
  | .int i => some (.num i)
  | .str s => some (.text s)
  | .tup xs => (nkDs xs).map .tup
  | .lst _ => none
  | .ins _ _ => none
  | .rd _ => none
  | .raw _ => none
  | .dic => none
  | .exn _ _ => none
  | .dki _ => none
  | .tx _ => none
def nkDs : List DV → Option (List NestedKey)
  | [] => some []
  | x :: xs => match nkD x, nkDs xs with
    | some y, some ys => some (y :: ys)
    | _, _ => none
end
inductive RpN (K : PySem.W.Frag) (F : Hp) : List (NestedKey × Addr × Value) → List (DV × DV) → Prop
  | nil : RpN K F [] []
  | cons {k : NestedKey} {b : Addr} {u : Value} {v : V} {d e : DV} {xs : List (NestedKey × Addr × Value)} {ds : List (DV × DV)} (hk : nkD d = some k) (hd : k.depth ≤ 8) (rk : Rp K F (.ref b) d) (ru : RelV v u) (rv : Rp K F v e) (t : RpN K F xs ds) : RpN K F ((k, b, u) :: xs) ((d, e) :: ds)
theorem RpN.mono {K : PySem.W.Frag} {F F' : Hp} (e : Ex F F') : ∀ {xs : List (NestedKey × Addr × Value)} {ds : List (DV × DV)}, RpN K F xs ds → RpN K F' xs ds
  | _, _, .nil => .nil
  | _, _, .cons hk hd rk ru rv t => .cons hk hd (rk.mono e) ru (rv.mono e) (RpN.mono e t)
/-- what is said of an owned object -/
inductive MO where
  | lst (ds : List DV)
  | lstP (p : List DV → Prop)
  | ins (C : Addr) (fs : List (Str × DV))
  | dK (kvs : List (Key × DV))
  | dT (kvs : List (List Key × DV))
  /-- a table of code objects that bear the name q -/
  | tab (q : Str)
  /-- a dict with tuples as keys -/
  | dN (P : Program) (w : World) (kvs : List (DV × DV))
inductive RpK {κ : Type} (K : PySem.W.Frag) (F : Hp) : List (κ × V) → List (κ × DV) → Prop
  | nil : RpK K F [] []
  | cons {k : κ} {v : V} {vs : List (κ × V)} {d : DV} {ds : List (κ × DV)} (h : Rp K F v d) (t : RpK K F vs ds) : RpK K F ((k, v) :: vs) ((k, d) :: ds)
theorem RpK.mono {κ : Type} {K : PySem.W.Frag} {F F' : Hp} (e : Ex F F') : ∀ {v : List (κ × V)} {d : List (κ × DV)}, RpK K F v d → RpK K F' v d
  | _, _, .nil => .nil
  | _, _, .cons h t => .cons (Rp.mono e h) (RpK.mono e t)
def MO.at (K : PySem.W.Frag) (F H : Hp) (a : Addr) : MO → Prop
  | .lst ds => ∃ vs, H a = some (.lst vs) ∧ RpA K F vs ds
  | .lstP p => ∃ vs ds, H a = some (.lst vs) ∧ RpA K F vs ds ∧ p ds
  | .ins C ds => ∃ dx fs, H a = some (.ins C dx fs) ∧ RpF K F fs ds
  | .dK kvs => ∃ ws, H a = some (.dK ws) ∧ RpK K F ws kvs
  | .dT kvs => ∃ ws, H a = some (.dT ws) ∧ RpK K F ws kvs
  | .dN P w kvs => ∃ xs, H a = some (DNO P w a xs) ∧ RpN K F xs kvs ∧ (xs.map (·.1)).Nodup
  | .tab q => ∃ ps : Array Value, H a = some (.tbl ps) ∧ TriplesOk ps.toList ∧ ∀ (pos : Pos) (cv : Value), codeAmong pos ps.toList = some cv → ∃ c, cv = .ref c ∧ F c = some (LamX.CodeO c q)
theorem MO.at.mono {K : PySem.W.Frag} {F F' H H' : Hp} {a : Addr} {o : MO} (e : Ex F F') (eh : H' a = H a) (h : o.at K F H a) : o.at K F' H' a := by
  cases o with
  | lst ds => obtain ⟨vs, h1, h2⟩ := h; exact ⟨vs, by rw [eh]; exact h1, h2.mono e⟩
  | lstP p => obtain ⟨vs, ds, h1, h2, h3⟩ := h; exact ⟨vs, ds, by rw [eh]; exact h1, h2.mono e, h3⟩
  | ins C ds => obtain ⟨dx, fs, h1, h2⟩ := h; exact ⟨dx, fs, by rw [eh]; exact h1, h2.mono e⟩
  | dK kvs => obtain ⟨ws, h1, h2⟩ := h; exact ⟨ws, by rw [eh]; exact h1, h2.mono e⟩
  | dT kvs => obtain ⟨ws, h1, h2⟩ := h; exact ⟨ws, by rw [eh]; exact h1, h2.mono e⟩
  | dN P w kvs => obtain ⟨xs, h1, h2, h3⟩ := h; exact ⟨xs, by rw [eh]; exact h1, h2.mono e, h3⟩
  | tab q => obtain ⟨ps, h1, h2, h3⟩ := h; exact ⟨ps, by rw [eh]; exact h1, h2, fun pos cv hc => let ⟨c, e1, e2⟩ := h3 pos cv hc; ⟨c, e1, e _ _ e2⟩⟩
theorem MO.at.ex {K : PySem.W.Frag} {F H : Hp} {a : Addr} {o : MO} (h : o.at K F H a) : ∃ u, H a = some u := by
  cases o with
  | lst ds => obtain ⟨vs, h1, h2⟩ := h; exact ⟨_, h1⟩
  | lstP p => obtain ⟨vs, ds, h1, h2, h3⟩ := h; exact ⟨_, h1⟩
  | ins C ds => obtain ⟨dx, fs, h1, h2⟩ := h; exact ⟨_, h1⟩
  | dK kvs => obtain ⟨ws, h1, h2⟩ := h; exact ⟨_, h1⟩
  | dT kvs => obtain ⟨ws, h1, h2⟩ := h; exact ⟨_, h1⟩
  | dN P w kvs => obtain ⟨xs, h1, h2, h3⟩ := h; exact ⟨_, h1⟩
  | tab q => obtain ⟨ps, h1, h2, h3⟩ := h; exact ⟨_, h1⟩
abbrev Ms := List (Addr × MO)
/-- F: what stays as it is; M: what is owned and may change -/
structure Wd (K : PySem.W.Frag) (F : Hp) (M : Ms) (H : Hp) : Prop where
  fr : Ex F H
  ce : ∀ a o, (a, o) ∈ M → F a = none ∧ o.at K F H a
  nd : (M.map (·.1)).Nodup
section
variable {K : PySem.W.Frag} {F F' H H' : Hp} {M : Ms} {p a : Addr} {o : HO} {mo mo' : MO}
theorem Wd.fresh (w : Wd K F M H) (hp : H p = none) : F p = none := Evl.fresh_back w.fr hp
theorem Wd.mne (w : Wd K F M H) (hp : H p = none) {o : MO} (h : (a, o) ∈ M) : a ≠ p := by
  obtain ⟨u, hu⟩ := (w.ce a o h).2.ex
  exact ne_of_none hu hp
theorem ex_new (hp : F p = none) : Ex F (upd F p o) := Evl.Ex.new hp
/-- a new object that stays -/
theorem Wd.new (w : Wd K F M H) (hp : H p = none) (o : HO) : Wd K (upd F p o) M (upd H p o) := by
  refine ⟨fun b u hb => ?_, fun b u hb => ?_, w.nd⟩
  · by_cases e : b = p
    · subst e; rw [upd_same] at hb ⊢; exact hb
    · rw [upd_ne e] at hb ⊢; exact w.fr b u hb
  · have hne := w.mne hp hb
    have := w.ce b u hb
    exact ⟨by rw [upd_ne hne]; exact this.1, this.2.mono (ex_new (w.fresh hp)) (upd_ne hne)⟩
/-- a new object that is owned -/
theorem Wd.cell (w : Wd K F M H) (hp : H p = none) {o : HO} (h : mo.at K F (upd H p o) p) : Wd K F ((p, mo) :: M) (upd H p o) := by
  refine ⟨fun b u hb => ?_, fun b u hb => ?_, ?_⟩
  · have e : b ≠ p := ne_of_none hb (w.fresh hp)
    rw [upd_ne e]; exact w.fr b u hb
  · rcases List.mem_cons.mp hb with e | hb
    · cases e; exact ⟨w.fresh hp, h⟩
    · have hne := w.mne hp hb
      have := w.ce b u hb
      exact ⟨this.1, this.2.mono (Evl.Ex.refl F) (upd_ne hne)⟩
  · refine List.nodup_cons.mpr ⟨fun hm => ?_, w.nd⟩
    obtain ⟨q, hq, e⟩ := List.mem_map.mp hm
    exact w.mne hp (a := q.1) (o := q.2) hq e
theorem mem_set_ne {α : Type} {l : List α} {i : Nat} {x y : α} (h : y ∈ l.set i x) : y = x ∨ ∃ j, j ≠ i ∧ l[j]? = some y := by
  obtain ⟨j, hj⟩ := List.mem_iff_getElem?.mp h
  by_cases e : j = i
  · subst e
    rw [List.getElem?_set] at hj
    split at hj
    · split at hj
      · exact .inl (Option.some.inj hj).symm
      · cases hj
    · rename_i hne; exact absurd rfl hne
  · rw [List.getElem?_set_ne (Ne.symm e)] at hj
    exact .inr ⟨j, e, hj⟩
theorem nodup_ix {α : Type} : ∀ {l : List α} {i j : Nat} {x : α}, l.Nodup → l[i]? = some x → l[j]? = some x → i = j
  | [], _, _, _, _, h, _ => by simp at h
  | a :: l, 0, 0, _, _, _, _ => rfl
  | a :: l, 0, j + 1, x, nd, h1, h2 => by
    simp at h1 h2
    subst h1
    exact absurd (List.mem_of_getElem? h2) (List.nodup_cons.mp nd).1
  | a :: l, i + 1, 0, x, nd, h1, h2 => by
    simp at h1 h2
    subst h2
    exact absurd (List.mem_of_getElem? h1) (List.nodup_cons.mp nd).1
  | a :: l, i + 1, j + 1, x, nd, h1, h2 => by
    simp at h1 h2
    rw [nodup_ix (List.nodup_cons.mp nd).2 h1 h2]
/-- an owned object changes -/
theorem Wd.put (w : Wd K F M H) {i : Nat} (hi : M[i]? = some (a, mo)) {o : HO} (h : mo'.at K F (upd H a o) a) : Wd K F (M.set i (a, mo')) (upd H a o) := by
  have ha := w.ce a mo (List.mem_of_getElem? hi)
  have hlt : i < M.length := (List.getElem?_eq_some_iff.mp hi).1
  refine ⟨fun b u hb => ?_, fun b u hb => ?_, ?_⟩
  · have e : b ≠ a := ne_of_none hb ha.1
    rw [upd_ne e]; exact w.fr b u hb
  · rcases mem_set_ne hb with e | ⟨j, hj, hb⟩
    · cases e; exact ⟨ha.1, h⟩
    · have hne : b ≠ a := by
        intro e
        have h1 : (M.map (·.1))[j]? = some b := by rw [List.getElem?_map, hb]; rfl
        have h2 : (M.map (·.1))[i]? = some b := by rw [List.getElem?_map, hi, e]; rfl
        have hjl : j < (M.map (·.1)).length := (List.getElem?_eq_some_iff.mp h1).1
        have hil : i < (M.map (·.1)).length := (List.getElem?_eq_some_iff.mp h2).1
        exact hj (nodup_ix w.nd h1 h2)
      have := w.ce b u (List.mem_of_getElem? hb)
      exact ⟨this.1, this.2.mono (Evl.Ex.refl F) (upd_ne hne)⟩
  · have e : (M.set i (a, mo')).map (·.1) = M.map (·.1) := by
      rw [List.map_set]
      refine List.ext_getElem? fun j => ?_
      rw [List.getElem?_set]
      split
      · rename_i e; subst e
        rw [if_pos (by rw [List.length_map]; exact hlt), List.getElem?_map, hi]; rfl
      · rfl
    rw [e]; exact w.nd
/-- an owned list of which something is said, opened; and closed -/
theorem Wd.op {p : List DV → Prop} (w : Wd K F M H) {i : Nat} (hi : M[i]? = some (a, .lstP p)) : ∃ ds, p ds ∧ Wd K F (M.set i (a, .lst ds)) H := by
  obtain ⟨hn, vs, ds, hv, hr, hp⟩ := w.ce a _ (List.mem_of_getElem? hi)
  refine ⟨ds, hp, ?_⟩
  have e : upd H a (.lst vs) = H := by funext b; unfold upd; split <;> simp_all
  have := w.put hi (mo' := .lst ds) (o := .lst vs) ⟨vs, upd_same, hr⟩
  rw [e] at this; exact this
theorem Wd.cl {p : List DV → Prop} {ds : List DV} (w : Wd K F M H) {i : Nat} (hi : M[i]? = some (a, .lst ds)) (hp : p ds) : Wd K F (M.set i (a, .lstP p)) H := by
  obtain ⟨hn, vs, hv, hr⟩ := w.ce a _ (List.mem_of_getElem? hi)
  have e : upd H a (.lst vs) = H := by funext b; unfold upd; split <;> simp_all
  have := w.put hi (mo' := .lstP p) (o := .lst vs) ⟨vs, ds, upd_same, hr, hp⟩
  rw [e] at this; exact this
theorem Wd.drop {c : Addr × MO} (w : Wd K F (c :: M) H) : Wd K F M H :=
  ⟨w.fr, fun a o h => w.ce a o (List.mem_cons_of_mem _ h), (List.nodup_cons.mp w.nd).2⟩
theorem Wd.dropN {N : Ms} (w : Wd K F (N ++ M) H) : Wd K F M H := by
  induction N with
  | nil => exact w
  | cons c N ih => exact ih w.drop
/-- an owned list stays from now on -/
theorem Wd.freeze {ds : List DV} (w : Wd K F ((a, .lst ds) :: M) H) : ∃ F', Ex F F' ∧ Wd K F' M H ∧ Rp K F' (.ref a) (.lst ds) := by
  obtain ⟨hn, vs, hv, hr⟩ := w.ce a _ List.mem_cons_self
  have e := ex_new (o := .lst vs) hn
  refine ⟨upd F a (.lst vs), e, ⟨fun b u hb => ?_, fun b u hb => ?_, (List.nodup_cons.mp w.nd).2⟩, .lst upd_same (hr.mono e)⟩
  · by_cases eb : b = a
    · subst eb; rw [upd_same] at hb; cases hb; exact hv
    · rw [upd_ne eb] at hb; exact w.fr b u hb
  · have hne : b ≠ a := fun z => (List.nodup_cons.mp w.nd).1 (List.mem_map.mpr ⟨(b, u), hb, z⟩)
    have := w.ce b u (List.mem_cons_of_mem _ hb)
    exact ⟨by rw [upd_ne hne]; exact this.1, this.2.mono e rfl⟩
theorem Wd.perm {M' : Ms} (w : Wd K F M H) (h : M'.Perm M) : Wd K F M' H :=
  ⟨w.fr, fun a o hm => w.ce a o (h.mem_iff.mp hm), (h.map _).nodup_iff.mpr w.nd⟩
end
/-- the slots -/
inductive EnvD (K : PySem.W.Frag) (F : Hp) : St → List (Option DV) → Prop
  | nil : EnvD K F [] []
  | sm {v : V} {d : DV} {σ : St} {ρ : List (Option DV)} (h : Rp K F v d) (t : EnvD K F σ ρ) : EnvD K F (some v :: σ) (some d :: ρ)
  | no {x : Option V} {σ : St} {ρ : List (Option DV)} (t : EnvD K F σ ρ) : EnvD K F (x :: σ) (none :: ρ)
section
variable {K : PySem.W.Frag} {F F' : Hp}
theorem EnvD.mono (e : Ex F F') : ∀ {σ : St} {ρ : List (Option DV)}, EnvD K F σ ρ → EnvD K F' σ ρ
  | _, _, .nil => .nil
  | _, _, .sm h t => .sm (h.mono e) (EnvD.mono e t)
  | _, _, .no t => .no (EnvD.mono e t)
theorem EnvD.get : ∀ {σ : St} {ρ : List (Option DV)} {i : Nat} {d : DV}, EnvD K F σ ρ → ρ[i]? = some (some d) → ∃ v, σ[i]? = some (some v) ∧ Rp K F v d
  | _, _, _, _, .nil, e => by simp at e
  | _, _, 0, _, .sm h _, e => by simp at e; subst e; exact ⟨_, rfl, h⟩
  | _, _, 0, _, .no _, e => by simp at e
  | _, _, i + 1, _, .sm _ t, e => by
    obtain ⟨u, h1, h2⟩ := EnvD.get (i := i) t (by simpa using e)
    exact ⟨u, by simpa using h1, h2⟩
  | _, _, i + 1, _, .no t, e => by
    obtain ⟨u, h1, h2⟩ := EnvD.get (i := i) t (by simpa using e)
    exact ⟨u, by simpa using h1, h2⟩
theorem EnvD.set {v : V} {d : DV} (r : Rp K F v d) : ∀ {σ : St} {ρ : List (Option DV)} (i : Nat), EnvD K F σ ρ → EnvD K F (σ.set i (some v)) (ρ.set i (some d))
  | _, _, _, .nil => .nil
  | _, _, 0, .sm _ t => .sm r t
  | _, _, 0, .no t => .sm r t
  | _, _, i + 1, .sm h t => .sm h (EnvD.set r i t)
  | _, _, i + 1, .no t => .no (EnvD.set r i t)
theorem EnvD.unset : ∀ {σ : St} {ρ : List (Option DV)} (i : Nat), EnvD K F σ ρ → EnvD K F (σ.set i Option.none) (ρ.set i Option.none)
  | _, _, _, .nil => .nil
  | _, _, 0, .sm _ t => .no t
  | _, _, 0, .no t => .no t
  | _, _, i + 1, .sm h t => .sm h (EnvD.unset i t)
  | _, _, i + 1, .no t => .no (EnvD.unset i t)
def wipeD (ρ : List (Option DV)) : List Nat → List (Option DV)
  | [] => ρ
  | v :: vs => (wipeD ρ vs).set v Option.none
theorem EnvD.wipe {σ : St} {ρ : List (Option DV)} (h : EnvD K F σ ρ) : ∀ vs : List Nat, EnvD K F (wipe σ vs) (wipeD ρ vs)
  | [] => h
  | v :: vs => EnvD.unset v (EnvD.wipe h vs)
theorem EnvD.start : ∀ {vs : List V} {ds : List DV} (h : RpA K F vs ds) (n : Nat), EnvD K F (vs.map Option.some ++ List.replicate n Option.none) (ds.map Option.some ++ List.replicate n Option.none)
  | _, _, .nil, 0 => .nil
  | _, _, .nil, n + 1 => .no (EnvD.start .nil n)
  | _, _, .cons h t, n => .sm h (EnvD.start t n)
end
structure Sn (K : PySem.W.Frag) (F : Hp) (M : Ms) (ρ : List (Option DV)) (σ : St) (H : Hp) : Prop where
  w : Wd K F M H
  e : EnvD K F σ ρ
end DD

set_option Elab.async false
set_option linter.all false
set_option maxRecDepth 100000
set_option maxHeartbeats 4000000
namespace DD
open PySem L2
abbrev Rho := List (Option DV)
/-- the written part, and what is known of the caller's owned ones and of what stays -/
structure KB where
  fr : PySem.W.Frag
  B : Ms → Hp → Prop
  mono : ∀ {N : Ms} {F F' : Hp}, Ex F F' → B N F → B N F'
  cons : ∀ {c : Addr × MO} {N : Ms} {F : Hp}, B N F → B (c :: N) F
@[reducible] def KB.pure (K : PySem.W.Frag) : KB := ⟨K, fun _ _ => True, fun _ h => h, fun h => h⟩
instance : Coe PySem.W.Frag KB := ⟨KB.pure⟩
instance : Coe KB PySem.W.Frag := ⟨KB.fr⟩
structure Sb (K : KB) (N : Ms) (F : Hp) (M : Ms) (ρ : Rho) (σ : St) (H : Hp) : Prop where
  w : Wd K.fr F (N ++ M) H
  e : EnvD K.fr F σ ρ
  b : K.B N F
theorem Sb.bm {K : KB} {N : Ms} {F F' : Hp} {M : Ms} {ρ : Rho} {σ : St} {H : Hp} (S : Sb K N F M ρ σ H) (e : Ex F F') : K.B N F' := K.mono e S.b
section
variable (K : KB)
/-- te comes to some d, leaving M', of which R holds -/
def EvR (te : TE) (ρ : Rho) (M : Ms) (R : DV → Ms → Prop) : Prop := ∀ (N : Ms) (F : Hp) (σ : St) (H : Hp), Sb K N F M ρ σ H → ∀ Q : VK, (∀ v d M' F' H', Ex F F' → R d M' → Wd K F' (N ++ M') H' → Rp K F' v d → Q v H') → te σ H Q
def Ev (te : TE) (ρ : Rho) (M : Ms) (d : DV) : Prop := EvR K te ρ M fun d' M' => d' = d ∧ M' = M
def EvTR (tt : TT) (ρ : Rho) (M : Ms) (R : Bool → Ms → Prop) : Prop := ∀ (N : Ms) (F : Hp) (σ : St) (H : Hp), Sb K N F M ρ σ H → ∀ Q : Bool → Hp → Prop, (∀ b M' F' H', Ex F F' → R b M' → Wd K F' (N ++ M') H' → Q b H') → tt σ H Q
def EvT (tt : TT) (ρ : Rho) (M : Ms) (b : Bool) : Prop := EvTR K tt ρ M fun b' M' => b' = b ∧ M' = M
def EvAR (ta : TA) (ρ : Rho) (M : Ms) (R : List DV → Ms → Prop) : Prop := ∀ (N : Ms) (F : Hp) (σ : St) (H : Hp), Sb K N F M ρ σ H → ∀ Q : List V → Hp → Prop, (∀ vs ds M' F' H', Ex F F' → R ds M' → Wd K F' (N ++ M') H' → RpA K F' vs ds → Q vs H') → ta σ H Q
def EvA (ta : TA) (ρ : Rho) (M : Ms) (ds : List DV) : Prop := EvAR K ta ρ M fun d' M' => d' = ds ∧ M' = M
/-- a two-place operation on values -/
def RVR (K : PySem.W.Frag) (r : R2) (x y : DV) (M : Ms) (R : DV → Ms → Prop) : Prop := ∀ (N : Ms) (F : Hp) (u v : V) (H : Hp), Wd K F (N ++ M) H → Rp K F u x → Rp K F v y → ∀ Q : VK, (∀ v d M' F' H', Ex F F' → R d M' → Wd K F' (N ++ M') H' → Rp K F' v d → Q v H') → r u v H Q
def RV (K : PySem.W.Frag) (r : R2) (x y : DV) (M : Ms) (z : DV) : Prop := RVR K r x y M fun d' M' => d' = z ∧ M' = M
def RUR (K : PySem.W.Frag) (r : V → Hp → VK → Prop) (x : DV) (M : Ms) (R : DV → Ms → Prop) : Prop := ∀ (N : Ms) (F : Hp) (u : V) (H : Hp), Wd K F (N ++ M) H → Rp K F u x → ∀ Q : VK, (∀ v d M' F' H', Ex F F' → R d M' → Wd K F' (N ++ M') H' → Rp K F' v d → Q v H') → r u H Q
def RU (K : PySem.W.Frag) (r : V → Hp → VK → Prop) (x : DV) (M : Ms) (z : DV) : Prop := RUR K r x M fun d' M' => d' = z ∧ M' = M
/-- a call on values -/
def RCR (K : PySem.W.Frag) (r : List V → Hp → VK → Prop) (xs : List DV) (M : Ms) (R : DV → Ms → Prop) : Prop := ∀ (N : Ms) (F : Hp) (us : List V) (H : Hp), Wd K F (N ++ M) H → RpA K F us xs → ∀ Q : VK, (∀ v d M' F' H', Ex F F' → R d M' → Wd K F' (N ++ M') H' → Rp K F' v d → Q v H') → r us H Q
def RC (K : PySem.W.Frag) (r : List V → Hp → VK → Prop) (xs : List DV) (M : Ms) (z : DV) : Prop := RCR K r xs M fun d' M' => d' = z ∧ M' = M
/-- a method of a built-in type on values -/
def RMR (K : PySem.W.Frag) (r : V → List V → Hp → VK → Prop) (x : DV) (xs : List DV) (M : Ms) (R : DV → Ms → Prop) : Prop := ∀ (N : Ms) (F : Hp) (u : V) (us : List V) (H : Hp), Wd K F (N ++ M) H → Rp K F u x → RpA K F us xs → ∀ Q : VK, (∀ v d M' F' H', Ex F F' → R d M' → Wd K F' (N ++ M') H' → Rp K F' v d → Q v H') → r u us H Q
end
section
variable {K : KB} {ρ : Rho} {M M' : Ms} {ta tb tc te : TE} {t u : TT} {x y z d : DV} {r : R2} {R R' : DV → Ms → Prop}
theorem Ev.go (h : Ev K te ρ M d) (hr : R d M) : EvR K te ρ M R := fun N F σ H S Q q => h N F σ H S Q fun v d' M' F' H' e ⟨h1, h2⟩ w r => by
  subst h1 h2; exact q v _ _ F' H' e hr w r
theorem EvR.mono (h : EvR K te ρ M R) (k : ∀ d M', R d M' → R' d M') : EvR K te ρ M R' := fun N F σ H S Q q => h N F σ H S Q fun v d' M' F' H' e hr w r => q v d' M' F' H' e (k _ _ hr) w r
theorem EvT.go {b : Bool} {RB : Bool → Ms → Prop} (h : EvT K t ρ M b) (hr : RB b M) : EvTR K t ρ M RB := fun N F σ H S Q q => h N F σ H S Q fun d' M' F' H' e ⟨h1, h2⟩ w => by
  subst h1 h2; exact q _ _ F' H' e hr w
theorem EvA.go {ta : TA} {ds : List DV} {RA : List DV → Ms → Prop} (h : EvA K ta ρ M ds) (hr : RA ds M) : EvAR K ta ρ M RA := fun N F σ H S Q q => h N F σ H S Q fun v d' M' F' H' e ⟨h1, h2⟩ w r => by
  subst h1 h2; exact q v _ _ F' H' e hr w r
theorem RV.go {K : PySem.W.Frag} (h : RV K r x y M z) (hr : R z M) : RVR K r x y M R := fun N F u v H w0 k1 k2 Q q => h N F u v H w0 k1 k2 Q fun v d' M' F' H' e ⟨h1, h2⟩ w r => by
  subst h1 h2; exact q v _ _ F' H' e hr w r
theorem RC.go {K : PySem.W.Frag} {r : List V → Hp → VK → Prop} {xs : List DV} (h : RC K r xs M z) (hr : R z M) : RCR K r xs M R := fun N F u H w0 k1 Q q => h N F u H w0 k1 Q fun v d' M' F' H' e ⟨h1, h2⟩ w r => by
  subst h1 h2; exact q v _ _ F' H' e hr w r
theorem Ev.is (h : Ev K te ρ M d) {d' : DV} (e : d = d') : Ev K te ρ M d' := e ▸ h
theorem EvT.is {b b' : Bool} (h : EvT K t ρ M b) (e : b = b') : EvT K t ρ M b' := e ▸ h
/-! ### leaves -/
theorem ev_var {i : Nat} (h : ρ[i]? = some (some d)) : Ev K (tVar i) ρ M d := fun N F σ H S Q q => by
  obtain ⟨v, h1, h2⟩ := S.e.get h
  exact ⟨v, h1, q v d M F H (Evl.Ex.refl F) ⟨rfl, rfl⟩ S.w h2⟩
theorem ev_cI {i : Int} : Ev K (tC (.int i)) ρ M (.int i) := fun N F σ H S Q q => q _ _ M F H (Evl.Ex.refl F) ⟨rfl, rfl⟩ S.w (.int i)
theorem ev_cB {i : Bool} : Ev K (tC (.bl i)) ρ M (.bl i) := fun N F σ H S Q q => q _ _ M F H (Evl.Ex.refl F) ⟨rfl, rfl⟩ S.w (.bl i)
theorem ev_cN : Ev K (tC .non) ρ M .non := fun N F σ H S Q q => q _ _ M F H (Evl.Ex.refl F) ⟨rfl, rfl⟩ S.w .non
theorem ev_cS {i : Str} : Ev K (tC (.str i)) ρ M (.str i) := fun N F σ H S Q q => q _ _ M F H (Evl.Ex.refl F) ⟨rfl, rfl⟩ S.w (.str i)
theorem ev_cT {n : String} : Ev K (tC (.ty n)) ρ M (.raw (.ty n)) := fun N F σ H S Q q => q _ _ M F H (Evl.Ex.refl F) ⟨rfl, rfl⟩ S.w (.raw _)
theorem ev_cR {a : Addr} : Ev K (tC (.ref a)) ρ M (.raw (.ref a)) := fun N F σ H S Q q => q _ _ M F H (Evl.Ex.refl F) ⟨rfl, rfl⟩ S.w (.raw _)
/-! ### arguments -/
theorem ea_nil : EvA K tNil ρ M [] := fun N F σ H S Q q => q [] [] M F H (Evl.Ex.refl F) ⟨rfl, rfl⟩ S.w .nil
theorem ear_nil {RA : List DV → Ms → Prop} (h : RA [] M) : EvAR K tNil ρ M RA := ea_nil.go h
theorem ear_cons {tr : TA} {RA : List DV → Ms → Prop} (h : EvR K te ρ M fun d M1 => EvAR K tr ρ M1 fun ds M2 => RA (d :: ds) M2) : EvAR K (tCons te tr) ρ M RA := fun N F σ H S Q q =>
  h N F σ H S _ fun v d M1 F1 H1 e1 h1 w1 r1 => h1 N F1 σ H1 ⟨w1, S.e.mono e1, S.bm e1⟩ _ fun vs ds M2 F2 H2 e2 h2 w2 r2 => q _ _ M2 F2 H2 (e1.trans e2) h2 w2 (.cons (r1.mono e2) r2)
theorem ea_cons {tr : TA} {ds : List DV} (h : Ev K te ρ M d) (hr : EvA K tr ρ M ds) : EvA K (tCons te tr) ρ M (d :: ds) :=
  ear_cons (h.go (hr.go ⟨rfl, rfl⟩))
/-! ### displays -/
theorem evr_tup {ta : TA} (h : EvAR K ta ρ M fun ds M1 => ds.length ≤ 100000 ∧ R (.tup ds) M1) : EvR K (tTup ta) ρ M R := fun N F σ H S Q q =>
  h N F σ H S _ fun vs ds M1 F1 H1 e1 h1 w1 r1 => ⟨by rw [r1.length]; exact Evl.sz_of h1.1, fun p hp =>
    have hn := w1.fresh hp
    q _ _ M1 _ _ (e1.trans (ex_new hn)) h1.2 (w1.new hp _) (.tup (SqT.of upd_same) (r1.mono (ex_new hn)))⟩
theorem ev_tup {ta : TA} {ds : List DV} (h : EvA K ta ρ M ds) (hl : ds.length ≤ 100000 := by first | (simp; done) | decide | omega) : Ev K (tTup ta) ρ M (.tup ds) := evr_tup (h.go ⟨hl, rfl, rfl⟩)
theorem evr_lst {ta : TA} (h : EvAR K ta ρ M fun ds M1 => ds.length ≤ 100000 ∧ R (.lst ds) M1) : EvR K (tLst ta) ρ M R := fun N F σ H S Q q =>
  h N F σ H S _ fun vs ds M1 F1 H1 e1 h1 w1 r1 => ⟨by rw [r1.length]; exact Evl.sz_of h1.1, fun p hp =>
    have hn := w1.fresh hp
    q _ _ M1 _ _ (e1.trans (ex_new hn)) h1.2 (w1.new hp _) (.lst upd_same (r1.mono (ex_new hn)))⟩
theorem ev_lst {ta : TA} {ds : List DV} (h : EvA K ta ρ M ds) (hl : ds.length ≤ 100000 := by first | (simp; done) | decide | omega) : Ev K (tLst ta) ρ M (.lst ds) := evr_lst (h.go ⟨hl, rfl, rfl⟩)
/-- a new list that is owned -/
theorem evr_lstC {ta : TA} (h : EvAR K ta ρ M fun ds M1 => ds.length ≤ 100000 ∧ ∀ p, R (.raw (.ref p)) ((p, .lst ds) :: M1)) : EvR K (tLst ta) ρ M R := fun N F σ H S Q q =>
  h N F σ H S _ fun vs ds M1 F1 H1 e1 h1 w1 r1 => ⟨by rw [r1.length]; exact Evl.sz_of h1.1, fun p hp =>
    q _ _ ((p, .lst ds) :: M1) F1 _ e1 (h1.2 p) ((w1.cell (mo := .lst ds) hp ⟨vs, upd_same, r1⟩).perm List.perm_middle) (.raw _)⟩
/-! ### operators -/
theorem evr_op (h : EvR K ta ρ M fun x M1 => EvR K tb ρ M1 fun y M2 => RVR K r x y M2 R) : EvR K (tOp r ta tb) ρ M R := fun N F σ H S Q q =>
  h N F σ H S _ fun u x M1 F1 H1 e1 h1 w1 r1 => h1 N F1 σ H1 ⟨w1, S.e.mono e1, S.bm e1⟩ _ fun v y M2 F2 H2 e2 h2 w2 r2 =>
    h2 N F2 u v H2 w2 (r1.mono e2) r2 Q fun a b M3 F3 H3 e3 h3 w3 r3 => q a b M3 F3 H3 ((e1.trans e2).trans e3) h3 w3 r3
theorem ev_op (ha : Ev K ta ρ M x) (hb : Ev K tb ρ M y) (hr : RV K r x y M z) : Ev K (tOp r ta tb) ρ M z := evr_op (ha.go (hb.go (hr.go ⟨rfl, rfl⟩)))
theorem evr_un {r : V → Hp → VK → Prop} (h : EvR K ta ρ M fun x M1 => RUR K r x M1 R) : EvR K (tUn r ta) ρ M R := fun N F σ H S Q q =>
  h N F σ H S _ fun u x M1 F1 H1 e1 h1 w1 r1 => h1 N F1 u H1 w1 r1 Q fun a b M3 F3 H3 e3 h3 w3 r3 => q a b M3 F3 H3 (e1.trans e3) h3 w3 r3
theorem ev_un {r : V → Hp → VK → Prop} (ha : Ev K ta ρ M x) (hr : RU K r x M z) : Ev K (tUn r ta) ρ M z := evr_un (ha.go hr)
theorem evr_cb {ta : TA} {r : List V → Hp → VK → Prop} (h : EvAR K ta ρ M fun xs M1 => RCR K r xs M1 R) : EvR K (tCB r ta) ρ M R := fun N F σ H S Q q =>
  h N F σ H S _ fun u x M1 F1 H1 e1 h1 w1 r1 => h1 N F1 u H1 w1 r1 Q fun a b M3 F3 H3 e3 h3 w3 r3 => q a b M3 F3 H3 (e1.trans e3) h3 w3 r3
theorem ev_cb {ta : TA} {xs : List DV} {r : List V → Hp → VK → Prop} (h : EvA K ta ρ M xs) (hr : RC K r xs M z) : Ev K (tCB r ta) ρ M z := evr_cb (h.go hr)
/-- either of two readings -/
def tOr2 (a b : TE) : TE := fun σ H Q => a σ H Q ∨ b σ H Q
theorem evr_inl (h : EvR K ta ρ M R) : EvR K (tOr2 ta tb) ρ M R := fun N F σ H S Q q => .inl (h N F σ H S Q q)
theorem evr_inr (h : EvR K tb ρ M R) : EvR K (tOr2 ta tb) ρ M R := fun N F σ H S Q q => .inr (h N F σ H S Q q)
theorem ev_inl (h : Ev K ta ρ M d) : Ev K (tOr2 ta tb) ρ M d := evr_inl h
theorem ev_inr (h : Ev K tb ρ M d) : Ev K (tOr2 ta tb) ρ M d := evr_inr h
theorem rvr_inl {K : PySem.W.Frag} {r r' : R2} (h : RVR K r x y M R) : RVR K (fun a b H Q => r a b H Q ∨ r' a b H Q) x y M R := fun N F u v H w h1 h2 Q q => .inl (h N F u v H w h1 h2 Q q)
theorem rvr_inr {K : PySem.W.Frag} {r r' : R2} (h : RVR K r' x y M R) : RVR K (fun a b H Q => r a b H Q ∨ r' a b H Q) x y M R := fun N F u v H w h1 h2 Q q => .inr (h N F u v H w h1 h2 Q q)
/-! ### tests -/
theorem etr_test {RB : Bool → Ms → Prop} (h : EvR K te ρ M fun d M1 => ∃ b, d = .bl b ∧ RB b M1) : EvTR K (tTest te) ρ M RB := fun N F σ H S Q q =>
  h N F σ H S _ fun v d M1 F1 H1 e1 ⟨b, hd, hb⟩ w1 r1 => by subst hd; exact ⟨b, r1.bl_of, q b M1 F1 H1 e1 hb w1⟩
theorem et_test {b : Bool} (h : Ev K te ρ M (.bl b)) : EvT K (tTest te) ρ M b := etr_test (h.go ⟨b, rfl, rfl, rfl⟩)
theorem etr_B {RB : Bool → Ms → Prop} (h : EvR K te ρ M fun d M1 => ∃ b, d = .bl b ∧ RB b M1) : EvTR K (tB te) ρ M RB := fun N F σ H S Q q =>
  h N F σ H S _ fun v d M1 F1 H1 e1 ⟨b, hd, hb⟩ w1 r1 => by subst hd; exact ⟨b, r1.bl_of, q b M1 F1 H1 e1 hb w1⟩
theorem et_B {b : Bool} (h : Ev K te ρ M (.bl b)) : EvT K (tB te) ρ M b := etr_B (h.go ⟨b, rfl, rfl, rfl⟩)
theorem etr_and {RB : Bool → Ms → Prop} (h : EvTR K t ρ M fun c M1 => if c = true then EvTR K u ρ M1 RB else RB false M1) : EvTR K (tAnd t u) ρ M RB := fun N F σ H S Q q =>
  h N F σ H S _ fun c M1 F1 H1 e1 h1 w1 => by
    cases c with
    | true => exact (show EvTR K u ρ M1 RB from h1) N F1 σ H1 ⟨w1, S.e.mono e1, S.bm e1⟩ Q fun b M2 F2 H2 e2 h2 w2 => q b M2 F2 H2 (e1.trans e2) h2 w2
    | false => exact q false M1 F1 H1 e1 h1 w1
theorem et_and {a b : Bool} (h1 : EvT K t ρ M a) (h2 : a = true → EvT K u ρ M b) : EvT K (tAnd t u) ρ M (a && b) := etr_and (h1.go (by
  cases a with
  | true => exact h2 rfl
  | false => exact ⟨rfl, rfl⟩))
theorem etr_or {RB : Bool → Ms → Prop} (h : EvTR K t ρ M fun c M1 => if c = true then RB true M1 else EvTR K u ρ M1 RB) : EvTR K (tOr t u) ρ M RB := fun N F σ H S Q q =>
  h N F σ H S _ fun c M1 F1 H1 e1 h1 w1 => by
    cases c with
    | true => exact q true M1 F1 H1 e1 h1 w1
    | false => exact (show EvTR K u ρ M1 RB from h1) N F1 σ H1 ⟨w1, S.e.mono e1, S.bm e1⟩ Q fun b M2 F2 H2 e2 h2 w2 => q b M2 F2 H2 (e1.trans e2) h2 w2
theorem et_or {a b : Bool} (h1 : EvT K t ρ M a) (h2 : a = false → EvT K u ρ M b) : EvT K (tOr t u) ρ M (a || b) := etr_or (h1.go (by
  cases a with
  | true => exact ⟨rfl, rfl⟩
  | false => exact h2 rfl))
theorem etr_not {RB : Bool → Ms → Prop} (h : EvTR K t ρ M fun c M1 => RB (!c) M1) : EvTR K (tNot t) ρ M RB := fun N F σ H S Q q =>
  h N F σ H S _ fun c M1 F1 H1 e1 h1 w1 => q _ M1 F1 H1 e1 h1 w1
theorem et_not {a : Bool} (h1 : EvT K t ρ M a) : EvT K (tNot t) ρ M (!a) := etr_not (h1.go ⟨rfl, rfl⟩)
theorem evr_if (h : EvTR K t ρ M fun c M1 => if c = true then EvR K ta ρ M1 R else EvR K tb ρ M1 R) : EvR K (tIf t ta tb) ρ M R := fun N F σ H S Q q =>
  h N F σ H S _ fun c M1 F1 H1 e1 h1 w1 => by
    cases c with
    | true => exact (show EvR K ta ρ M1 R from h1) N F1 σ H1 ⟨w1, S.e.mono e1, S.bm e1⟩ Q fun v b M2 F2 H2 e2 h2 w2 r2 => q v b M2 F2 H2 (e1.trans e2) h2 w2 r2
    | false => exact (show EvR K tb ρ M1 R from h1) N F1 σ H1 ⟨w1, S.e.mono e1, S.bm e1⟩ Q fun v b M2 F2 H2 e2 h2 w2 r2 => q v b M2 F2 H2 (e1.trans e2) h2 w2 r2
theorem ev_if {b : Bool} (h : EvT K t ρ M b) (h1 : b = true → Ev K ta ρ M x) (h2 : b = false → Ev K tb ρ M y) : Ev K (tIf t ta tb) ρ M (if b = true then x else y) := evr_if (h.go (by
  cases b with
  | true => exact h1 rfl
  | false => exact h2 rfl))
theorem evr_andV (h : EvR K ta ρ M fun x M1 => ∃ c, x = .bl c ∧ if c = true then EvR K tb ρ M1 R else R (.bl false) M1) : EvR K (tAndV ta tb) ρ M R := fun N F σ H S Q q =>
  h N F σ H S _ fun v d M1 F1 H1 e1 ⟨c, hd, h1⟩ w1 r1 => by
    subst hd
    refine ⟨c, r1.bl_of, ?_⟩
    cases c with
    | true => exact (show EvR K tb ρ M1 R from h1) N F1 σ H1 ⟨w1, S.e.mono e1, S.bm e1⟩ Q fun v b M2 F2 H2 e2 h2 w2 r2 => q v b M2 F2 H2 (e1.trans e2) h2 w2 r2
    | false => exact q _ _ M1 F1 H1 e1 h1 w1 (.bl false)
theorem ev_andV {a b : Bool} (h1 : Ev K ta ρ M (.bl a)) (h2 : a = true → Ev K tb ρ M (.bl b)) : Ev K (tAndV ta tb) ρ M (.bl (a && b)) := evr_andV (h1.go ⟨a, rfl, by
  cases a with
  | true => exact h2 rfl
  | false => exact ⟨rfl, rfl⟩⟩)
theorem evr_orV (h : EvR K ta ρ M fun x M1 => ∃ c, x = .bl c ∧ if c = true then R (.bl true) M1 else EvR K tb ρ M1 R) : EvR K (tOrV ta tb) ρ M R := fun N F σ H S Q q =>
  h N F σ H S _ fun v d M1 F1 H1 e1 ⟨c, hd, h1⟩ w1 r1 => by
    subst hd
    refine ⟨c, r1.bl_of, ?_⟩
    cases c with
    | true => exact q _ _ M1 F1 H1 e1 h1 w1 (.bl true)
    | false => exact (show EvR K tb ρ M1 R from h1) N F1 σ H1 ⟨w1, S.e.mono e1, S.bm e1⟩ Q fun v b M2 F2 H2 e2 h2 w2 r2 => q v b M2 F2 H2 (e1.trans e2) h2 w2 r2
theorem ev_orV {a b : Bool} (h1 : Ev K ta ρ M (.bl a)) (h2 : a = false → Ev K tb ρ M (.bl b)) : Ev K (tOrV ta tb) ρ M (.bl (a || b)) := evr_orV (h1.go ⟨a, rfl, by
  cases a with
  | true => exact ⟨rfl, rfl⟩
  | false => exact h2 rfl⟩)
theorem evr_notV (h : EvR K ta ρ M fun x M1 => ∃ c, x = .bl c ∧ R (.bl (!c)) M1) : EvR K (tNotV ta) ρ M R := fun N F σ H S Q q =>
  h N F σ H S _ fun v d M1 F1 H1 e1 ⟨c, hd, h1⟩ w1 r1 => by
    subst hd
    exact ⟨c, r1.bl_of, q _ _ M1 F1 H1 e1 h1 w1 (.bl _)⟩
theorem ev_notV {a : Bool} (h1 : Ev K ta ρ M (.bl a)) : Ev K (tNotV ta) ρ M (.bl (!a)) := evr_notV (h1.go ⟨a, rfl, rfl, rfl⟩)
/-- x op y op' z -/
theorem evr_chain {r r' : R2} (h : EvR K ta ρ M fun x M1 => EvR K tb ρ M1 fun y M2 => RVR K r x y M2 fun z M3 => ∃ k, z = .bl k ∧ if k = true then EvR K tc ρ M3 fun w M4 => RVR K r' y w M4 R else R (.bl false) M3) :
    EvR K (tChain r r' ta tb tc) ρ M R := fun N F σ H S Q q =>
  h N F σ H S _ fun u x M1 F1 H1 e1 h1 w1 r1 => h1 N F1 σ H1 ⟨w1, S.e.mono e1, S.bm e1⟩ _ fun v y M2 F2 H2 e2 h2 w2 r2 =>
    h2 N F2 u v H2 w2 (r1.mono e2) r2 _ fun z d M3 F3 H3 e3 ⟨k, hd, h3⟩ w3 r3 => by
      subst hd
      refine ⟨k, r3.bl_of, ?_⟩
      have e13 := (e1.trans e2).trans e3
      cases k with
      | false => exact q _ _ M3 F3 H3 e13 h3 w3 (.bl false)
      | true => exact (show EvR K tc ρ M3 fun w M4 => RVR K r' y w M4 R from h3) N F3 σ H3 ⟨w3, S.e.mono e13, S.bm e13⟩ _ fun z' d4 M4 F4 H4 e4 h4 w4 r4 => h4 N F4 v z' H4 w4 ((r2.mono e3).mono e4) r4 Q fun a b M5 F5 H5 e5 h5 w5 r5 => q a b M5 F5 H5 ((e13.trans e4).trans e5) h5 w5 r5
theorem ev_chain {r r' : R2} {k : Bool} {w : DV} {k' : Bool} (ha : Ev K ta ρ M x) (hb : Ev K tb ρ M y) (hr : RV K r x y M (.bl k)) (hc : k = true → Ev K tc ρ M w) (hr' : k = true → RV K r' y w M (.bl k')) : Ev K (tChain r r' ta tb tc) ρ M (.bl (k && k')) :=
  evr_chain (ha.go (hb.go (hr.go ⟨k, rfl, by
    cases k with
    | true => exact (hc rfl).go (hr' rfl)
    | false => exact ⟨rfl, rfl⟩⟩)))
/-! ### the attributes -/
theorem evr_fld {f : Str} (h : EvR K ta ρ M fun x M1 => ∃ C fs d, x = .ins C fs ∧ Cls K C ∧ NoAttr K C f ∧ fs.lookup f = some d ∧ R d M1) : EvR K (tFld K ta f) ρ M R := fun N F σ H S Q q =>
  h N F σ H S _ fun v x M1 F1 H1 e1 ⟨C, fs, d, hx, c, n, l, hr⟩ w1 r1 => by
    subst hx
    obtain ⟨a, dx, gs, rfl, ha, hf⟩ := r1.ins_of
    obtain ⟨u, hu, ru⟩ := hf.lookup l
    exact ⟨a, C, dx, gs, u, rfl, w1.fr _ _ ha, c, n, hu, q u d M1 F1 H1 e1 hr w1 ru⟩
theorem ev_fld {f : Str} {C : Addr} {fs : List (Str × DV)} (h : Ev K ta ρ M (.ins C fs)) (c : Cls K C) (n : NoAttr K C f) (l : fs.lookup f = some d) : Ev K (tFld K ta f) ρ M d := evr_fld (h.go ⟨C, fs, d, rfl, c, n, l, rfl, rfl⟩)
/-- of an owned instance -/
theorem evr_fldC {f : Str} (h : EvR K ta ρ M fun x M1 => ∃ a C fs d, x = .raw (.ref a) ∧ (a, MO.ins C fs) ∈ M1 ∧ Cls K C ∧ NoAttr K C f ∧ fs.lookup f = some d ∧ R d M1) : EvR K (tFld K ta f) ρ M R := fun N F σ H S Q q =>
  h N F σ H S _ fun v x M1 F1 H1 e1 ⟨a, C, fs, d, hx, hm, c, n, l, hr⟩ w1 r1 => by
    subst hx
    cases r1.raw_of
    obtain ⟨_, dx, gs, ha, hf⟩ := w1.ce a _ (List.mem_append_right N hm)
    obtain ⟨u, hu, ru⟩ := hf.lookup l
    exact ⟨a, C, dx, gs, u, rfl, ha, c, n, hu, q u d M1 F1 H1 e1 hr w1 ru⟩
theorem ev_fldC {f : Str} {a C : Addr} {fs : List (Str × DV)} (h : Ev K ta ρ M (.raw (.ref a))) (hm : (a, MO.ins C fs) ∈ M) (c : Cls K C) (n : NoAttr K C f) (l : fs.lookup f = some d) : Ev K (tFld K ta f) ρ M d := evr_fldC (h.go ⟨a, C, fs, d, rfl, hm, c, n, l, rfl, rfl⟩)
end
/-! ### promises -/
/-- what a def asks of its arguments and of what is owned, and what it promises of the value and of what is owned behind it -/
abbrev SpecD := List DV → Ms → (DV → Ms → Prop) → Prop
def spD (K : PySem.W.Frag) (S : SpecD) : Sp := fun vs H Q _ => ∃ (F : Hp) (N M : Ms) (ds : List DV) (R : DV → Ms → Prop), Wd K F (N ++ M) H ∧ RpA K F vs ds ∧ S ds M R ∧ ∀ v d M' F' H', Ex F F' → R d M' → Wd K F' (N ++ M') H' → Rp K F' v d → Q v H'
section
variable {K : KB} {ρ : Rho} {M M' : Ms} {ta tb tc te : TE} {S : SpecD} {E : XK} {d : DV} {R : DV → Ms → Prop} {t : TA}
theorem evr_call (h : EvAR K t ρ M fun ds M1 => S ds M1 R) : EvR K (tCall (spD K S) [] E t) ρ M R := fun N F σ H Z Q q =>
  h N F σ H Z _ fun vs ds M1 F1 H1 e1 h1 w1 r1 => by
    show spD K S (vs ++ []) H1 Q E
    rw [List.append_nil]
    exact ⟨F1, N, M1, ds, R, w1, r1, h1, fun v d M2 F2 H2 e2 hr w2 r2 => q v d M2 F2 H2 (e1.trans e2) hr w2 r2⟩
theorem ev_call {ds : List DV} (h : EvA K t ρ M ds) (hs : S ds M fun d' M' => d' = d ∧ M' = M) : Ev K (tCall (spD K S) [] E t) ρ M d := evr_call (h.go hs)
theorem evr_meth {C : Addr} {m : Str} (h : EvR K ta ρ M fun x M1 => ∃ fs, x = .ins C fs ∧ fs.lookup m = none ∧ EvAR K t ρ M1 fun ds M2 => S (.ins C fs :: ds) M2 R) : EvR K (tMeth C m (spD K S) [] E ta t) ρ M R := fun N F σ H Z Q q =>
  h N F σ H Z _ fun v x M1 F1 H1 e1 ⟨fs, hx, hl, h1⟩ w1 r1 => by
    subst hx
    obtain ⟨a, dx, gs, rfl, ha, hf⟩ := id r1.ins_of
    refine ⟨a, dx, gs, rfl, w1.fr _ _ ha, hf.lookup_none hl, ?_⟩
    refine h1 N F1 σ H1 ⟨w1, Z.e.mono e1, Z.bm e1⟩ _ fun vs ds M2 F2 H2 e2 h2 w2 r2 => ?_
    rw [List.append_nil]
    exact ⟨F2, N, M2, _, R, w2, .cons (r1.mono e2) r2, h2, fun v d M3 F3 H3 e3 hr w3 r3 => q v d M3 F3 H3 ((e1.trans e2).trans e3) hr w3 r3⟩
theorem ev_meth {C : Addr} {m : Str} {fs : List (Str × DV)} {ds : List DV} (ha : Ev K ta ρ M (.ins C fs)) (hl : fs.lookup m = none) (h : EvA K t ρ M ds) (hs : S (.ins C fs :: ds) M fun d' M' => d' = d ∧ M' = M) : Ev K (tMeth C m (spD K S) [] E ta t) ρ M d :=
  evr_meth (ha.go ⟨fs, rfl, hl, h.go hs⟩)
/-- a method of an owned instance -/
theorem evr_methC {C : Addr} {m : Str} (h : EvR K ta ρ M fun x M1 => ∃ a fs, x = .raw (.ref a) ∧ (a, MO.ins C fs) ∈ M1 ∧ fs.lookup m = none ∧ EvAR K t ρ M1 fun ds M2 => S (.raw (.ref a) :: ds) M2 R) : EvR K (tMeth C m (spD K S) [] E ta t) ρ M R := fun N F σ H Z Q q =>
  h N F σ H Z _ fun v x M1 F1 H1 e1 ⟨a, fs, hx, hm, hl, h1⟩ w1 r1 => by
    subst hx
    cases r1.raw_of
    obtain ⟨_, dx, gs, ha, hf⟩ := w1.ce a _ (List.mem_append_right N hm)
    refine ⟨a, dx, gs, rfl, ha, hf.lookup_none hl, ?_⟩
    refine h1 N F1 σ H1 ⟨w1, Z.e.mono e1, Z.bm e1⟩ _ fun vs ds M2 F2 H2 e2 h2 w2 r2 => ?_
    rw [List.append_nil]
    exact ⟨F2, N, M2, _, R, w2, .cons (.raw _) r2, h2, fun v d M3 F3 H3 e3 hr w3 r3 => q v d M3 F3 H3 ((e1.trans e2).trans e3) hr w3 r3⟩
/-- C(..): __init__ gets the new instance as an owned one; it is handed on as such -/
theorem evr_make {C : Addr} (h : EvAR K t ρ M fun ds M1 => ∀ x, S (.raw (.ref x) :: ds) ((x, .ins C []) :: M1) fun d M2 => d = .non ∧ R (.raw (.ref x)) M2) : EvR K (tMake C (spD K S) [] E t) ρ M R := fun N F σ H Z Q q =>
  h N F σ H Z _ fun vs ds M1 F1 H1 e1 h1 w1 r1 => fun x dx hx hdx hne => by
    rw [List.append_nil]
    have hxd : x ≠ dx := hne.symm
    have w2 : Wd K F1 (N ++ M1) (upd H1 dx (.own x)) := by
      refine ⟨fun b u hb => ?_, fun b u hb => ?_, w1.nd⟩
      · rw [upd_ne (ne_of_none hb (w1.fresh hdx))]; exact w1.fr b u hb
      · exact ⟨(w1.ce b u hb).1, (w1.ce b u hb).2.mono (Evl.Ex.refl F1) (upd_ne (w1.mne hdx hb))⟩
    have w3 := (w2.cell (p := x) (mo := .ins C []) (o := .ins C dx []) (by rw [upd_ne hxd]; exact hx) ⟨dx, [], upd_same, .nil⟩).perm List.perm_middle
    exact ⟨F1, N, _, _, _, w3, .cons (.raw _) r1, h1 x, fun v d M3 F3 H3 e3 hr w4 r4 => ⟨by rw [hr.1] at r4; exact r4.non_of, q _ _ M3 F3 H3 (e1.trans e3) hr.2 w4 (.raw _)⟩⟩
/-- an owned instance, at the head, stays from now on -/
theorem Wd.freezeI {K : PySem.W.Frag} {F H : Hp} {a C : Addr} {fs : List (Str × DV)} (w : Wd K F ((a, .ins C fs) :: M) H) : ∃ F', Ex F F' ∧ Wd K F' M H ∧ Rp K F' (.ref a) (.ins C fs) := by
  obtain ⟨hn, dx, gs, hv, hr⟩ := w.ce a _ List.mem_cons_self
  have e := ex_new (o := .ins C dx gs) hn
  refine ⟨upd F a (.ins C dx gs), e, ⟨fun b u hb => ?_, fun b u hb => ?_, (List.nodup_cons.mp w.nd).2⟩, .ins upd_same (hr.mono e)⟩
  · by_cases eb : b = a
    · subst eb; rw [upd_same] at hb; cases hb; exact hv
    · rw [upd_ne eb] at hb; exact w.fr b u hb
  · have hne : b ≠ a := fun z => (List.nodup_cons.mp w.nd).1 (List.mem_map.mpr ⟨(b, u), hb, z⟩)
    have := w.ce b u (List.mem_cons_of_mem _ hb)
    exact ⟨by rw [upd_ne hne]; exact this.1, this.2.mono e rfl⟩
/-- a value that is an owned object is made one that stays: of lists, of instances; owned ones are let go -/
theorem evr_freezeL (h : EvR K te ρ M fun d M1 => ∃ a ds M2, d = .raw (.ref a) ∧ M1 = (a, .lst ds) :: M2 ∧ R (.lst ds) M2) : EvR K te ρ M R := fun N F σ H Z Q q =>
  h N F σ H Z Q fun v d M1 F1 H1 e1 ⟨a, ds, M2, hd, hm, hr⟩ w1 r1 => by
    subst hd hm
    cases r1.raw_of
    obtain ⟨F2, e2, w2, r2⟩ := (w1.perm (List.perm_middle.symm)).freeze
    exact q _ _ M2 F2 H1 (e1.trans e2) hr w2 r2
theorem evr_freezeI (h : EvR K te ρ M fun d M1 => ∃ a C fs M2, d = .raw (.ref a) ∧ M1 = (a, .ins C fs) :: M2 ∧ R (.ins C fs) M2) : EvR K te ρ M R := fun N F σ H Z Q q =>
  h N F σ H Z Q fun v d M1 F1 H1 e1 ⟨a, C, fs, M2, hd, hm, hr⟩ w1 r1 => by
    subst hd hm
    cases r1.raw_of
    obtain ⟨F2, e2, w2, r2⟩ := (w1.perm (List.perm_middle.symm)).freezeI
    exact q _ _ M2 F2 H1 (e1.trans e2) hr w2 r2
theorem evr_drop (h : EvR K te ρ M fun d M1 => ∃ c M2, M1 = c :: M2 ∧ R d M2) : EvR K te ρ M R := fun N F σ H Z Q q =>
  h N F σ H Z Q fun v d M1 F1 H1 e1 ⟨c, M2, hm, hr⟩ w1 r1 => by
    subst hm
    exact q _ _ M2 F1 H1 e1 hr (w1.perm (List.perm_middle.symm)).drop r1
end
/-! ### statements -/
structure Post where
  nx : Rho → Ms → Prop
  rt : DV → Ms → Prop
  bk : Rho → Ms → Prop := fun _ _ => False
  ct : Rho → Ms → Prop := fun _ _ => False
structure EOk (K : KB) (F : Hp) (N : Ms) (P : Post) (D : Ends) : Prop where
  nx : ∀ F' σ' H' ρ' M', Ex F F' → P.nx ρ' M' → Sb K N F' M' ρ' σ' H' → D.nx σ' H'
  rt : ∀ v F' H' d M', Ex F F' → P.rt d M' → Wd K F' (N ++ M') H' → Rp K F' v d → D.rt v H'
  bk : ∀ F' σ' H' ρ' M', Ex F F' → P.bk ρ' M' → Sb K N F' M' ρ' σ' H' → D.bk σ' H'
  ct : ∀ F' σ' H' ρ' M', Ex F F' → P.ct ρ' M' → Sb K N F' M' ρ' σ' H' → D.ct σ' H'
theorem EOk.mono {K : KB} {F F1 : Hp} {N : Ms} {P : Post} {D : Ends} (e : EOk K F N P D) (x : Ex F F1) : EOk K F1 N P D :=
  ⟨fun F' σ' H' ρ' M' e1 => e.nx F' σ' H' ρ' M' (x.trans e1), fun v F' H' d M' e1 => e.rt v F' H' d M' (x.trans e1), fun F' σ' H' ρ' M' e1 => e.bk F' σ' H' ρ' M' (x.trans e1), fun F' σ' H' ρ' M' e1 => e.ct F' σ' H' ρ' M' (x.trans e1)⟩
def XS (K : KB) (t : TS) (ρ : Rho) (M : Ms) (P : Post) : Prop := ∀ (N : Ms) (F : Hp) (σ : St) (H : Hp) (D : Ends), Sb K N F M ρ σ H → EOk K F N P D → t D σ H
section
variable {K : KB} {ρ : Rho} {M M' : Ms} {te : TE} {tt : TT} {t u : TS} {P : Post}
theorem xs_seq (h : XS K t ρ M { P with nx := fun ρ' M' => XS K u ρ' M' P }) : XS K (tSeq t u) ρ M P := fun N F σ H D S e =>
  h N F σ H _ S ⟨fun F' σ' H' ρ' M' e1 h1 S1 => h1 N F' σ' H' D S1 (e.mono e1), e.rt, e.bk, e.ct⟩
theorem xs_next (h : P.nx ρ M) : XS K tNext ρ M P := fun N F σ H D S e => e.nx F σ H ρ M (Evl.Ex.refl F) h S
theorem xs_ret (h : EvR K te ρ M P.rt) : XS K (tRet te) ρ M P := fun N F σ H D S e => h N F σ H S _ fun v d M' F' H' e1 hr w r => e.rt v F' H' d M' e1 hr w r
theorem xs_retN (h : P.rt .non M) : XS K tRetN ρ M P := fun N F σ H D S e => e.rt .non F H .non M (Evl.Ex.refl F) h S.w .non
theorem xs_brk (h : P.bk ρ M) : XS K tBreak ρ M P := fun N F σ H D S e => e.bk F σ H ρ M (Evl.Ex.refl F) h S
theorem xs_cont (h : P.ct ρ M) : XS K tCont ρ M P := fun N F σ H D S e => e.ct F σ H ρ M (Evl.Ex.refl F) h S
theorem xs_drop (h : EvR K te ρ M fun _ M' => P.nx ρ M') : XS K (tDrop te) ρ M P := fun N F σ H D S e => h N F σ H S _ fun v d M' F' H' e1 hr w r => e.nx F' σ H' ρ M' e1 hr ⟨w, S.e.mono e1, S.bm e1⟩
theorem xs_if (h : EvTR K tt ρ M fun b M' => if b = true then XS K t ρ M' P else XS K u ρ M' P) : XS K (tIfS tt t u) ρ M P := fun N F σ H D S e => h N F σ H S _ fun b M' F' H' e1 hr w => by
  cases b with
  | true => exact (show XS K t ρ M' P from hr) N F' σ H' D ⟨w, S.e.mono e1, S.bm e1⟩ (e.mono e1)
  | false => exact (show XS K u ρ M' P from hr) N F' σ H' D ⟨w, S.e.mono e1, S.bm e1⟩ (e.mono e1)
theorem xs_if2 {b : Bool} (h : EvT K tt ρ M b) (h1 : b = true → XS K t ρ M P) (h2 : b = false → XS K u ρ M P) : XS K (tIfS tt t u) ρ M P := xs_if (h.go (by
  cases b with
  | true => exact h1 rfl
  | false => exact h2 rfl))
/-- owned ones let go, or in another order -/
theorem xs_perm (hp : M'.Perm M) (h : XS K t ρ M' P) : XS K t ρ M P := fun N F σ H D S e => h N F σ H D ⟨S.w.perm (hp.append_left N), S.e, S.b⟩ e
theorem xs_let {c : Addr × MO} (h : XS K t ρ M P) : XS K t ρ (c :: M) P := fun N F σ H D S e => h N F σ H D ⟨(S.w.perm List.perm_middle.symm).drop, S.e, S.b⟩ e
theorem xs_op {i : Nat} {a : Addr} {p : List DV → Prop} (hi : M[i]? = some (a, .lstP p)) (h : ∀ ds, p ds → XS K t ρ (M.set i (a, .lst ds)) P) : XS K t ρ M P := fun N F σ H D S e => by
  obtain ⟨ds, hp, w⟩ := S.w.op (i := N.length + i) (by rw [List.getElem?_append_right (Nat.le_add_right _ _), Nat.add_sub_cancel_left]; exact hi)
  rw [List.set_append_right _ _ (Nat.le_add_right _ _), Nat.add_sub_cancel_left] at w
  exact h ds hp N F σ H D ⟨w, S.e, S.b⟩ e
theorem evr_cl {i : Nat} {a : Addr} {p : List DV → Prop} {R : DV → Ms → Prop} (h : EvR K te ρ M fun d M1 => ∃ ds, M1[i]? = some (a, .lst ds) ∧ p ds ∧ R d (M1.set i (a, .lstP p))) : EvR K te ρ M R := fun N F σ H S Q q =>
  h N F σ H S Q fun v d M1 F1 H1 e1 ⟨ds, hi, hp, hr⟩ w1 r1 => by
    have w := w1.cl (i := N.length + i) (by rw [List.getElem?_append_right (Nat.le_add_right _ _), Nat.add_sub_cancel_left]; exact hi) hp
    rw [List.set_append_right _ _ (Nat.le_add_right _ _), Nat.add_sub_cancel_left] at w
    exact q v d _ F1 H1 e1 hr w r1
theorem evr_clN {p : List DV → Prop} {R : DV → Ms → Prop} (h : EvR K te ρ M fun d M1 => ∃ (a : Addr) (ds : List DV) (M2 : Ms), M1 = (a, .lst ds) :: M2 ∧ p ds ∧ R d ((a, .lstP p) :: M2)) : EvR K te ρ M R := fun N F σ H S Q q =>
  h N F σ H S Q fun v d M1 F1 H1 e1 ⟨a, ds, M2, hm, hp, hr⟩ w1 r1 => by
    subst hm
    have w := w1.cl (i := N.length) (a := a) (ds := ds) (by rw [List.getElem?_append_right (Nat.le_refl _), Nat.sub_self]; rfl) hp
    rw [List.set_append_right _ _ (Nat.le_refl _), Nat.sub_self] at w
    exact q v d _ F1 H1 e1 hr w r1
theorem xs_never (h : False) : XS K t ρ M P := h.elim
/-! ### targets -/
def BdG (K : KB) (g : TG) (ρ : Rho) (M : Ms) (d : DV) (R : Rho → Ms → Prop) : Prop := ∀ (N : Ms) (F : Hp) (σ : St) (H : Hp) (v : V) (Q : St → Hp → Prop), Sb K N F M ρ σ H → Rp K F v d → (∀ σ' F' H' ρ' M', Ex F F' → R ρ' M' → Sb K N F' M' ρ' σ' H' → Q σ' H') → g v σ H Q
def BdGs (K : KB) (g : TGs) (ρ : Rho) (M : Ms) (ds : List DV) (R : Rho → Ms → Prop) : Prop := ∀ (N : Ms) (F : Hp) (σ : St) (H : Hp) (vs : List V) (Q : St → Hp → Prop), Sb K N F M ρ σ H → RpA K F vs ds → (∀ σ' F' H' ρ' M', Ex F F' → R ρ' M' → Sb K N F' M' ρ' σ' H' → Q σ' H') → g vs σ H Q
variable {d : DV} {ds : List DV} {R : Rho → Ms → Prop} {g : TG} {gs : TGs}
theorem bd_name {i : Nat} (h : R (ρ.set i (some d)) M) : BdG K (gName i) ρ M d R := fun N F σ H v Q S r q => q _ F H _ M (Evl.Ex.refl F) h ⟨S.w, S.e.set r i, S.b⟩
theorem bds_nil (h : R ρ M) : BdGs K gNil ρ M [] R := fun N F σ H v Q S r q => by
  cases r
  exact ⟨rfl, q σ F H ρ M (Evl.Ex.refl F) h S⟩
theorem bds_cons (h : BdG K g ρ M d fun ρ' M' => BdGs K gs ρ' M' ds R) : BdGs K (gCons g gs) ρ M (d :: ds) R := fun N F σ H vs Q S r q => by
  cases r with
  | cons r t =>
    refine ⟨_, _, rfl, h N F σ H _ _ S r fun σ' F' H' ρ' M' e1 h1 S1 => ?_⟩
    exact h1 N F' σ' H' _ Q S1 (t.mono e1) fun σ2 F2 H2 ρ2 M2 e2 h2 S2 => q σ2 F2 H2 ρ2 M2 (e1.trans e2) h2 S2
theorem bd_tup {n : Nat} (h : BdGs K gs ρ M ds R) (hn : ds.length = n) : BdG K (gTup K n gs) ρ M (.tup ds) R := fun N F σ H v Q S r q => by
  obtain ⟨a, xs, rfl, hs, hr⟩ := r.tup_of
  exact ⟨a, xs, rfl, Evl.ex_t S.w.fr hs, by rw [hr.length]; exact hn, h N F σ H xs Q S hr q⟩
theorem xs_asg (h : EvR K te ρ M fun d M' => BdG K g ρ M' d P.nx) : XS K (tAsg te g) ρ M P := fun N F σ H D S e =>
  h N F σ H S _ fun v d M' F' H' e1 h1 w1 r1 => h1 N F' σ H' v _ ⟨w1, S.e.mono e1, S.bm e1⟩ r1 fun σ2 F2 H2 ρ2 M2 e2 h2 S2 => e.nx F2 σ2 H2 ρ2 M2 (e1.trans e2) h2 S2
theorem xs_set {i : Nat} (h : Ev K te ρ M d) (k : P.nx (ρ.set i (some d)) M) : XS K (tAsg te (gName i)) ρ M P := xs_asg (h.go (bd_name k))
/-- the slots vs are as they were, when they are wiped -/
def BdW (g : TG) (vs : List Nat) : Prop := ∀ (v : V) (σ : St) (H : Hp) (Q : St → Hp → Prop), (g v σ H fun σ' H' => wipe σ' vs = wipe σ vs → Q σ' H') → g v σ H Q
def BdWs (g : TGs) (vs : List Nat) : Prop := ∀ (v : List V) (σ : St) (H : Hp) (Q : St → Hp → Prop), (g v σ H fun σ' H' => wipe σ' vs = wipe σ vs → Q σ' H') → g v σ H Q
theorem wipe_get {i : Nat} : ∀ {vs : List Nat} {σ : St}, (wipe σ vs)[i]? = if i ∈ vs ∧ i < σ.length then some none else σ[i]?
  | [], σ => by rw [if_neg (by rintro ⟨h, _⟩; cases h)]; rfl
  | v :: vs, σ => by
    show ((wipe σ vs).set v none)[i]? = _
    rw [List.getElem?_set, wipe_length]
    by_cases hv : v = i
    · subst hv
      rw [if_pos rfl]
      by_cases hl : v < σ.length
      · rw [if_pos hl, if_pos ⟨List.mem_cons_self, hl⟩]
      · rw [if_neg hl, if_neg fun z => hl z.2]
        exact (List.getElem?_eq_none (by omega)).symm
    · rw [if_neg hv, wipe_get]
      by_cases hm : i ∈ vs ∧ i < σ.length
      · rw [if_pos hm, if_pos ⟨List.mem_cons_of_mem _ hm.1, hm.2⟩]
      · rw [if_neg hm, if_neg fun z => hm ⟨(List.mem_cons.mp z.1).resolve_left fun e => hv e.symm, z.2⟩]
theorem wipe_set {σ : St} {vs : List Nat} {i : Nat} {x : Option V} (h : i ∈ vs) : wipe (σ.set i x) vs = wipe σ vs := by
  refine List.ext_getElem? fun j => ?_
  rw [wipe_get, wipe_get, List.length_set, List.getElem?_set]
  by_cases hj : i = j
  · subst hj
    by_cases hl : i < σ.length
    · rw [if_pos ⟨h, hl⟩, if_pos ⟨h, hl⟩]
    · rw [if_neg fun z => hl z.2]
      rw [if_pos rfl, if_neg hl, if_neg fun z => hl z.2]
      exact (List.getElem?_eq_none (by omega)).symm
  · rw [if_neg hj]
theorem wipe_wipe {σ : St} {vs : List Nat} : wipe (wipe σ vs) vs = wipe σ vs := by
  refine List.ext_getElem? fun j => ?_
  rw [wipe_get, wipe_length, wipe_get]
  by_cases hj : j ∈ vs ∧ j < σ.length
  · rw [if_pos hj, if_pos hj]
  · rw [if_neg hj, if_neg hj]
theorem bdw_name {i : Nat} {vs : List Nat} (h : i ∈ vs) : BdW (gName i) vs := fun v σ H Q k => k (wipe_set h)
theorem bdws_nil {vs : List Nat} : BdWs gNil vs := fun v σ H Q k => ⟨k.1, k.2 rfl⟩
theorem gname_mono {i : Nat} : ∀ (v : V) (σ : St) (H : Hp) (Q Q' : St → Hp → Prop), (∀ σ H, Q σ H → Q' σ H) → gName i v σ H Q → gName i v σ H Q' := fun v σ H Q Q' k h => k _ _ h
theorem bdws_name {i : Nat} {vs : List Nat} (h : i ∈ vs) (hs : BdWs gs vs) : BdWs (gCons (gName i) gs) vs := fun v σ H Q k => by
  obtain ⟨x, r, e, k⟩ := k
  refine ⟨x, r, e, hs _ _ _ _ ?_⟩
  have k' : gs r (σ.set i (some x)) H fun σ' H' => wipe σ' vs = wipe σ vs → Q σ' H' := k
  rw [← wipe_set (x := some x) h] at k'
  exact k'
theorem bdw_tup {K : PySem.W.Frag} {n : Nat} {vs : List Nat} (h : BdWs gs vs) : BdW (gTup K n gs) vs := fun v σ H Q k => by
  obtain ⟨a, xs, e, hs, hl, k⟩ := k
  exact ⟨a, xs, e, hs, hl, h _ _ _ _ k⟩
end
/-! ### what is walked -/
/-- J gives y 0, .. y (n - 1), while the objects G are owned as they are -/
structure WalkD (K : PySem.W.Frag) (F : Hp) (G : Ms) (J : It) (n : Nat) (y : Nat → DV) : Prop where
  goes : ∀ i F1 M1 H, i < n → Ex F F1 → Wd K F1 M1 H → (∀ c ∈ G, c ∈ M1) → J.go i H
  stops : ∀ F1 M1 H, Ex F F1 → Wd K F1 M1 H → (∀ c ∈ G, c ∈ M1) → J.stop n H
  yields : ∀ i F1 M1 H x H', i < n → Ex F F1 → Wd K F1 M1 H → (∀ c ∈ G, c ∈ M1) → J.yld i H x H' → ∃ F2, Ex F1 F2 ∧ Wd K F2 M1 H' ∧ Rp K F2 x (y i)
/-- wi is walked so; G: what must stay; R: what is owned then -/
def EvI (K : KB) (wi : TI) (ρ : Rho) (M : Ms) (G : Ms) (n : Nat) (y : Nat → DV) (R : Ms → Prop) : Prop := ∀ (N : Ms) (F : Hp) (σ : St) (H : Hp), Sb K N F M ρ σ H → ∀ Q : It → Hp → Prop, (∀ J M' F' H', Ex F F' → R M' → Wd K F' (N ++ M') H' → WalkD K F' G J n y → Q J H') → wi σ H Q
section
variable {K : KB} {ρ : Rho} {M M' : Ms} {te : TE} {t u tb : TS} {P : Post} {G : Ms} {n : Nat} {y : Nat → DV} {g : TG} {wi : TI}
theorem xs_for {RM : Ms → Prop} (hI : EvI K wi ρ M G n y RM) (inv : Nat → Rho → Ms → Prop) (h0 : ∀ M', RM M' → inv 0 ρ M') (hG : ∀ i ρ' M', i ≤ n → inv i ρ' M' → ∀ c ∈ G, c ∈ M')
    (hs : ∀ i ρ' M', i < n → inv i ρ' M' → BdG K g ρ' M' (y i) fun ρ2 M2 => XS K tb ρ2 M2 { P with nx := inv (i + 1), ct := inv (i + 1), bk := P.nx })
    (hd : ∀ ρ' M', inv n ρ' M' → P.nx ρ' M') : XS K (tFor wi g tb) ρ M P := fun N F σ H D S e =>
  hI N F σ H S _ fun J M1 F1 H1 e1 hr w1 W => by
    refine ⟨fun i m σ' H' => m = n - i ∧ i ≤ n ∧ ∃ F' ρ' M', Ex F1 F' ∧ inv i ρ' M' ∧ Sb K N F' M' ρ' σ' H', ⟨n, by simp, Nat.zero_le _, F1, ρ, M1, Evl.Ex.refl _, h0 M1 hr, w1, S.e.mono e1, S.bm e1⟩, ?_⟩
    rintro i m σ' H' ⟨rfl, hi, F', ρ', M', e2, hv, S2⟩
    have hg : ∀ c ∈ G, c ∈ N ++ M' := fun c hc => List.mem_append_right N (hG i ρ' M' hi hv c hc)
    by_cases hlt : i < n
    · refine .inr ⟨W.goes i F' _ H' hlt e2 S2.w hg, fun σ3 H3 => ∃ F3 ρ3 M3, Ex F' F3 ∧ inv (i + 1) ρ3 M3 ∧ Sb K N F3 M3 ρ3 σ3 H3, fun σ3 H3 ⟨F3, ρ3, M3, e3, hv3, S3⟩ => ⟨n - (i + 1), by omega, rfl, hlt, F3, ρ3, M3, e2.trans e3, hv3, S3⟩, fun x H3 hy => ?_⟩
      obtain ⟨F3, e3, w3, r3⟩ := W.yields i F' _ H' x H3 hlt e2 S2.w hg hy
      refine hs i ρ' M' hlt hv N F3 σ' H3 x _ ⟨w3, S2.e.mono e3, S2.bm e3⟩ r3 fun σ4 F4 H4 ρ4 M4 e4 h4 S4 => ?_
      have e04 : Ex F F4 := ((e1.trans e2).trans e3).trans e4
      exact h4 N F4 σ4 H4 _ S4 ⟨fun F5 σ5 H5 ρ5 M5 e5 h5 S5 => ⟨F5, ρ5, M5, (e3.trans e4).trans e5, h5, S5⟩, (e.mono e04).rt, (e.mono e04).nx, fun F5 σ5 H5 ρ5 M5 e5 h5 S5 => ⟨F5, ρ5, M5, (e3.trans e4).trans e5, h5, S5⟩⟩
    · have en : i = n := by omega
      subst en
      exact .inl ⟨W.stops F' _ H' e2 S2.w hg, (e.mono (e1.trans e2)).nx F' σ' H' ρ' M' (Evl.Ex.refl _) (hd ρ' M' hv) S2⟩
theorem xs_while {tt : TT} (inv : Nat → Rho → Ms → Prop) {m : Nat} (h0 : inv m ρ M)
    (hs : ∀ m ρ' M', inv m ρ' M' → EvTR K tt ρ' M' fun b M1 => if b = true then XS K tb ρ' M1 { P with nx := fun ρ2 M2 => ∃ m', m' < m ∧ inv m' ρ2 M2, ct := fun ρ2 M2 => ∃ m', m' < m ∧ inv m' ρ2 M2, bk := P.nx } else P.nx ρ' M1) : XS K (tWhile tt tb) ρ M P := fun N F σ H D S e => by
  refine ⟨fun m σ' H' => ∃ F' ρ' M', Ex F F' ∧ inv m ρ' M' ∧ Sb K N F' M' ρ' σ' H', ⟨m, F, ρ, M, Evl.Ex.refl _, h0, S⟩, ?_⟩
  rintro m σ' H' ⟨F', ρ', M', e1, hv, S1⟩
  refine hs m ρ' M' hv N F' σ' H' S1 _ fun b M1 F1 H1 e2 h1 w1 => ?_
  have S2 : Sb K N F1 M1 ρ' σ' H1 := ⟨w1, S1.e.mono e2, S1.bm e2⟩
  cases b with
  | false => exact (e.mono (e1.trans e2)).nx F1 σ' H1 ρ' M1 (Evl.Ex.refl _) h1 S2
  | true =>
    refine ⟨fun σ3 H3 => ∃ F3 ρ3 M3 m', Ex F' F3 ∧ m' < m ∧ inv m' ρ3 M3 ∧ Sb K N F3 M3 ρ3 σ3 H3, fun σ3 H3 ⟨F3, ρ3, M3, m', e3, hm, hv3, S3⟩ => ⟨m', hm, F3, ρ3, M3, e1.trans e3, hv3, S3⟩, ?_⟩
    refine (show XS K tb ρ' M1 _ from h1) N F1 σ' H1 _ S2 ⟨fun F5 σ5 H5 ρ5 M5 e5 ⟨m', hm, h5⟩ S5 => ⟨F5, ρ5, M5, m', e2.trans e5, hm, h5, S5⟩, (e.mono (e1.trans e2)).rt, (e.mono (e1.trans e2)).nx, fun F5 σ5 H5 ρ5 M5 e5 ⟨m', hm, h5⟩ S5 => ⟨F5, ρ5, M5, m', e2.trans e5, hm, h5, S5⟩⟩
/-- a comprehension; its list is owned at first -/
theorem evr_lcC {tt : TT} {vs : List Nat} {RM : Ms → Prop} {R : DV → Ms → Prop} (hI : EvI K wi ρ M G n y RM) (hn : n ≤ 100000) (inv : Nat → List DV → Ms → Prop) (h0 : ∀ M', RM M' → inv 0 [] M') (hG : ∀ i acc M', i ≤ n → inv i acc M' → ∀ c ∈ G, c ∈ M') (hb : BdW g vs)
    (hs : ∀ i acc M', i < n → inv i acc M' → BdG K g (wipeD ρ vs) M' (y i) fun ρ2 M2 => EvTR K tt ρ2 M2 fun b M3 => if b = true then EvR K te ρ2 M3 fun d M4 => inv (i + 1) (acc ++ [d]) M4 else inv (i + 1) acc M3)
    (hd : ∀ D acc M', acc.length ≤ n → inv n acc M' → R (.raw (.ref D)) ((D, .lst acc) :: M')) : EvR K (tLc wi g tt te vs) ρ M R := fun N F σ H S Q q =>
  hI N F σ H S _ fun J M1 F1 H1 e1 hr w1 W => fun D hD => by
    refine ⟨fun i m H' => m = n - i ∧ i ≤ n ∧ ∃ F' M' acc, acc.length ≤ i ∧ Ex F1 F' ∧ inv i acc M' ∧ Wd K F' ((D, .lst acc) :: (N ++ M')) H', ⟨n, by simp, Nat.zero_le _, F1, M1, [], by simp, Evl.Ex.refl _, h0 M1 hr, w1.cell (mo := .lst []) hD ⟨[], upd_same, .nil⟩⟩, ?_⟩
    rintro i m H' ⟨rfl, hi, F', M', acc, hacc, e2, hv, w2⟩
    have hg : ∀ c ∈ G, c ∈ (D, MO.lst acc) :: (N ++ M') := fun c hc => List.mem_cons_of_mem _ (List.mem_append_right N (hG i acc M' hi hv c hc))
    by_cases hlt : i < n
    · refine .inr ⟨W.goes i F' _ H' hlt e2 w2 hg, fun H3 => ∃ F3 M3 acc3, acc3.length ≤ i + 1 ∧ Ex F' F3 ∧ inv (i + 1) acc3 M3 ∧ Wd K F3 ((D, .lst acc3) :: (N ++ M3)) H3, fun H3 ⟨F3, M3, acc3, l3, e3, hv3, w3⟩ => ⟨n - (i + 1), by omega, rfl, hlt, F3, M3, acc3, l3, e2.trans e3, hv3, w3⟩, fun x H3 hy => ?_⟩
      obtain ⟨F3, e3, w3, r3⟩ := W.yields i F' _ H' x H3 hlt e2 w2 hg hy
      refine hb _ _ _ _ ?_
      refine hs i acc M' hlt hv ((D, .lst acc) :: N) F3 (wipe σ vs) H3 x _ ⟨w3, ((S.e.mono ((e1.trans e2).trans e3)).wipe vs), K.cons (S.bm ((e1.trans e2).trans e3))⟩ r3 fun σ4 F4 H4 ρ4 M4 e4 h4 S4 hw => ⟨hw.trans wipe_wipe, ?_⟩
      refine h4 ((D, .lst acc) :: N) F4 σ4 H4 S4 _ fun b M5 F5 H5 e5 h5 w5 => ?_
      cases b with
      | false => exact ⟨F5, M5, acc, by omega, (e3.trans e4).trans e5, h5, w5⟩
      | true =>
        refine (show EvR K te ρ4 M5 _ from h5) ((D, .lst acc) :: N) F5 σ4 H5 ⟨w5, S4.e.mono e5, S4.bm e5⟩ _ fun v d M6 F6 H6 e6 h6 w6 r6 => ?_
        obtain ⟨_, xs, hx, hrx⟩ := w6.ce D _ List.mem_cons_self
        refine ⟨xs, hx, by rw [hrx.length]; exact Evl.sz_lt (by omega), F6, M6, acc ++ [d], by rw [List.length_append]; simp; omega, ((e3.trans e4).trans e5).trans e6, h6, ?_⟩
        exact w6.put (i := 0) rfl (mo' := .lst (acc ++ [d])) ⟨_, upd_same, hrx.snoc r6⟩
    · have en : i = n := by omega
      subst en
      exact .inl ⟨W.stops F' _ H' e2 w2 hg, q _ _ ((D, .lst acc) :: M') F' H' (e1.trans e2) (hd D acc M' hacc hv) (w2.perm List.perm_middle) (.raw _)⟩
/-- .. that stays -/
theorem evr_lc {tt : TT} {vs : List Nat} {RM : Ms → Prop} {R : DV → Ms → Prop} (hI : EvI K wi ρ M G n y RM) (hn : n ≤ 100000) (inv : Nat → List DV → Ms → Prop) (h0 : ∀ M', RM M' → inv 0 [] M') (hG : ∀ i acc M', i ≤ n → inv i acc M' → ∀ c ∈ G, c ∈ M') (hb : BdW g vs)
    (hs : ∀ i acc M', i < n → inv i acc M' → BdG K g (wipeD ρ vs) M' (y i) fun ρ2 M2 => EvTR K tt ρ2 M2 fun b M3 => if b = true then EvR K te ρ2 M3 fun d M4 => inv (i + 1) (acc ++ [d]) M4 else inv (i + 1) acc M3)
    (hd : ∀ acc M', acc.length ≤ n → inv n acc M' → R (.lst acc) M') : EvR K (tLc wi g tt te vs) ρ M R :=
  evr_freezeL (evr_lcC hI hn inv h0 hG hb hs fun D acc M' hl hv => ⟨D, acc, M', rfl, rfl, hd acc M' hl hv⟩)
/-- the elements f i where the tests are p i -/
def picked (p : Nat → Bool) (f : Nat → DV) : Nat → List DV
  | 0 => []
  | n + 1 => if p n = true then picked p f n ++ [f n] else picked p f n
theorem picked_yes {p : Nat → Bool} {f : Nat → DV} {n : Nat} (h : p n = true) : picked p f (n + 1) = picked p f n ++ [f n] := if_pos h
theorem picked_no {p : Nat → Bool} {f : Nat → DV} {n : Nat} (h : p n = false) : picked p f (n + 1) = picked p f n := if_neg (by rw [h]; decide)
theorem ev_lc {tt : TT} {vs : List Nat} (p : Nat → Bool) (f : Nat → DV) (hI : EvI K wi ρ M [] n y fun M' => M' = M) (hn : n ≤ 100000) (hb : BdW g vs)
    (hs : ∀ i, i < n → BdG K g (wipeD ρ vs) M (y i) fun ρ2 M2 => M2 = M ∧ EvT K tt ρ2 M (p i) ∧ (p i = true → Ev K te ρ2 M (f i))) : Ev K (tLc wi g tt te vs) ρ M (.lst (picked p f n)) := by
  refine evr_lc hI hn (fun i acc M' => M' = M ∧ acc = picked p f i) (fun M' e => ⟨e, rfl⟩) (fun _ _ _ _ _ c hc => nomatch hc) hb (fun i acc M' hi ⟨hM, ha⟩ => ?_) fun acc M' _ ⟨hM, ha⟩ => ⟨by rw [ha], hM⟩
  subst hM ha
  intro N F σ H v Q S r q
  refine hs i hi N F σ H v Q S r fun σ' F' H' ρ' M2 e1 ⟨hM, ht, he⟩ S1 => q σ' F' H' ρ' M2 e1 ?_ S1
  subst hM
  refine ht.go ?_
  cases hp : p i with
  | true => exact (he hp).go ⟨rfl, (picked_yes hp).symm⟩
  | false => exact ⟨rfl, (picked_no hp).symm⟩
theorem picked_all {f : Nat → DV} : ∀ {n : Nat}, picked (fun _ => true) f n = (List.range n).map f
  | 0 => rfl
  | n + 1 => by unfold picked; rw [if_pos rfl, picked_all, List.range_succ, List.map_append]; rfl
theorem et_yes : EvT K tYes ρ M true := fun N F σ H S Q q => q true M F H (Evl.Ex.refl F) ⟨rfl, rfl⟩ S.w
theorem etr_yes {RB : Bool → Ms → Prop} (h : RB true M) : EvTR K tYes ρ M RB := et_yes.go h
/-! ### the walks -/
theorem ei_rng1 {ta : TA} {RM : Ms → Prop} {j : Int} (h : EvAR K ta ρ M fun ds M' => ds = [.int j] ∧ RM M') (hj : -(2 ^ 62) ≤ j ∧ j < 2 ^ 62) : EvI K (iRng1 ta) ρ M [] j.toNat (fun i => .int i) RM := fun N F σ H S Q q =>
  h N F σ H S _ fun vs ds M1 F1 H1 e1 ⟨hd, hr⟩ w1 r1 => by
    subst hd
    cases r1 with
    | cons h t =>
      cases t
      cases h.int_of
      refine ⟨j, rfl, hj.1, hj.2, q _ M1 F1 H1 e1 hr w1 ⟨fun i _ _ _ hi _ _ _ => hi, fun _ _ _ _ _ _ => Nat.le_refl _, fun i F2 M2 H2 x H3 hi _ w2 _ hy => ?_⟩⟩
      obtain ⟨rfl, rfl⟩ := hy
      exact ⟨F2, Evl.Ex.refl _, w2, by rw [Int.zero_add]; exact .int _⟩
theorem ei_rng2 {ta : TA} {RM : Ms → Prop} {lo j : Int} (h : EvAR K ta ρ M fun ds M' => ds = [.int lo, .int j] ∧ RM M') (hj : -(2 ^ 62) ≤ lo ∧ lo < 2 ^ 62 ∧ -(2 ^ 62) ≤ j ∧ j < 2 ^ 62) : EvI K (iRng2 ta) ρ M [] (j - lo).toNat (fun i => .int (lo + i)) RM := fun N F σ H S Q q =>
  h N F σ H S _ fun vs ds M1 F1 H1 e1 ⟨hd, hr⟩ w1 r1 => by
    subst hd
    cases r1 with
    | cons h t =>
      cases t with
      | cons h2 t =>
        cases t
        cases h.int_of
        cases h2.int_of
        refine ⟨lo, j, rfl, hj, q _ M1 F1 H1 e1 hr w1 ⟨fun i _ _ _ hi _ _ _ => hi, fun _ _ _ _ _ _ => Nat.le_refl _, fun i F2 M2 H2 x H3 hi _ w2 _ hy => ?_⟩⟩
        obtain ⟨rfl, rfl⟩ := hy
        exact ⟨F2, Evl.Ex.refl _, w2, .int _⟩
/-- the i-th of data -/
def nth (ds : List DV) (i : Nat) : DV := ds.getD i .non
theorem nth_of {ds : List DV} {i : Nat} {d : DV} (h : ds[i]? = some d) : nth ds i = d := by unfold nth; rw [List.getD_eq_getElem?_getD, h]; rfl
theorem nth_get {ds : List DV} {i : Nat} (h : i < ds.length) : ds[i]? = some (nth ds i) := by
  rw [List.getElem?_eq_getElem h, nth_of (List.getElem?_eq_getElem h)]
theorem ei_tup {RM : Ms → Prop} {ds : List DV} (h : EvR K te ρ M fun d M' => d = .tup ds ∧ RM M') : EvI K (iTup K te) ρ M [] ds.length (nth ds) RM := fun N F σ H S Q q =>
  h N F σ H S _ fun v d M1 F1 H1 e1 ⟨hd, hr⟩ w1 r1 => by
    subst hd
    obtain ⟨a, xs, rfl, hx, hr1⟩ := r1.tup_of
    refine ⟨a, rfl, ⟨xs, Evl.ex_t w1.fr hx⟩, q _ M1 F1 H1 e1 hr w1 ⟨fun i F2 M2 H2 hi e2 w2 _ => ?_, fun F2 M2 H2 e2 w2 _ => ?_, fun i F2 M2 H2 x H3 hi e2 w2 _ hy => ?_⟩⟩
    · exact walk_tup.goes i H2 (by rw [hr1.length]; exact hi) (Evl.ex_t (e2.trans w2.fr) hx)
    · have := walk_tup.stops H2 (Evl.ex_t (e2.trans w2.fr) hx)
      rw [hr1.length] at this; exact this
    · obtain ⟨rfl, hg⟩ := walk_tup.yields i H2 x H3 (by rw [hr1.length]; exact hi) (Evl.ex_t (e2.trans w2.fr) hx) hy
      obtain ⟨d, hd, rd⟩ := hr1.get' hg
      exact ⟨F2, Evl.Ex.refl _, w2, by rw [nth_of hd]; exact rd.mono e2⟩
theorem ei_lst {RM : Ms → Prop} {ds : List DV} (h : EvR K te ρ M fun d M' => d = .lst ds ∧ RM M') : EvI K (iList K te) ρ M [] ds.length (nth ds) RM := fun N F σ H S Q q =>
  h N F σ H S _ fun v d M1 F1 H1 e1 ⟨hd, hr⟩ w1 r1 => by
    subst hd
    obtain ⟨a, xs, rfl, hx, hr1⟩ := r1.lst_of
    refine ⟨a, rfl, ⟨xs, SqL.of (w1.fr _ _ hx)⟩, q _ M1 F1 H1 e1 hr w1 ⟨fun i F2 M2 H2 hi e2 w2 _ => ?_, fun F2 M2 H2 e2 w2 _ => ?_, fun i F2 M2 H2 x H3 hi e2 w2 _ hy => ?_⟩⟩
    · exact walk_list.goes i H2 (by rw [hr1.length]; exact hi) (SqL.of ((e2.trans w2.fr) _ _ hx))
    · have := (walk_list (K := K)).stops H2 (SqL.of ((e2.trans w2.fr) _ _ hx))
      rw [hr1.length] at this; exact this
    · obtain ⟨rfl, hg⟩ := walk_list.yields i H2 x H3 (by rw [hr1.length]; exact hi) (SqL.of ((e2.trans w2.fr) _ _ hx)) hy
      obtain ⟨d, hd, rd⟩ := hr1.get' hg
      exact ⟨F2, Evl.Ex.refl _, w2, by rw [nth_of hd]; exact rd.mono e2⟩
theorem ei_rd {RM : Ms → Prop} {ds : List DV} (h : EvR K te ρ M fun d M' => d = .rd ds ∧ RM M') : EvI K (iList K te) ρ M [] ds.length (nth ds) RM := fun N F σ H S Q q =>
  h N F σ H S _ fun v d M1 F1 H1 e1 ⟨hd, hr⟩ w1 r1 => by
    subst hd
    obtain ⟨a, xs, rfl, hx, hr1⟩ := r1.rd_of
    refine ⟨a, rfl, ⟨xs, Evl.ex_l w1.fr hx⟩, q _ M1 F1 H1 e1 hr w1 ⟨fun i F2 M2 H2 hi e2 w2 _ => ?_, fun F2 M2 H2 e2 w2 _ => ?_, fun i F2 M2 H2 x H3 hi e2 w2 _ hy => ?_⟩⟩
    · exact walk_list.goes i H2 (by rw [hr1.length]; exact hi) (Evl.ex_l (e2.trans w2.fr) hx)
    · have := (walk_list (K := K)).stops H2 (Evl.ex_l (e2.trans w2.fr) hx)
      rw [hr1.length] at this; exact this
    · obtain ⟨rfl, hg⟩ := walk_list.yields i H2 x H3 (by rw [hr1.length]; exact hi) (Evl.ex_l (e2.trans w2.fr) hx) hy
      obtain ⟨d, hd, rd⟩ := hr1.get' hg
      exact ⟨F2, Evl.Ex.refl _, w2, by rw [nth_of hd]; exact rd.mono e2⟩
/-- of an owned list, that stays as it is meanwhile -/
theorem ei_lstC {RM : Ms → Prop} {ds : List DV} {a : Addr} (h : EvR K te ρ M fun d M' => d = .raw (.ref a) ∧ (a, MO.lst ds) ∈ M' ∧ RM M') : EvI K (iList K te) ρ M [(a, .lst ds)] ds.length (nth ds) RM := fun N F σ H S Q q =>
  h N F σ H S _ fun v d M1 F1 H1 e1 ⟨hd, hm, hr⟩ w1 r1 => by
    subst hd
    cases r1.raw_of
    obtain ⟨_, xs0, hx0, hr0⟩ := w1.ce a _ (List.mem_append_right N hm)
    refine ⟨a, rfl, ⟨xs0, SqL.of hx0⟩, q _ M1 F1 H1 e1 hr w1 ⟨fun i F2 M2 H2 hi e2 w2 hg => ?_, fun F2 M2 H2 e2 w2 hg => ?_, fun i F2 M2 H2 x H3 hi e2 w2 hg hy => ?_⟩⟩
    · obtain ⟨_, xs, hx, hr1⟩ := w2.ce a _ (hg _ List.mem_cons_self)
      exact walk_list.goes i H2 (by rw [hr1.length]; exact hi) (SqL.of hx)
    · obtain ⟨_, xs, hx, hr1⟩ := w2.ce a _ (hg _ List.mem_cons_self)
      have := (walk_list (K := K)).stops H2 (SqL.of hx)
      rw [hr1.length] at this; exact this
    · obtain ⟨_, xs, hx, hr1⟩ := w2.ce a _ (hg _ List.mem_cons_self)
      obtain ⟨rfl, hg⟩ := walk_list.yields i H2 x H3 (by rw [hr1.length]; exact hi) (SqL.of hx) hy
      obtain ⟨d, hd, rd⟩ := hr1.get' hg
      exact ⟨F2, Evl.Ex.refl _, w2, by rw [nth_of hd]; exact rd⟩
end
end DD

set_option Elab.async false
set_option linter.all false
set_option maxRecDepth 100000
set_option maxHeartbeats 4000000
/-! enumerate of a tuple -/
namespace DE
open PySem PySem.Spec PyProof.Rows L2
section
variable {P : Program} {w : World} {A : Around} {E : Value → Shared → Prop} {z : Shared} {c j a : Addr} {n : Nat} {its : Array Value}
/-- the inner draw: one more of the tuple -/
theorem draw1 {y : Value} {Q : Value → Shared → Prop} (hj : z.heap.IsTupleIter j a n) (ha : z.heap.IsTuple a its) (hy : its[n]? = some y) (k : ∀ g, g.IsTupleIter j a (n + 1) → Heap.SameBut j z.heap g → Q y { z with heap := g }) :
    wpAny (model P w) A (Builtin.SmallTypes.nextOf (.ref j)) Q E z := by
  obtain ⟨ob, hob, hcl, hdt⟩ := id hj
  obtain ⟨ot, hot, _, nt, hdtt⟩ := ha
  unfold Builtin.SmallTypes.nextOf
  refine wpAny_bind (wpAny_callSpecial?_slot (name := Str.ofString "__next__") hj.typeIs F.slot_tuple_iterator_next (wpAny_call_entry F.slot_tuple_iterator_next hj.typeIs F.entry_tuple_iterator_next ?_ (F.args_tuple_iterator_next_1 _)))
  show wpAny _ _ (field (.ref j) 0 >>= _) _ _ z
  refine wpAny_bind (wpAny_field hob hdt (x := .ref a) rfl ?_); show wpAny _ _ (if (Value.ref a == Value.none) = true then _ else _) _ _ z
  rw [if_neg (show ¬ ((Value.ref a == Value.none) = true) from Bool.false_ne_true)]; show wpAny _ _ (field (.ref j) 1 >>= _) _ _ z
  refine wpAny_bind (wpAny_field hob hdt (x := .int n 0) rfl ?_); show wpAny _ _ (seqItems? (.ref a) >>= _) _ _ z
  refine wpAny_bind (wpAny_seqItems hot hdtt ?_)
  simp only [Int.toNat_natCast, hy]
  refine wpAny_bind (wpAny_setField hob hdt (by simp) (wpAny_pure ⟨y, rfl, wpAny_pure (k _ ⟨_, Heap.get?_update_self _ hob (Obj.isFreed_of_fields (Obj.data_mapFields hdt _)), (Obj.cls_mapFields ..).trans hcl, ?_⟩ (Heap.SameBut.update ..))⟩))
  rw [Obj.data_mapFields hdt]; simp [rawInt]
theorem draw0 {Q : Value → Shared → Prop} (hh : A.handled = none) (hj : z.heap.IsTupleIter j a n) (ha : z.heap.IsTuple a its) (hy : its[n]? = none)
    (k : ∀ g x, Heap.ExtBut j z.heap g → (∃ o, g.get? x = some o ∧ o.cls = .type "StopIteration") → E (.ref x) { z with heap := g }) : wpAny (model P w) A (Builtin.SmallTypes.nextOf (.ref j)) Q E z := by
  obtain ⟨ob, hob, hcl, hdt⟩ := id hj
  obtain ⟨ot, hot, _, nt, hdtt⟩ := ha
  unfold Builtin.SmallTypes.nextOf
  refine wpAny_bind (wpAny_callSpecial?_slot (name := Str.ofString "__next__") hj.typeIs F.slot_tuple_iterator_next (wpAny_call_entry F.slot_tuple_iterator_next hj.typeIs F.entry_tuple_iterator_next ?_ (F.args_tuple_iterator_next_1 _)))
  show wpAny _ _ (field (.ref j) 0 >>= _) _ _ z
  refine wpAny_bind (wpAny_field hob hdt (x := .ref a) rfl ?_); show wpAny _ _ (if (Value.ref a == Value.none) = true then _ else _) _ _ z
  rw [if_neg (show ¬ ((Value.ref a == Value.none) = true) from Bool.false_ne_true)]; show wpAny _ _ (field (.ref j) 1 >>= _) _ _ z
  refine wpAny_bind (wpAny_field hob hdt (x := .int n 0) rfl ?_); show wpAny _ _ (seqItems? (.ref a) >>= _) _ _ z
  refine wpAny_bind (wpAny_seqItems hot hdtt ?_)
  simp only [Int.toNat_natCast, hy]
  refine wpAny_bind (wpAny_rule (wpAny_bind (wpAny_setField hob hdt (by simp) ?_)))
  refine (show wpAny _ _ (newExc (.type "StopIteration") [] >>= _) _ _ _ from wpAny_bind ?_)
  simp only [newExc, newTuple]
  refine wpAny_bind (wpAny_newObj_type ?_ (by size_fits))
  refine wpAny_bind (m := firstArgMember _ _) (wpAny_of_eq (a := Value.none) (by first | rfl | (simp only [firstArgMember]; rfl)) (wpAny_newObj_type ?_ (by size_fits)))
  simp only [raiseNew]
  refine wpAny_bind (wpAny_handled ?_)
  first | rw [show A.in1.handled = none from hh] | rw [hh]
  exact wpAny_bind (wpAny_pure (wpAny_throw (k _ _ (((Heap.SameBut.update ..).extBut.push _).push _) ⟨_, Heap.get?_push_size _ rfl, rfl⟩)))
theorem enext {y old : Value} {Q : Value → Shared → Prop} (hc : IsEnum z.heap c j n old) (hj : z.heap.IsTupleIter j a n) (ha : z.heap.IsTuple a its) (hy : its[n]? = some y) (hcj : c ≠ j)
    (k : ∀ g, IsEnumOut g c j ((n : Int) + 1) y z.heap.objs.size → g.IsTupleIter j a (n + 1) → g.get? z.heap.objs.size = some { cls := .type "tuple", data := .seq #[.int n z.toks, y] } → g.objs.size = z.heap.objs.size + 1 →
      (∀ b o, b ≠ c → b ≠ j → z.heap.get? b = some o → g.get? b = some o) → Q (.ref z.heap.objs.size) { z with heap := g, toks := z.toks + 1 }) :
    wpAny (model P w) A (Builtin.«enumerate.__next__» ⟨[.ref c], []⟩) (fun fin s' => ∃ v, fin = .done (.ret v) ∧ Q v s') E z := by
  obtain ⟨q0, gg, dd, tt, oo⟩ := z
  show wpAny _ _ (field (.ref c) 2 >>= _) _ _ _
  refine wpAny_bind (wpAny_field hc rfl (x := .ref j) rfl (wpAny_bind (draw1 hj ha hy fun q1 hj1 hs1 => ?_)))
  replace hs1 : Heap.SameBut j q0 q1 := hs1
  have hc1 : IsEnum q1 c j n old := (hs1.2 c hcj).trans hc
  show wpAny _ _ (field (.ref c) 3 >>= _) _ _ ⟨q1, gg, dd, tt, oo⟩
  refine wpAny_bind (wpAny_field hc1 rfl (x := rawInt n) rfl ?_); show wpAny _ _ (field (.ref c) 4 >>= _) _ _ ⟨q1, gg, dd, tt, oo⟩
  refine wpAny_bind (wpAny_field hc1 rfl (x := .none) rfl ?_); show wpAny _ _ (mkInt n >>= _) _ _ ⟨q1, gg, dd, tt, oo⟩
  refine wpAny_bind (wpAny_mkInt ?_); show wpAny _ _ (setField (.ref c) 3 (rawInt ((n : Int) + 1)) >>= _) _ _ ⟨q1, gg, dd, tt + 1, oo⟩
  refine wpAny_bind (wpAny_setField_rec hc1 (by simp) fun q2 hc2 hs2 => ?_)
  replace hs2 : Heap.SameBut c q1 q2 := hs2
  replace hc2 : IsEnum q2 c j ((n : Int) + 1) old := hc2
  show wpAny _ _ (setField (.ref c) 4 .none >>= _) _ _ ⟨q2, gg, dd, tt + 1, oo⟩
  refine wpAny_bind (wpAny_setField_rec hc2 (by simp) fun q3 hc3 hs3 => ?_)
  replace hs3 : Heap.SameBut c q2 q3 := hs3
  replace hc3 : IsEnum q3 c j ((n : Int) + 1) old := hc3
  show wpAny _ _ (newTuple [.int n tt, y] >>= _) _ _ ⟨q3, gg, dd, tt + 1, oo⟩
  refine wpAny_bind (wpAny_newTuple ?_)
  have hc4 : IsEnum (q3.push { cls := .type "tuple", data := .seq #[.int n tt, y] }) c j ((n : Int) + 1) old := Heap.get?_push_of_some _ hc3
  generalize hq4 : q3.push { cls := .type "tuple", data := .seq #[.int n tt, y] } = q4 at hc4
  have s3 : q3.objs.size = q0.objs.size := by rw [hs3.1, hs2.1, hs1.1]
  have cl : c < q0.objs.size := Heap.lt_size hc
  have t4 : q4.get? q0.objs.size = some { cls := .type "tuple", data := .seq #[.int n tt, y] } := by rw [← hq4, ← s3]; exact Heap.get?_push_size _ rfl
  have s4 : q4.objs.size = q0.objs.size + 1 := by rw [← hq4, Heap.size_push, s3]
  have k4 : ∀ b o, b ≠ c → b ≠ j → q0.get? b = some o → q4.get? b = some o := fun b o hb hb' ho => by
    rw [← hq4]; exact Heap.get?_push_of_some _ (hs3.extBut b o hb (hs2.extBut b o hb (hs1.extBut b o hb' ho)))
  have j4 : q4.IsTupleIter j a (n + 1) := by
    rw [← hq4]; obtain ⟨o, ho, rr⟩ := (hj1.extBut hs2.extBut (Ne.symm hcj)).extBut hs3.extBut (Ne.symm hcj); exact ⟨o, Heap.get?_push_of_some _ ho, rr⟩
  show wpAny _ _ (Builtin.SmallTypes.ownedTupleIsFree (.ref c) >>= _) _ _ ⟨q4, gg, dd, tt + 1, oo⟩
  rw [s3]
  clear hq4 hc3 hs3 hc2 hs2 hc1 hs1 hj1 s3 q3 q2 q1
  refine wpAny_bind ?_
  unfold Builtin.SmallTypes.ownedTupleIsFree
  refine wpAny_bind (wpAny_field hc4 rfl (x := .none) rfl (wpAny_pure ?_))
  simp only [if_true]
  refine wpAny_bind (wpAny_rule (wpAny_bind (wpAny_field hc4 rfl (x := old) rfl (wpAny_bind (wpAny_setField_rec hc4 (by simp) fun q5 hc5 hs5 => ?_)))))
  replace hs5 : Heap.SameBut c q4 q5 := hs5
  replace hc5 : IsEnum q5 c j ((n : Int) + 1) y := hc5
  show wpAny _ _ (Builtin.SmallTypes.ownedTupleHandOut (.ref c) (.ref q0.objs.size) >>= _) _ _ ⟨q5, gg, dd, tt + 1, oo⟩
  refine wpAny_bind ?_
  unfold Builtin.SmallTypes.ownedTupleHandOut
  refine wpAny_bind (wpAny_setField_rec hc5 (by simp) fun q6 hc6 hs6 => ?_)
  replace hs6 : Heap.SameBut c q5 q6 := hs6
  replace hc6 : IsEnumOut q6 c j ((n : Int) + 1) y q0.objs.size := hc6
  refine wpAny_setField_rec hc6 (by simp) fun q7 hc7 hs7 => ?_
  replace hs7 : Heap.SameBut c q6 q7 := hs7
  replace hc7 : IsEnumOut q7 c j ((n : Int) + 1) y q0.objs.size := hc7
  have gt : q0.objs.size ≠ c := Nat.ne_of_gt cl
  exact wpAny_bind (wpAny_letGo (wpAny_pure ⟨_, rfl, k q7 hc7 (((j4.extBut hs5.extBut (Ne.symm hcj)).extBut hs6.extBut (Ne.symm hcj)).extBut hs7.extBut (Ne.symm hcj))
    (hs7.extBut _ _ gt (hs6.extBut _ _ gt (hs5.extBut _ _ gt t4))) (by rw [hs7.1, hs6.1, hs5.1, s4]) fun b o hb hb' ho => hs7.extBut b o hb (hs6.extBut b o hb (hs5.extBut b o hb (k4 b o hb hb' ho)))⟩))
theorem pnext {y old : Value} {Q : Option Value → Shared → Prop} (hc : IsEnum z.heap c j n old) (hj : z.heap.IsTupleIter j a n) (ha : z.heap.IsTuple a its) (hy : its[n]? = some y) (hcj : c ≠ j)
    (k : ∀ g, IsEnumOut g c j ((n : Int) + 1) y z.heap.objs.size → g.IsTupleIter j a (n + 1) → g.get? z.heap.objs.size = some { cls := .type "tuple", data := .seq #[.int n z.toks, y] } → g.objs.size = z.heap.objs.size + 1 →
      (∀ b o, b ≠ c → b ≠ j → z.heap.get? b = some o → g.get? b = some o) → Q (some (.ref z.heap.objs.size)) { z with heap := g, toks := z.toks + 1 }) : wpAny (model P w) A (pyNext (.ref c)) Q E z := by
  have ty : z.TypeIs (.ref c) "enumerate" := ⟨_, hc, rfl⟩
  unfold pyNext
  exact wpAny_bind (wpAny_attempt (wpAny_callSpecial?_slot (name := Str.ofString "__next__") ty F.slot_enumerate_next (wpAny_call_entry F.slot_enumerate_next ty F.entry_enumerate_next (enext hc hj ha hy hcj fun g u1 u2 u3 u4 u5 => wpAny_pure (k g u1 u2 u3 u4 u5)) (F.args_enumerate_next_1 _))))
theorem pend {old : Value} {Q : Option Value → Shared → Prop} (hh : A.handled = none) (hc : IsEnum z.heap c j n old) (hj : z.heap.IsTupleIter j a n) (ha : z.heap.IsTuple a its) (hy : its[n]? = none)
    (k : ∀ g, Heap.ExtBut j z.heap g → Q none { z with heap := g }) : wpAny (model P w) A (pyNext (.ref c)) Q E z := by
  have ty : z.TypeIs (.ref c) "enumerate" := ⟨_, hc, rfl⟩
  unfold pyNext
  refine wpAny_bind (wpAny_attempt (wpAny_callSpecial?_slot (name := Str.ofString "__next__") ty F.slot_enumerate_next (wpAny_call_entry F.slot_enumerate_next ty F.entry_enumerate_next ?_ (F.args_enumerate_next_1 _))))
  show wpAny _ _ (field (.ref c) 2 >>= _) _ _ _
  refine wpAny_bind (wpAny_field hc rfl (x := .ref j) rfl (wpAny_bind (draw0 hh hj ha hy fun g x he hx => ?_)))
  obtain ⟨o, ho, hcl⟩ := hx
  exact wpAny_bind (wpAny_isInstance (T := "StopIteration") (b := true) ⟨o, ho, hcl⟩ isSubtype_stop (wpAny_pure (k _ he)))
theorem mk_new (a : Addr) (items : Array Value) (n : Nat) (dct : Option Addr) (sl : Array (Option Value)) :
    Meets (Builtin.«enumerate.__new__» ⟨[.type "enumerate", .ref a], []⟩) (fun _ R s => s.heap.get? a = some { cls := .type "tuple", dict := dct, data := .seq items n, slots := sl } ∧
      R (.ok (.ret (.ref (s.heap.push { cls := .type "tuple_iterator", data := .fields #[.ref a, .int 0 0] }).objs.size)))
        { s with heap := (s.heap.push { cls := .type "tuple_iterator", data := .fields #[.ref a, .int 0 0] }).push { cls := .type "enumerate", data := .fields #[.none, .bool false, .ref s.heap.objs.size, rawInt 0, .none, .none] } }) :=
  .of_wp fun prog w A R s h => by
    obtain ⟨q0, gg, dd, tt, oo⟩ := s; obtain ⟨hl, h⟩ := h
    have hsub := PySem.sub_enumerate
    have hT : Heap.IsTuple (Shared.heap ⟨q0, gg, dd, tt, oo⟩) a items := ⟨_, hl, rfl, n, rfl⟩
    wp_walk using AutoSeq1.wpAny_loadPart' hl
    refine wpAny_stack_any fun st => wpAny_pure ?_
    split
    · rename_i u _ _ _ _ _
      cases (u == Value.type "enumerate") <;> (wp_walk using AutoSeq1.wpAny_loadPart' hl, wpAny_pyIter_tuple hT; exact ⟨_, rfl, h⟩)
    · wp_walk using AutoSeq1.wpAny_loadPart' hl, wpAny_pyIter_tuple hT; exact ⟨_, rfl, h⟩
theorem ecall {Q : Value → Shared → Prop} (ha : z.heap.IsTuple a its) (k : ∀ g, IsEnum g (z.heap.objs.size + 1) z.heap.objs.size 0 .none → g.IsTupleIter z.heap.objs.size a 0 → g.objs.size = z.heap.objs.size + 2 →
      (∀ b o, z.heap.get? b = some o → g.get? b = some o) → Q (.ref (z.heap.objs.size + 1)) { z with heap := g }) : wpAny (model P w) A (call (.type "enumerate") [.ref a]) Q E z := by
  obtain ⟨⟨cl, dct, dt, sl⟩, hl, hcl, nn, hdt⟩ := ha
  replace hcl : cl = .type "tuple" := hcl
  replace hdt : dt = .seq its nn := hdt
  subst hcl hdt
  refine callType_new F.called_enumerate (by decide) (F.typeCall_enumerate_1 _) (F.newCall_enumerate_1 _) (fun ob => F.args_object_init_2 ob _) F.entry_enumerate_new (mk_new a its nn dct sl) ⟨hl, ?_⟩
  have sz1 : (z.heap.push { cls := .type "tuple_iterator", data := .fields #[.ref a, .int 0 0] }).objs.size = z.heap.objs.size + 1 := Heap.size_push ..
  show _ ∧ _
  rw [sz1]
  have he : IsEnum ((z.heap.push { cls := .type "tuple_iterator", data := .fields #[.ref a, .int 0 0] }).push { cls := .type "enumerate", data := .fields #[.none, .bool false, .ref z.heap.objs.size, rawInt 0, .none, .none] }) (z.heap.objs.size + 1) z.heap.objs.size 0 .none := by
    have q := Heap.get?_push_size (z.heap.push { cls := .type "tuple_iterator", data := .fields #[.ref a, .int 0 0] }) (o := { cls := .type "enumerate", data := .fields #[.none, .bool false, .ref z.heap.objs.size, rawInt 0, .none, .none] }) rfl
    rw [sz1] at q; exact q
  exact ⟨⟨_, he, rfl⟩, k _ he ⟨_, Heap.get?_push_of_some _ (Heap.get?_push_size _ rfl), rfl, rfl⟩ (by rw [Heap.size_push, sz1]) fun b o x => Heap.get?_push_of_some _ (Heap.get?_push_of_some _ x)⟩
end
/-- the tuple at a, each item in a new pair -/
def ItE (K : PySem.W.Frag) (a : Addr) : It :=
  ⟨fun i H => ∃ (xs : List V) (x : V), SqT K H a xs ∧ xs[i]? = some x, fun i H v H' => ∃ T x, v = .ref T ∧ H T = none ∧ H' = upd H T (.tup [.int (i : Nat), x]) ∧ ∀ xs, SqT K H a xs → xs[i]? = some x, fun i H => ∃ xs : List V, SqT K H a xs ∧ xs.length ≤ i⟩
theorem turnE {P : Program} {w : World} {K : PySem.W.Frag} {elts : List Expr} {kk : Nat} {tpos : Pos} (a e it : Addr) :
    Turn P w K (.Tuple elts kk tpos) (ItE K a) [e, it] e (fun i h => (∃ old, IsEnum h e it ((i : Nat) : Int) old) ∧ h.IsTupleIter it a i ∧ e ≠ it) where
  mem := List.mem_cons_self
  obj := fun i h st b hb => by
    obtain ⟨⟨prev, he⟩, ⟨ob, ho, hcl, hdt⟩, _⟩ := st
    rcases (show b = e ∨ b = it by simpa using hb) with q | q
    · rw [q]; exact ⟨_, he, fun v r => nomatch r⟩
    · rw [q]; exact ⟨ob, ho, fun v r => by rw [hdt] at r; cases r⟩
  keep := fun i h h' st k => let ⟨⟨prev, he⟩, hi, hcj⟩ := st; ⟨⟨prev, k e (by simp) _ he⟩, hi.at fun o q => k it (by simp) o q, hcj⟩
  item := by
    intro Y hP hw hK hc i pins z σ H E I hf st hg
    subst hP hw hK
    obtain ⟨⟨prev, he⟩, hit, hcj⟩ := st
    obtain ⟨xs, x, hq, hx⟩ := hg
    obtain ⟨us, rv, pl, hz⟩ := I.tuple hq
    obtain ⟨u, hu, ru⟩ := rv.get hx
    have el : e < z.heap.objs.size := Heap.lt_size he
    have il : it < z.heap.objs.size := let ⟨_, q, _⟩ := hit; Heap.lt_size q
    refine pnext he hit pl (y := u) (by simpa using hu) hcj fun g ho hit' hT hsz hk => ⟨_, rfl, wpAny_letOwnedTupleGo_enum (s := { z with heap := g, toks := z.toks + 1 }) ho fun g2 he' sb => ?_⟩
    have hT2 : g2.get? z.heap.objs.size = some { cls := .type "tuple", data := .seq #[.int i z.toks, u] } := (sb.2 _ (Nat.ne_of_gt el)).trans hT
    have fresh : ObjOk Y.prog Y.w (upd H z.heap.objs.size (.tup [.int (i : Nat), x])) g2 z.heap.objs.size (.tup [.int (i : Nat), x]) := ⟨by show 2 ≤ sizeLine; decide, [.int i z.toks, u], .cons ⟨_, rfl⟩ (.cons ru .nil), ⟨_, hT2, rfl, _, rfl⟩⟩
    have J1 : Inv Y pins σ (upd H z.heap.objs.size (.tup [.int (i : Nat), x])) { z with heap := g2, toks := z.toks + 1 } :=
      I.turnedNew (ch := [e, it]) (fun b ob hb q => (sb.2 b (fun r => hb (by simp [r]))).trans (hk b ob (fun r => hb (by simp [r])) (fun r => hb (by simp [r])) q)) hf (Nat.le_refl _) fresh
    refine ⟨.ref z.heap.objs.size, _, J1, rfl, ⟨_, x, rfl, I.hok.fresh (Nat.le_refl _), rfl, fun ys hy => by rw [I.tuple_inj hy hq]; exact hx⟩, ⟨⟨u, ?_⟩, hit'.at fun o q => (sb.2 it (Ne.symm hcj)).trans q, hcj⟩, fun b hb => ?_⟩
    · rw [show ((i + 1 : Nat) : Int) = (i : Int) + 1 by omega]; exact he'
    · have hlt : b < z.heap.objs.size := by
        rcases (show b = e ∨ b = it by simpa using hb) with q | q
        · rw [q]; exact el
        · rw [q]; exact il
      rw [upd_ne (Nat.ne_of_lt hlt)]
      exact (hf b hb).1
  done := by
    intro Y hP hw hK hc i pins z σ H E I hf st hg
    subst hP hw hK
    obtain ⟨⟨prev, he⟩, hit, hcj⟩ := st
    obtain ⟨xs, hq, hx⟩ := hg
    obtain ⟨us, rv, pl, hz⟩ := I.tuple hq
    obtain ⟨f0, f1, f2, f3, f4, f5⟩ := hf it (by simp)
    have ln := rv.length
    exact pend (I.ok.hd hc) he hit pl (by simp; omega) fun g eb => ⟨rfl, I.turned (t' := z.toks) (fun b o hb q => eb b o hb q) f0 f1 f3 f4 f5⟩
  self := fun A i z Q E st h => let ⟨⟨_, he⟩, _⟩ := st; wpAny_pyIter_enum he h
def iEnumT (K : PySem.W.Frag) (ta : TA) : TI := fun σ H R => ta σ H fun vs H1 => ∃ a xs, vs = [.ref a] ∧ SqT K H1 a xs ∧ R (ItE K a) H1
theorem pi_enumT {X : Cx} {e : Expr} {ta : TA} {p pos tpos : Pos} {elts : List Expr} {kk : Nat} (hg : Gl X "enumerate") (hm : X.mg "enumerate" = none) (ha : PA X [e] ta) (hs : starEach [e] X.env = [(false, eval e X.env)] := by rfl) :
    PI X (.Tuple elts kk tpos) (.Call (.Name "enumerate" p) [e] [] pos) (iEnumT X.K ta) := by
  refine ⟨fun pins z σ H R I h => Call_ (ld_blt I hg hm boot_enumerate (PyProof.Rows.callWith_type1 (thn (ha.run pos pins z σ H _ I h) fun us s1 ⟨vs, H1, I1, r1, q1⟩ => ?_) hs rfl))⟩
  obtain ⟨a, xs, ex, hq, q⟩ := q1
  subst ex
  cases r1 with
  | cons r rr =>
    cases rr
    cases r
    obtain ⟨us, rv, pl, hz⟩ := I1.tuple hq
    refine ecall pl fun g he hit hsz hk => wpAny_pyIter_enum he ?_
    have I2 : Inv X pins σ H1 { s1 with heap := g } := I1.kept (t' := s1.toks) hk
    refine ⟨s1.heap.objs.size + 1, [s1.heap.objs.size + 1, s1.heap.objs.size], _, _, H1, rfl, I2, turnE a (s1.heap.objs.size + 1) s1.heap.objs.size, ⟨⟨.none, he⟩, hit, Nat.succ_ne_self _⟩, fun b hb => ?_, q⟩
    have hle : s1.heap.objs.size ≤ b := by
      rcases (show b = s1.heap.objs.size + 1 ∨ b = s1.heap.objs.size by simpa using hb) with z | z
      · rw [z]; exact Nat.le_add_right _ _
      · rw [z]; exact Nat.le_refl _
    exact I1.fpOk hle (I1.hok.fresh hle)
end DE

set_option Elab.async false
set_option linter.all false
set_option maxRecDepth 100000
set_option maxHeartbeats 4000000
/-! defs that run where no repr is going on -/
namespace DD
open PySem PySem.Spec PyProof.Rows L2
section
variable {P : Program} {w : World} {K : PySem.W.Frag} {mg : Str → Option Value} {base : Heap} {CX : CXT} {k : Nat} {f : Addr} {fd : FuncData} {ps : List Str} {sp : Sp}
structure FnG (P : Program) (w : World) (K : PySem.W.Frag) (mg : Str → Option Value) (base : Heap) (CX : CXT) (k : Nat) (f : Addr) (fd : FuncData) (ps : List Str) (sp : Sp) : Prop where
  len : ∀ xs H Q E, sp xs H Q E → xs.length = ps.length
  run : ∀ (A : Around) (up : List Env) (z : Shared) (H : Hp) (args : Args) (us : List Value) (xs : List V) (Q : VK) (E : XK), A.guards = some [] → Room k A → Env0 P w K mg base A up z H → BindsTo z fd args (ps.zip us) → Vals xs us → sp xs H Q E →
    codeAny (model P w) A (.call (.ref f) args) (CR CX up P w H z Q E) z
theorem FnG.mono {j : Nat} (F : FnG P w K mg base CX j f fd ps sp) (h : j ≤ k) : FnG P w K mg base CX k f fd ps sp := ⟨F.len, fun A up z H args us xs Q E hg hr => F.run A up z H args us xs Q E hg (hr.mono h)⟩
theorem fnOk_g (F : FnOk P w K mg base CX k f fd ps sp) : FnG P w K mg base CX k f fd ps sp := ⟨F.len, fun A up z H args us xs Q E _ => F.run A up z H args us xs Q E⟩
/-- a def by its body -/
theorem fnG_of {name qual : Str} {params : Arguments} {body : List Stmt} {scope : Scope} {dV kV doc pm cdv ct oc : Value} {an od : Option Addr} {osl : Array (Option Value)} {N : List Str}
    (lk : K.lookup f = some ⟨oc, od, .func (PySem.W.fnOf name qual params body scope dV kV doc pm an cdv ct), osl⟩) (hcode : PySem.W.codeIn K cdv qual = true) (S : FnScope N ps scope) (len : ∀ xs H Q E, sp xs H Q E → xs.length = ps.length)
    (hb : ∀ (A : Around) (up : List Env) (z : Shared) (H : Hp) (xs : List V) (Q : VK) (E : XK), A.guards = some [] → Room k (A.deeper (envOfC qual scope z.heap.objs.size f cdv)) → sp xs H Q E → ∃ t, PSs (cxOf CX P w K mg base N qual scope f cdv A up z H E) body t ∧ t { nx := fun _ H' => Q .non H', rt := Q } (start N xs) H) :
    FnG P w K mg base CX (k + 1) f (PySem.W.fnOf name qual params body scope dV kV doc pm an cdv ct) ps sp := by
  refine ⟨len, fun A up z H args us xs Q E hg hr e0 hbi r hs => ?_⟩
  have KZ : K.In z.heap := e0.mod.kin.keeps fun b o e => (e0.bs b o e).1
  have nl : z.heap.NoLimit := e0.mod.nolimit.keeps fun b o e => (e0.bs b o e).1
  have hk : ∀ y ∈ ps.zip us, scope.names.lookup y.1 = some .local ∨ (scope.names.lookup y.1 = some .cell ∧ ((cellsFrom (z.heap.objs.size + 1) scope.names []).lookup y.1).isSome = true) := fun ⟨n, v⟩ hy => (S.par n (List.of_mem_zip hy).1).elim .inl fun q => .inr ⟨q, PySem.W.cellsFrom_some _ _ _ (.inl q)⟩
  refine codeAny_call_function hr.depth (KZ _ _ lk) rfl S.co S.gen rfl (PySem.W.codeRec_of KZ hcode) (hbi _ _ _ _ (wpAny_newFunctionEnv_cells S.kind hk fun env he z1 x => ?_))
  subst he
  refine ⟨nl.keeps x.toInCall.keep, codeAny_func ?_⟩
  obtain ⟨t, ht, hq⟩ := hb A up z H xs Q E hg (hr.deeper _) hs
  have J0 : Inv (cxOf CX P w K mg base N qual scope f cdv A up z H E) [] (start N xs) H z1 := inv_start S hr.hd e0 (len _ _ _ _ hs) r x
  refine wpAny_mono (ht.run [] z1 (start N xs) H _ J0 hq) (fun fl z2 hz => ?_) fun e z2 hz => hz
  cases fl with
  | ret u => obtain ⟨v, σ', H', J, rv, q⟩ := hz; exact ⟨v, H', J.os, J.bare, J.base, J.hok, rv, q⟩
  | next => obtain ⟨σ', H', J, q⟩ := hz; exact ⟨V.non, H', J.os, J.bare, J.base, J.hok, rfl, q⟩
  | brk => obtain ⟨_, _, _, q⟩ := hz; exact q.elim
  | cont => obtain ⟨_, _, _, q⟩ := hz; exact q.elim
theorem fun_okG {x qual : Str} {st : Stmt} {N : List Str} (F : Fun K x qual st f fd) (S : FnScope N ps (defScope st)) (len : ∀ xs H Q E, sp xs H Q E → xs.length = ps.length)
    (hb : ∀ (cdv : Value) (A : Around) (up : List Env) (z : Shared) (H : Hp) (xs : List V) (Q : VK) (E : XK), A.guards = some [] → Room k (A.deeper (envOfC qual (defScope st) z.heap.objs.size f cdv)) → sp xs H Q E →
      ∃ t, PSs (cxOf CX0 P w K mg base N qual (defScope st) f cdv A up z H E).nox (defBody st) t ∧ t { nx := fun _ H' => Q .non H', rt := Q } (start N xs) H) : FnG P w K mg base CX0 (k + 1) f fd ps sp := by
  obtain ⟨oc, od, kV, doc, pm, an, cdv, ct, osl, rfl, lk, hcd⟩ := F.ex
  refine fnG_of lk hcd S len fun A up z H xs Q E hg hr hsp => ?_
  obtain ⟨t, h, q⟩ := hb cdv A up z H xs Q E hg hr hsp
  exact ⟨t, h.nox, q⟩
end
section
variable {X : Cx} {CX : CXT} {k : Nat} {f C : Addr} {fd : FuncData} {ps : List Str} {sp : Sp} {dvs : List V} {ds : List Value} {E : XK} {x m : Str} {p pos apos : Pos} {e o : Expr} {es : List Expr} {ta : TE} {t : TA}
theorem runG {pins : List (Addr × Obj)} {σ : L2.St} {H : Hp} {z : Shared} {Q : VK} {us : List Value} {xs : List V} (hG : X.A.guards = some []) (F : FnG X.prog X.w X.K X.mg X.base CX k f fd ps sp) (hr : Room k X.A) (hb : Binds X.K fd ps ds) (hd : Vals dvs ds) (hx : Passes CX X E)
    (I : Inv X pins σ H z) (r : Vals xs us) (h : sp (xs ++ dvs) H Q E) : wpAny (model X.prog X.w) X.A (call (.ref f) us) (EP X pins σ Q) X.xe z := by
  have r2 : Vals (xs ++ dvs) (us ++ ds) := r.append hd
  refine wpAny_call (codeAny_mono (F.run X.A X.stack z H ⟨us, []⟩ (us ++ ds) (xs ++ dvs) Q E hG hr I.env0 (hb z us I.kIn (by rw [← r2.length]; exact F.len _ _ _ _ h)) r2 h) fun r z' hq => ?_)
  cases r with
  | error e => exact hx pins σ H z e z' I hq
  | ok fl => cases fl with
    | ret u => exact I.after hq
    | next => exact hq.elim
    | brk => exact hq.elim
    | cont => exact hq.elim
theorem pe_callG (hG : X.A.guards = some []) (F : FnG X.prog X.w X.K X.mg X.base CX k f fd ps sp) (hr : Room k X.A) (hg : Gl X x) (hm : X.mg x = some (.ref f)) (hk : PySem.W.keepIn X.K (.ref f) = true) (hb : Binds X.K fd ps ds) (hd : Vals dvs ds) (hx : Passes CX X E) (ha : PA X (e :: es) t)
    (hdb : (x == ("__debug__" : Str)) = false := by decide) (he : starEach (e :: es) X.env = (false, eval e X.env) :: starEach es X.env := by rfl) (hpl : (backTo pos (starEach es X.env)).any (·.1) = false := by rfl) : PE X (.Call (.Name x p) (e :: es) [] pos) (tCall sp dvs E t) :=
  ⟨fun pins z σ H Q I h => wpAny_Call_Name_kw (ld_glob I hg hm (PySem.W.callWith_K (h₀ := X.base) I.ok.mod.kin hk (thn (ha.run pos pins z σ H _ I h) fun us z1 ⟨xs, H1, I1, r, q⟩ => ⟨I1.kIn, runG hG F hr hb hd hx I1 r q⟩) he hpl) hdb)⟩
/-- repr of data -/
def rRepr (K : PySem.W.Frag) : List V → Hp → VK → Prop := fun xs H Q => ∃ (x : V) (d : PyData), xs = [x] ∧ Dp K H x d ∧ d.showable = true ∧ d.hasDict = false ∧ d.depth ≤ 100 ∧ d.shown.length ≤ sizeLine ∧ Q (.str d.shown) H
theorem call_reprD {k : Nat} (hG : X.A.guards = some []) (hr : Room k X.A) : CallR X (.builtin "repr") (rRepr X.K) := by
  intro pins z σ H xs us Q I r h
  obtain ⟨x, d, rfl, hd, hs, hn, hdp, hl, q⟩ := h
  obtain ⟨u, rfl, ru⟩ := vals1 r
  obtain ⟨as, hrd⟩ := Dp.reads I d x u hd ru
  have hu : X.A.units + (d.depth + 1) < cLine := by have := hr.un; omega
  cases hrd with
  | none => exact PySem.P.repr_of_none ⟨.str _, H, I.tok _, ⟨_, rfl⟩, q⟩
  | bool b => exact PySem.P.repr_of_bool ⟨.str _, H, I.tok _, ⟨_, rfl⟩, q⟩
  | int i t => exact PySem.P.repr_of_int (of_decide_eq_true hs) ⟨.str _, H, I.tok _, ⟨_, rfl⟩, q⟩
  | str y t => exact PySem.P.repr_of_str ⟨.str _, H, I.tok _, ⟨_, rfl⟩, q⟩
  | list h1 h2 h3 h4 => exact PySem.repr_of_reads' (.list h1 h2 h3 h4) hs (fun e => by rw [hn] at e; cases e) hG hu (fun _ _ e => e) (fun g tk tk2 hk => ⟨.str _, H, I.kept hk, ⟨_, rfl⟩, q⟩) hl
  | tuple h1 h2 h3 h4 => exact PySem.repr_of_reads' (.tuple h1 h2 h3 h4) hs (fun e => by rw [hn] at e; cases e) hG hu (fun _ _ e => e) (fun g tk tk2 hk => ⟨.str _, H, I.kept hk, ⟨_, rfl⟩, q⟩) hl
  | dict h1 h2 h3 h4 h5 => cases hn
end
/-! ### the law's own call -/
theorem lawG {P : Program} {w : World} {K : PySem.W.Frag} {mg mb : Str → Option Value} {CX : CXT} {k : Nat} {fa a : Addr} {fd : FuncData} {x : Str} {sp : Sp} {z : Shared} {vs : List Value} {ns : List Int} (KX : K.In z.heap) (hns : z.heap.Ns mainGlobals mg) (hb : z.heap.Ns builtinsNs mb)
    (hbb : ∀ x : Str, x ≠ "__name__" → mb x = bootBuiltins x) (hlim : z.heap.NoLimit) (hg : z.gens = #[]) (ha : z.heap.get? a = some { cls := .type "list", data := .seq vs.toArray }) (hi : IntsAre vs ns) (hl : ns.length ≤ sizeLine) (hr : Room k callerA)
    (F : ∀ base : Heap, K.In base → base.Ns mainGlobals mg → FnG P w K mg base CX k fa fd [x] sp) (hbind : ∀ (s : Shared) (u : Value), BindsTo s fd ⟨[u], []⟩ [(x, u)]) (hsp : ∀ H : Hp, Only H → SqL K H a (ns.map V.int) → sp [.ref a] H (fun v _ => v = .bl true) fun _ _ _ => False)
    (hCX : ∀ H e s', CX [] H z (fun _ _ _ => False) e s' → False) : codeAny (model P w) callerA (.call (.ref fa) ⟨[.ref a], []⟩) (fun r s' => r = .ok (.ret (.bool true)) ∧ OldK z.heap s'.heap ∧ s'.os = z.os ∧ AllBare s'.gens) z := by
  have rv := vals_ints hi
  have lv := hi.length
  have main : ∀ H : Hp, Only H → SqL K H a (ns.map V.int) → HOk P w H z.heap → (∀ b, H b ≠ none → b = a) → (H a ≠ none → K.lookup a = none) → codeAny (model P w) callerA (.call (.ref fa) ⟨[.ref a], []⟩) (fun r s' => r = .ok (.ret (.bool true)) ∧ OldK z.heap s'.heap ∧ s'.os = z.os ∧ AllBare s'.gens) z := by
    intro H hO hS hok hA hK
    have notA : ∀ {b : Addr} {o : Obj} {es : Array DictEntry} {ep : Nat}, z.heap.get? b = some o → o.data = .dict es ep → H b = none := fun {b o es ep} e d => by
      cases hq : H b with
      | none => rfl
      | some u =>
        have eb : b = a := hA b (by rw [hq]; simp)
        rw [eb, ha] at e; cases e
        cases (show Data.seq vs.toArray _ = Data.dict es ep from d)
    have carry : ∀ {b : Addr} {m : Str → Option Value}, z.heap.Ns b m → (hidT z.heap H).Ns b m := fun {b m} ⟨o, es, ep, e, d, r⟩ => ⟨o, es, ep, hidT_get e (notA e d), d, r⟩
    have inB : K.In (hidT z.heap H) := fun b o e => hidT_get (KX b o e) (by
      cases hq : H b with
      | none => rfl
      | some u =>
        have eb : b = a := hA b (by rw [hq]; simp)
        rw [eb] at e hq
        rw [hK (by rw [hq]; simp)] at e; cases e)
    have md : Mod K mg (hidT z.heap H) := ⟨inB, carry hns, ⟨mb, carry hb, hbb⟩, let ⟨mc, h1, h2⟩ := hlim; ⟨mc, carry h1, h2⟩⟩
    have ev : Env0 P w K mg (hidT z.heap H) callerA [] z H := ⟨rfl, md, fun b o e => of_hidT e, Nat.le_of_eq (hidT_size _ _), trivial, fun b hb => absurd (show b ∈ ([] : List Addr) from hb) (by simp), hok, .of_eq hg⟩
    refine codeAny_mono ((F _ inB (carry hns)).run callerA [] z H ⟨[.ref a], []⟩ [.ref a] [.ref a] _ _ rfl hr ev (hbind z (.ref a)) (.cons rfl .nil) (hsp H hO hS)) fun r s' h => ?_
    cases r with
    | error e => exact (hCX H e s' h).elim
    | ok fl => cases fl with
      | next => exact h.elim
      | brk => exact h.elim
      | cont => exact h.elim
      | ret u =>
        obtain ⟨v, H', os, bare, un, hok', r', q⟩ := h
        cases (show v = .bl true from q)
        cases (show u = Value.bool true from r')
        refine ⟨rfl, OldK.of_keep fun b o e => ?_, os, bare⟩
        cases hq : H b with
        | none => exact un.keep b o e hq (fun y => absurd (show b ∈ ([] : List Addr) from y) (by simp)) (by simp)
        | some u => rcases hO b with y | ⟨ob, xs, y⟩
                    · rw [hq] at y; cases y
                    · obtain ⟨e1, _⟩ := hok b _ y
                      obtain ⟨e2, _⟩ := hok' b _ (un.frzs b ob _ y)
                      rw [e] at e1; cases e1
                      exact e2
  cases hk : K.lookup a with
  | some o =>
    have e := KX a o hk
    rw [ha] at e
    cases e
    exact main (fun _ => none) (fun _ => .inl rfl) (.inr ⟨_, vs.toArray, _, hk, rfl, rfl, rfl, by rw [List.size_toArray, lv]; exact hl, by simpa using rv⟩) (fun b u y => nomatch (show (none : Option HO) = some u from y)) (fun b y => absurd rfl y) fun y => absurd rfl y
  | none =>
    refine main (fun b => if b = a then some (.frz { cls := .type "list", data := .seq vs.toArray } (.lst (ns.map V.int))) else none) (fun b => ?_) (.inl (.inr ⟨{ cls := .type "list", data := .seq vs.toArray }, if_pos rfl⟩)) (fun b u y => ?_) (fun b y => ?_) fun _ => hk
    all_goals by_cases hb : b = a
    · exact .inr ⟨_, _, if_pos hb⟩
    · exact .inl (if_neg hb)
    · cases (if_pos hb).symm.trans y
      subst hb
      exact ⟨ha, by rw [List.length_map]; exact hl, vs, _, rv, ha⟩
    · cases (if_neg hb).symm.trans y
    · exact hb
    · exact absurd (if_neg hb) y
theorem walkG {l : PySem.W.OpenLaw} {n k : Nat} {q : Program} {loose : List Str} {XP : (Str → Option Value) → Heap → Prop} {YP : World → Heap → Prop} {d : DefRec} {K : Params → PySem.W.Frag} {CX : World → CXT} {sp : World → Sp} {x : Str} (hn : l.most = some n) (hn2 : n ≤ sizeLine) (hdf : d.params.defaults = [])
    (hr : Room k callerA) (hY : ∀ (w : World) (h : Heap), YP w h → (K w.params).In h)
    (F : ∀ (w : World) (mg : Str → Option Value) (fa : Addr) (h : Heap), (K w.params).In h → h.Ns mainGlobals mg → mg d.name = some (.ref fa) → ∃ fd : FuncData, (∀ (s : Shared) (u : Value), BindsTo s fd ⟨[u], []⟩ [(x, u)]) ∧ ∀ base : Heap, (K w.params).In base → base.Ns mainGlobals mg → FnG l.prog w (K w.params) mg base (CX w) k fa fd [x] (sp w))
    (hsp : ∀ (w : World) (H : Hp) (a : Addr) (ns : List Int), ns.length ≤ n → Only H → SqL (K w.params) H a (ns.map V.int) → sp w [.ref a] H (fun v _ => v = .bl true) fun _ _ _ => False) (hCX : ∀ (w : World) (H : Hp) (s : Shared) (e : Value) (s' : Shared), CX w [] H s (fun _ _ _ => False) e s' → False) :
    PySem.W.WalkO q loose XP YP l.row.toRowW d [] (fun f vs => PySem.call f vs) := by
  refine Att.attach_call hn hdf fun w s0 s1 mg mb fa o pm cd doc a vs ns G Y ho hd hcd hmg hobj hints hlen hg => ?_
  obtain ⟨fd, hb, hF⟩ := F w mg fa _ (hY w _ Y) G.T.g hmg
  exact lawG (hY w _ Y) G.T.g G.T.b G.T.builtins G.T.nolimit hg hobj hints (Nat.le_trans hlen hn2) hr hF hb (fun H hO hS => hsp w H a ns hlen hO hS) fun H e s' => hCX w H s1 e s'
end DD

set_option Elab.async false
set_option linter.all false
set_option maxRecDepth 100000
set_option maxHeartbeats 4000000
namespace DD
open PySem PySem.Spec PyProof.Rows L2
/-! ### a def's promise -/
section
variable {P : Program} {w : World} {K : PySem.W.Frag} {mg : Str → Option Value} {base : Heap} {k : Nat} {f : Addr} {fd : FuncData} {N ps : List Str} {x qual : Str} {st : Stmt} {Sp : SpecD}
def rho0 (N : List Str) (ds : List DV) : Rho := ds.map Option.some ++ List.replicate (N.length - ds.length) Option.none
theorem spD_len (len : ∀ ds M R, Sp ds M R → ds.length = ps.length) : ∀ vs H Q E, spD K Sp vs H Q E → vs.length = ps.length := fun vs H Q E ⟨F, N, M, ds, R, w, r, hs, q⟩ => by rw [r.length]; exact len ds M R hs
theorem fnD_core {H : Hp} {vs : List V} {Q : VK} {E : XK} {X : Cx} {body : List Stmt} (h : spD K Sp vs H Q E)
    (hb : ∀ ds M R, Sp ds M R → ∃ t, PSs X body t ∧ XS K t (rho0 N ds) M { nx := fun _ M' => R .non M', rt := R }) : ∃ t, PSs X body t ∧ t { nx := fun _ H' => Q .non H', rt := Q } (L2.start N vs) H := by
  obtain ⟨F, N0, M, ds, R, w, r, hs, q⟩ := h
  obtain ⟨t, ht, hx⟩ := hb ds M R hs
  refine ⟨t, ht, hx N0 F (L2.start N vs) H _ ⟨w, ?_, True.intro⟩ ⟨fun F' σ' H' ρ' M' e h1 S => q .non .non M' F' H' e h1 S.w .non, fun v F' H' d M' e h1 w1 r1 => q v d M' F' H' e h1 w1 r1, fun _ _ _ _ _ _ z => z.elim, fun _ _ _ _ _ _ z => z.elim⟩⟩
  have := EnvD.start r (N.length - ds.length)
  unfold L2.start rho0
  rw [r.length]
  exact this
theorem fnD (F : Fun K x qual st f fd) (S : FnScope N ps (defScope st)) (len : ∀ ds M R, Sp ds M R → ds.length = ps.length)
    (hb : ∀ (cdv : Value) (A : Around) (up : List Env) (z : Shared) (H : Hp) (E : XK), Room k (A.deeper (envOfC qual (defScope st) z.heap.objs.size f cdv)) → ∀ ds M R, Sp ds M R →
      ∃ t, PSs (cxOf CX0 P w K mg base N qual (defScope st) f cdv A up z H E).nox (defBody st) t ∧ XS K t (rho0 N ds) M { nx := fun _ M' => R .non M', rt := R }) : FnOk P w K mg base CX0 (k + 1) f fd ps (spD K Sp) :=
  F.ok S (spD_len len) fun cdv A up z H vs Q E hr h => fnD_core h fun ds M R hs => hb cdv A up z H E hr ds M R hs
theorem fnDG (F : Fun K x qual st f fd) (S : FnScope N ps (defScope st)) (len : ∀ ds M R, Sp ds M R → ds.length = ps.length)
    (hb : ∀ (cdv : Value) (A : Around) (up : List Env) (z : Shared) (H : Hp) (E : XK), (A.deeper (envOfC qual (defScope st) z.heap.objs.size f cdv)).guards = some [] → Room k (A.deeper (envOfC qual (defScope st) z.heap.objs.size f cdv)) → ∀ ds M R, Sp ds M R →
      ∃ t, PSs (cxOf CX0 P w K mg base N qual (defScope st) f cdv A up z H E).nox (defBody st) t ∧ XS K t (rho0 N ds) M { nx := fun _ M' => R .non M', rt := R }) : FnG P w K mg base CX0 (k + 1) f fd ps (spD K Sp) :=
  fun_okG F S (spD_len len) fun cdv A up z H vs Q E hg hr h => fnD_core h fun ds M R hs => hb cdv A up z H E hg hr ds M R hs
end
/-! ### either of two rules -/
theorem pe_or2 {X : Cx} {e : Expr} {t u : TE} (h1 : PE X e t) (h2 : PE X e u) : PE X e (tOr2 t u) := ⟨fun pins s σ H Q I h => h.elim (h1.run pins s σ H Q I) (h2.run pins s σ H Q I)⟩
theorem callR_or {X : Cx} {f : Value} {r r' : List V → Hp → VK → Prop} (h1 : CallR X f r) (h2 : CallR X f r') : CallR X f (fun xs H Q => r xs H Q ∨ r' xs H Q) := fun pins s σ H xs us Q I r h => h.elim (h1 pins s σ H xs us Q I r) (h2 pins s σ H xs us Q I r)
/-! ### operators -/
def rAddS : R2 := fun x y H Q => ∃ i j, x = .str i ∧ y = .str j ∧ i.length + j.length ≤ sizeLine ∧ Q (.str (i ++ j)) H
def rAddU (K : PySem.W.Frag) : R2 := fun x y H Q => rI0 (fun i j => .int (i + j)) x y H Q ∨ (rAddS x y H Q ∨ (rCatA K x y H Q ∨ rCat x y H Q))
theorem op_addU {X : Cx} : OpR X (binaryOp .Add) (rAddU X.K) := OpR.or op_add (OpR.or op_add_str (OpR.or op_catA op_cat))
def rMulU (K : PySem.W.Frag) : R2 := fun x y H Q => rI CMul (fun i j => .int (i * j)) x y H Q ∨ (rRepT K x y H Q ∨ (rRep x y H Q ∨ EX.rRep01 K x y H Q))
theorem op_mulU {X : Cx} : OpR X (binaryOp .Mult) (rMulU X.K) := OpR.or op_mul (OpR.or op_repT (OpR.or op_rep EX.op_rep01))
section
variable {K : PySem.W.Frag} {M : Ms} {x y z d : DV} {ds es : List DV} {R : DV → Ms → Prop}
theorem rv_add {i j : Int} : RV K (rAddU K) (.int i) (.int j) M (.int (i + j)) := fun N F u v H w h1 h2 Q q => .inl ⟨i, j, h1.int_of, h2.int_of, q _ _ M F H (Evl.Ex.refl F) ⟨rfl, rfl⟩ w (.int _)⟩
theorem rv_addS {i j : Str} (h : i.length + j.length ≤ 100000) : RV K (rAddU K) (.str i) (.str j) M (.str (i ++ j)) := fun N F u v H w h1 h2 Q q => .inr (.inl ⟨i, j, h1.str_of, h2.str_of, Evl.sz_of h, q _ _ M F H (Evl.Ex.refl F) ⟨rfl, rfl⟩ w (.str _)⟩)
theorem rv_addT (h : ds.length + es.length ≤ 100000) : RV K (rAddU K) (.tup ds) (.tup es) M (.tup (ds ++ es)) := fun N F u v H w h1 h2 Q q => .inr (.inr (.inl (by
  obtain ⟨a, xs, rfl, ha, ra⟩ := h1.tup_of
  obtain ⟨b, ys, rfl, hb, rb⟩ := h2.tup_of
  refine ⟨a, b, xs, ys, rfl, rfl, Evl.ex_t w.fr ha, Evl.ex_t w.fr hb, Evl.sz_of (by rw [ra.length, rb.length]; exact h), fun e => ?_, fun _ e => ?_, fun _ _ p hp => ?_⟩
  · subst e; cases ra; exact q _ _ M F H (Evl.Ex.refl F) ⟨rfl, rfl⟩ w (.tup hb rb)
  · subst e; cases rb; exact q _ _ M F H (Evl.Ex.refl F) ⟨by rw [List.append_nil], rfl⟩ w (.tup ha ra)
  · have hn := w.fresh hp
    exact q _ _ M _ _ (ex_new hn) ⟨rfl, rfl⟩ (w.new hp _) (.tup (SqT.of upd_same) ((ra.append rb).mono (ex_new hn))))))
theorem rv_addL (h : ds.length + es.length ≤ 100000) : RV K (rAddU K) (.lst ds) (.lst es) M (.lst (ds ++ es)) := fun N F u v H w h1 h2 Q q => .inr (.inr (.inr (by
  obtain ⟨a, xs, rfl, ha, ra⟩ := h1.lst_of
  obtain ⟨b, ys, rfl, hb, rb⟩ := h2.lst_of
  refine ⟨a, b, xs, ys, rfl, rfl, w.fr _ _ ha, w.fr _ _ hb, Evl.sz_of (by rw [ra.length, rb.length]; exact h), fun p hp => ?_⟩
  have hn := w.fresh hp
  exact q _ _ M _ _ (ex_new hn) ⟨rfl, rfl⟩ (w.new hp _) (.lst upd_same ((ra.append rb).mono (ex_new hn))))))
theorem rv_mul {i j : Int} (h : CMul i j) : RV K (rMulU K) (.int i) (.int j) M (.int (i * j)) := fun N F u v H w h1 h2 Q q => .inl ⟨i, j, h1.int_of, h2.int_of, h, q _ _ M F H (Evl.Ex.refl F) ⟨rfl, rfl⟩ w (.int _)⟩
/-- int op int, an int -/
theorem rv_I0 {g : Int → Int → Int} {i j : Int} : RV K (rI0 fun i j => .int (g i j)) (.int i) (.int j) M (.int (g i j)) := fun N F u v H w h1 h2 Q q => ⟨i, j, h1.int_of, h2.int_of, q _ _ M F H (Evl.Ex.refl F) ⟨rfl, rfl⟩ w (.int _)⟩
theorem rv_B0 {g : Int → Int → Bool} {i j : Int} : RV K (rI0 fun i j => .bl (g i j)) (.int i) (.int j) M (.bl (g i j)) := fun N F u v H w h1 h2 Q q => ⟨i, j, h1.int_of, h2.int_of, q _ _ M F H (Evl.Ex.refl F) ⟨rfl, rfl⟩ w (.bl _)⟩
theorem rv_I {C : Int → Int → Prop} {g : Int → Int → Int} {i j : Int} (h : C i j) : RV K (rI C fun i j => .int (g i j)) (.int i) (.int j) M (.int (g i j)) := fun N F u v H w h1 h2 Q q => ⟨i, j, h1.int_of, h2.int_of, h, q _ _ M F H (Evl.Ex.refl F) ⟨rfl, rfl⟩ w (.int _)⟩
theorem ru_neg {i : Int} : RU K (rU fun i => .int (-i)) (.int i) M (.int (-i)) := fun N F u H w h1 Q q => ⟨i, h1.int_of, q _ _ M F H (Evl.Ex.refl F) ⟨rfl, rfl⟩ w (.int _)⟩
/-! ### data of the library's own kind -/
mutual
def toPy : DV → Option PyData
  | .non => some .none
  | .bl b => some (.bool b)
  | .int i => some (.int i)
  | .str s => some (.str s)
  | .tup xs => (toPyA xs).map .tuple
  | .lst xs => (toPyA xs).map .list
  | .ins _ _ => none
  | .rd _ => none
  | .raw _ => none
  | .dic => none
  | .exn _ _ => none
  | .dki _ => none
  | .tx _ => none
def toPyA : List DV → Option (List PyData)
  | [] => some []
  | x :: xs => match toPy x, toPyA xs with
    | some y, some ys => some (y :: ys)
    | _, _ => none
end
mutual
theorem Rp.dp {F H : Hp} (e : Ex F H) : ∀ {v : V} {d : DV} {p : PyData}, Rp K F v d → toPy d = some p → Dp K H v p
  | _, _, _, .non, h => by cases h; exact .non
  | _, _, _, .bl b, h => by cases h; exact .bl b
  | _, _, _, .int i, h => by cases h; exact .int i
  | _, _, _, .str s, h => by cases h; exact .str s
  | _, _, _, .raw v, h => by cases h
  | _, _, _, .ins _ _, h => by cases h
  | _, _, _, .rd _ _, h => by cases h
  | _, _, _, .dic _, h => by cases h
  | _, _, _, .exn _ _ _, h => by cases h
  | _, _, _, .dki _, h => by cases h
  | _, _, _, .tx _ _ _, h => by cases h
  | _, _, p, .tup (ds := ds) hs r, h => by
    unfold toPy at h
    cases hq : toPyA ds with
    | none => rw [hq] at h; cases h
    | some ps => rw [hq] at h; cases h; exact .tup (Evl.ex_t e hs) (RpA.dp e r hq)
  | _, _, p, .lst (ds := ds) hs r, h => by
    unfold toPy at h
    cases hq : toPyA ds with
    | none => rw [hq] at h; cases h
    | some ps => rw [hq] at h; cases h; exact .lst (SqL.of (e _ _ hs)) (RpA.dp e r hq)
theorem RpA.dp {F H : Hp} (e : Ex F H) : ∀ {vs : List V} {ds : List DV} {ps : List PyData}, RpA K F vs ds → toPyA ds = some ps → DpAll K H vs ps
  | _, _, _, .nil, h => by cases h; exact .nil
  | _, _, ps, .cons (d := d) (ds := ds) h1 t, h => by
    unfold toPyA at h
    cases hq : toPy d with
    | none => rw [hq] at h; cases h
    | some y => cases hq2 : toPyA ds with
      | none => rw [hq, hq2] at h; cases h
      | some ys => rw [hq, hq2] at h; cases h; exact .cons (Rp.dp e h1 hq) (RpA.dp e t hq2)
end
def rEqU (K : PySem.W.Frag) : R2 := fun x y H Q => rEq x y H Q ∨ rEqD K x y H Q
def rNeU (K : PySem.W.Frag) : R2 := fun x y H Q => rNe x y H Q ∨ rNeD K x y H Q
theorem op_eqU {X : Cx} {k : Nat} (hr : Room k X.A) : OpR X (compareOp .Eq) (rEqU X.K) := OpR.or op_eq (op_eqD hr.units)
theorem op_neU {X : Cx} {k : Nat} (hr : Room k X.A) : OpR X (compareOp .NotEq) (rNeU X.K) := OpR.or op_ne (op_neD hr.units)
theorem rv_eqD {p q : PyData} (hx : toPy x = some p) (hy : toPy y = some q) (sx : SeqAt.shaped p = true) (sy : SeqAt.shaped q = true) : RV K (rEqU K) x y M (.bl (PyData.eqv p q)) := fun N F u v H w h1 h2 Q k => .inr ⟨p, q, h1.dp w.fr hx, h2.dp w.fr hy, sx, sy, k _ _ M F H (Evl.Ex.refl F) ⟨rfl, rfl⟩ w (.bl _)⟩
theorem rv_neD {p q : PyData} (hx : toPy x = some p) (hy : toPy y = some q) (sx : SeqAt.shaped p = true) (sy : SeqAt.shaped q = true) : RV K (rNeU K) x y M (.bl (!PyData.eqv p q)) := fun N F u v H w h1 h2 Q k => .inr ⟨p, q, h1.dp w.fr hx, h2.dp w.fr hy, sx, sy, k _ _ M F H (Evl.Ex.refl F) ⟨rfl, rfl⟩ w (.bl _)⟩
theorem rv_eqI {i j : Int} : RV K (rEqU K) (.int i) (.int j) M (.bl (decide (i = j))) := fun N F u v H w h1 h2 Q k => by
  cases h1.int_of
  cases h2.int_of
  exact .inl ⟨rfl, k _ _ M F H (Evl.Ex.refl F) ⟨rfl, rfl⟩ w (by simp only [V.int.injEq]; exact .bl _)⟩
theorem rv_neI {i j : Int} : RV K (rNeU K) (.int i) (.int j) M (.bl (!decide (i = j))) := fun N F u v H w h1 h2 Q k => by
  cases h1.int_of
  cases h2.int_of
  exact .inl ⟨rfl, k _ _ M F H (Evl.Ex.refl F) ⟨rfl, rfl⟩ w (by simp only [V.int.injEq]; exact .bl _)⟩
theorem rv_eqS {i j : Str} : RV K (rEqU K) (.str i) (.str j) M (.bl (decide (i = j))) := fun N F u v H w h1 h2 Q k => by
  cases h1.str_of
  cases h2.str_of
  exact .inl ⟨rfl, k _ _ M F H (Evl.Ex.refl F) ⟨rfl, rfl⟩ w (by simp only [V.str.injEq]; exact .bl _)⟩
theorem rv_neS {i j : Str} : RV K (rNeU K) (.str i) (.str j) M (.bl (!decide (i = j))) := fun N F u v H w h1 h2 Q k => by
  cases h1.str_of
  cases h2.str_of
  exact .inl ⟨rfl, k _ _ M F H (Evl.Ex.refl F) ⟨rfl, rfl⟩ w (by simp only [V.str.injEq]; exact .bl _)⟩
theorem rv_eqB {i j : Bool} : RV K (rEqU K) (.bl i) (.bl j) M (.bl (decide (i = j))) := fun N F u v H w h1 h2 Q k => by
  cases h1.bl_of
  cases h2.bl_of
  exact .inl ⟨rfl, k _ _ M F H (Evl.Ex.refl F) ⟨rfl, rfl⟩ w (by simp only [V.bl.injEq]; exact .bl _)⟩
theorem rv_neB {i j : Bool} : RV K (rNeU K) (.bl i) (.bl j) M (.bl (!decide (i = j))) := fun N F u v H w h1 h2 Q k => by
  cases h1.bl_of
  cases h2.bl_of
  exact .inl ⟨rfl, k _ _ M F H (Evl.Ex.refl F) ⟨rfl, rfl⟩ w (by simp only [V.bl.injEq]; exact .bl _)⟩
/-- is this None -/
def isNon : DV → Bool
  | .non => true
  | .raw v => decide (v = .non)
  | _ => false
theorem Rp.non_iff {F : Hp} {v : V} (h : Rp K F v d) : decide (v = .non) = isNon d := by cases h <;> first | rfl | simp [isNon]
def rIsN : R2 := fun x y H Q => y = .non ∧ Q (.bl (decide (x = .non))) H
def rNotN : R2 := fun x y H Q => y = .non ∧ Q (.bl (!decide (x = .non))) H
theorem op_isN' {X : Cx} : OpR X (compareOp .Is) rIsN := op_isN
theorem op_notN' {X : Cx} : OpR X (compareOp .IsNot) rNotN := op_notN
theorem rv_isN : RV K rIsN d .non M (.bl (isNon d)) := fun N F u v H w h1 h2 Q k => ⟨h2.non_of, by rw [h1.non_iff]; exact k _ _ M F H (Evl.Ex.refl F) ⟨rfl, rfl⟩ w (.bl _)⟩
theorem rv_notN : RV K rNotN d .non M (.bl (!isNon d)) := fun N F u v H w h1 h2 Q k => ⟨h2.non_of, by rw [h1.non_iff]; exact k _ _ M F H (Evl.Ex.refl F) ⟨rfl, rfl⟩ w (.bl _)⟩
/-! ### subscripts, slices -/
theorem atI_rpa {F : Hp} {vs : List V} {i : Int} (r : RpA K F vs ds) (h : atI ds i = some d) : ∃ v, atI vs i = some v ∧ Rp K F v d := by
  unfold atI at h ⊢
  rw [r.length]
  cases hj : ixN ds.length i with
  | none => rw [hj] at h; cases h
  | some j =>
    rw [hj] at h
    exact r.get (i := j) (x := d) h
theorem rv_ixT {i : Int} (h : atI ds i = some d) : RV K (rIx K) (.tup ds) (.int i) M d := fun N F u v H w h1 h2 Q k => by
  obtain ⟨a, xs, rfl, ha, ra⟩ := h1.tup_of
  obtain ⟨y, hy, ry⟩ := atI_rpa ra h
  exact .inr (.inl ⟨a, xs, i, y, rfl, h2.int_of, Evl.ex_t w.fr ha, hy, k _ _ M F H (Evl.Ex.refl F) ⟨rfl, rfl⟩ w ry⟩)
theorem rv_ixL {i : Int} (h : atI ds i = some d) : RV K (rIx K) (.lst ds) (.int i) M d := fun N F u v H w h1 h2 Q k => by
  obtain ⟨a, xs, rfl, ha, ra⟩ := h1.lst_of
  obtain ⟨y, hy, ry⟩ := atI_rpa ra h
  exact .inl ⟨a, xs, i, y, rfl, h2.int_of, SqL.of (w.fr _ _ ha), hy, k _ _ M F H (Evl.Ex.refl F) ⟨rfl, rfl⟩ w ry⟩
theorem rv_ixR {i : Int} (h : atI ds i = some d) : RV K (rIx K) (.rd ds) (.int i) M d := fun N F u v H w h1 h2 Q k => by
  obtain ⟨a, xs, rfl, ha, ra⟩ := h1.rd_of
  obtain ⟨y, hy, ry⟩ := atI_rpa ra h
  exact .inl ⟨a, xs, i, y, rfl, h2.int_of, Evl.ex_l w.fr ha, hy, k _ _ M F H (Evl.Ex.refl F) ⟨rfl, rfl⟩ w ry⟩
theorem rv_ixC {i : Int} {a : Addr} (hm : (a, MO.lst ds) ∈ M) (h : atI ds i = some d) : RV K (rIx K) (.raw (.ref a)) (.int i) M d := fun N F u v H w h1 h2 Q k => by
  cases h1.raw_of
  obtain ⟨_, xs, hx, rx⟩ := w.ce a _ (List.mem_append_right N hm)
  obtain ⟨y, hy, ry⟩ := atI_rpa rx h
  exact .inl ⟨a, xs, i, y, rfl, h2.int_of, SqL.of hx, hy, k _ _ M F H (Evl.Ex.refl F) ⟨rfl, rfl⟩ w ry⟩
def EvO (K : KB) (to : TO) (ρ : Rho) (M : Ms) (o : Option Int) : Prop := ∀ (N : Ms) (F : Hp) (σ : L2.St) (H : Hp), Sb K N F M ρ σ H → ∀ Q : Option Int → Hp → Prop, (∀ F' H', Ex F F' → Wd K F' (N ++ M) H' → Q o H') → to σ H Q
variable {ρ : Rho} {te : TE} {tl th : TO} {lo hi : Option Int}
theorem eo_none {K : KB} : EvO K tNoPart ρ M none := fun N F σ H S Q q => q F H (Evl.Ex.refl F) S.w
theorem eo_some {K : KB} {i : Int} (h : Ev K te ρ M (.int i)) : EvO K (tPart te) ρ M (some i) := fun N F σ H S Q q => h N F σ H S _ fun v d M' F' H' e ⟨h1, h2⟩ w r => by
  subst h1 h2; exact ⟨i, r.int_of, q F' H' e w⟩
/-- cutV, of data -/
def cutL (xs : List DV) (lo hi : Option Int) : List DV := (xs.drop (HT.sIx xs.length 0 lo)).take (HT.sIx xs.length xs.length hi - HT.sIx xs.length 0 lo)
theorem cut_rpa {F : Hp} {vs : List V} (r : RpA K F vs ds) : RpA K F (cutV vs lo hi) (cutL ds lo hi) := by
  unfold cutV cutL
  rw [r.length]
  exact (r.drop _).take _
def rSlU (K : PySem.W.Frag) : V → Option Int → Option Int → Hp → VK → Prop := fun x lo hi H Q => rSlA K x lo hi H Q ∨ rSlL K x lo hi H Q
theorem sl_U {X : Cx} : SlR X (rSlU X.K) := SlR.or sl_tupA sl_list
theorem ev_slT {K : KB} (h : Ev K te ρ M (.tup ds)) (h1 : EvO K tl ρ M lo) (h2 : EvO K th ρ M hi) : Ev K (tSl (rSlU K) te tl th) ρ M (.tup (cutL ds lo hi)) := fun N F σ H S Q q => h N F σ H S _ fun v d M' F1 H1 e1 ⟨hd, hm⟩ w1 r1 => by
  subst hd hm
  refine h1 N F1 σ H1 ⟨w1, S.e.mono e1, S.bm e1⟩ _ fun F2 H2 e2 w2 => h2 N F2 σ H2 ⟨w2, S.e.mono (e1.trans e2), S.bm (e1.trans e2)⟩ _ fun F3 H3 e3 w3 => .inl ?_
  have e123 := (e1.trans e2).trans e3
  obtain ⟨a, xs, rfl, ha, ra⟩ := (r1.mono (e2.trans e3)).tup_of
  refine ⟨a, xs, rfl, Evl.ex_t w3.fr ha, fun hz => ?_, fun _ p hp => ?_⟩
  · refine q _ _ _ F3 H3 e123 ⟨?_, rfl⟩ w3 (.tup ha ra)
    unfold cutL
    rw [ra.length] at hz
    rw [hz.1, hz.2, List.drop_zero, Nat.sub_zero, List.take_length]
  · have hn := w3.fresh hp
    exact q _ _ _ _ _ (e123.trans (ex_new hn)) ⟨rfl, rfl⟩ (w3.new hp _) (.tup (SqT.of upd_same) ((cut_rpa ra).mono (ex_new hn)))
theorem ev_slL {K : KB} (h : Ev K te ρ M (.lst ds)) (h1 : EvO K tl ρ M lo) (h2 : EvO K th ρ M hi) : Ev K (tSl (rSlU K) te tl th) ρ M (.lst (cutL ds lo hi)) := fun N F σ H S Q q => h N F σ H S _ fun v d M' F1 H1 e1 ⟨hd, hm⟩ w1 r1 => by
  subst hd hm
  refine h1 N F1 σ H1 ⟨w1, S.e.mono e1, S.bm e1⟩ _ fun F2 H2 e2 w2 => h2 N F2 σ H2 ⟨w2, S.e.mono (e1.trans e2), S.bm (e1.trans e2)⟩ _ fun F3 H3 e3 w3 => .inr ?_
  have e123 := (e1.trans e2).trans e3
  obtain ⟨a, xs, rfl, ha, ra⟩ := (r1.mono (e2.trans e3)).lst_of
  refine ⟨a, xs, rfl, SqL.of (w3.fr _ _ ha), fun p hp => ?_⟩
  have hn := w3.fresh hp
  exact q _ _ _ _ _ (e123.trans (ex_new hn)) ⟨rfl, rfl⟩ (w3.new hp _) (.lst upd_same ((cut_rpa ra).mono (ex_new hn)))
theorem ev_slR {K : KB} (h : Ev K te ρ M (.rd ds)) (h1 : EvO K tl ρ M lo) (h2 : EvO K th ρ M hi) : Ev K (tSl (rSlU K) te tl th) ρ M (.lst (cutL ds lo hi)) := fun N F σ H S Q q => h N F σ H S _ fun v d M' F1 H1 e1 ⟨hd, hm⟩ w1 r1 => by
  subst hd hm
  refine h1 N F1 σ H1 ⟨w1, S.e.mono e1, S.bm e1⟩ _ fun F2 H2 e2 w2 => h2 N F2 σ H2 ⟨w2, S.e.mono (e1.trans e2), S.bm (e1.trans e2)⟩ _ fun F3 H3 e3 w3 => .inr ?_
  have e123 := (e1.trans e2).trans e3
  obtain ⟨a, xs, rfl, ha, ra⟩ := (r1.mono (e2.trans e3)).rd_of
  refine ⟨a, xs, rfl, Evl.ex_l w3.fr ha, fun p hp => ?_⟩
  have hn := w3.fresh hp
  exact q _ _ _ _ _ (e123.trans (ex_new hn)) ⟨rfl, rfl⟩ (w3.new hp _) (.lst upd_same ((cut_rpa ra).mono (ex_new hn)))
/-! ### calls of built-ins -/
theorem rpa1 {F : Hp} {us : List V} (h : RpA K F us [d]) : ∃ u, us = [u] ∧ Rp K F u d := by
  cases h with
  | cons h t => cases t; exact ⟨_, rfl, h⟩
theorem rpa2 {F : Hp} {us : List V} (h : RpA K F us [x, y]) : ∃ u v, us = [u, v] ∧ Rp K F u x ∧ Rp K F v y := by
  cases h with
  | cons h t => cases t with
    | cons h2 t => cases t; exact ⟨_, _, rfl, h, h2⟩
def rLen (K : PySem.W.Frag) : List V → Hp → VK → Prop := fun xs H Q => ∃ x n, xs = [x] ∧ LenV K x H n ∧ Q (.int n) H
theorem call_len' {X : Cx} : CallR X (.builtin "len") (rLen X.K) := call_len
theorem rc_lenT : RC K (rLen K) [.tup ds] M (.int ds.length) := fun N F us H w h Q k => by
  obtain ⟨u, rfl, r⟩ := rpa1 h
  obtain ⟨a, xs, rfl, ha, ra⟩ := r.tup_of
  exact ⟨_, ds.length, rfl, .inr ⟨xs, Evl.ex_t w.fr ha, ra.length.symm⟩, k _ _ M F H (Evl.Ex.refl F) ⟨rfl, rfl⟩ w (.int _)⟩
theorem rc_lenL : RC K (rLen K) [.lst ds] M (.int ds.length) := fun N F us H w h Q k => by
  obtain ⟨u, rfl, r⟩ := rpa1 h
  obtain ⟨a, xs, rfl, ha, ra⟩ := r.lst_of
  exact ⟨_, ds.length, rfl, .inl ⟨xs, SqL.of (w.fr _ _ ha), ra.length.symm⟩, k _ _ M F H (Evl.Ex.refl F) ⟨rfl, rfl⟩ w (.int _)⟩
theorem rc_lenR : RC K (rLen K) [.rd ds] M (.int ds.length) := fun N F us H w h Q k => by
  obtain ⟨u, rfl, r⟩ := rpa1 h
  obtain ⟨a, xs, rfl, ha, ra⟩ := r.rd_of
  exact ⟨_, ds.length, rfl, .inl ⟨xs, Evl.ex_l w.fr ha, ra.length.symm⟩, k _ _ M F H (Evl.Ex.refl F) ⟨rfl, rfl⟩ w (.int _)⟩
theorem rc_lenC {a : Addr} (hm : (a, MO.lst ds) ∈ M) : RC K (rLen K) [.raw (.ref a)] M (.int ds.length) := fun N F us H w h Q k => by
  obtain ⟨u, rfl, r⟩ := rpa1 h
  cases r.raw_of
  obtain ⟨_, xs, hx, rx⟩ := w.ce a _ (List.mem_append_right N hm)
  exact ⟨_, ds.length, rfl, .inl ⟨xs, SqL.of hx, rx.length.symm⟩, k _ _ M F H (Evl.Ex.refl F) ⟨rfl, rfl⟩ w (.int _)⟩
theorem rc_lenS {s : Str} (hl : s.length ≤ 100000) : RC K (rLen K) [.str s] M (.int s.length) := fun N F us H w h Q k => by
  obtain ⟨u, rfl, r⟩ := rpa1 h
  cases r.str_of
  exact ⟨_, s.length, rfl, ⟨Evl.sz_of hl, rfl⟩, k _ _ M F H (Evl.Ex.refl F) ⟨rfl, rfl⟩ w (.int _)⟩
/-- isinstance of a built-in type -/
def tyN : DV → Option String
  | .non => some "NoneType"
  | .bl _ => some "bool"
  | .int _ => some "int"
  | .str _ => some "str"
  | .tup _ => some "tuple"
  | .lst _ => some "list"
  | .dic => some "dict"
  | .dki _ => some "dict"
  | _ => none
theorem Rp.tyX {F H : Hp} {v : V} {T : String} (r : Rp K F v d) (e : Ex F H) (h : tyN d = some T) : TyX K H v (.type T) := by
  cases r with
  | non => cases h; exact .base .non
  | bl b => cases h; exact .base (.bl b)
  | int i => cases h; exact .base (.int i)
  | str s => cases h; exact .base (.str s)
  | raw v => cases h
  | ins h1 h2 => cases h
  | rd h1 h2 => cases h
  | exn h1 h2 h3 => cases h
  | dki h1 => cases h; exact .fDict (e _ _ h1)
  | tx h1 h2 h3 => cases h
  | lst h1 h2 => cases h; exact .base (.lst (e _ _ h1))
  | dic h1 => cases h; exact .base (.dK (e _ _ h1))
  | tup h1 h2 =>
    cases h
    rcases Evl.ex_t e h1 with (q | ⟨o, q⟩) | ⟨o, vs, n, q⟩
    · exact .base (.tup q)
    · exact .fTuple q
    · exact .kTuple q.1 q.2.1
theorem rc_isi {T n : String} {b : Bool} (h : tyN x = some T) (hb : kitB T n = some b) : RC K (rIsi K) [x, .raw (.ty n)] M (.bl b) := fun N F us H w hr Q k => by
  obtain ⟨u, v, rfl, r1, r2⟩ := rpa2 hr
  cases r2.raw_of
  exact ⟨u, .ty n, _, _, b, rfl, .ty n, r1.tyX w.fr h, kit_ty hb, k _ _ M F H (Evl.Ex.refl F) ⟨rfl, rfl⟩ w (.bl _)⟩
def rMax2 : List V → Hp → VK → Prop := fun xs H Q => ∃ i j, xs = [.int i, .int j] ∧ Q (.int (if j > i then j else i)) H
def rMin2 : List V → Hp → VK → Prop := fun xs H Q => ∃ i j, xs = [.int i, .int j] ∧ Q (.int (if j < i then j else i)) H
theorem rc_max2 {i j : Int} : RC K rMax2 [.int i, .int j] M (.int (if j > i then j else i)) := fun N F us H w hr Q k => by
  obtain ⟨u, v, rfl, r1, r2⟩ := rpa2 hr
  exact ⟨i, j, by rw [r1.int_of, r2.int_of], k _ _ M F H (Evl.Ex.refl F) ⟨rfl, rfl⟩ w (.int _)⟩
theorem rc_min2 {i j : Int} : RC K rMin2 [.int i, .int j] M (.int (if j < i then j else i)) := fun N F us H w hr Q k => by
  obtain ⟨u, v, rfl, r1, r2⟩ := rpa2 hr
  exact ⟨i, j, by rw [r1.int_of, r2.int_of], k _ _ M F H (Evl.Ex.refl F) ⟨rfl, rfl⟩ w (.int _)⟩
def rInt1 : List V → Hp → VK → Prop := fun xs H Q => (∃ i, xs = [.int i] ∧ Q (.int i) H) ∨ ∃ k, xs = [.bl k] ∧ Q (.int (if k then 1 else 0)) H
theorem rc_int {i : Int} : RC K rInt1 [.int i] M (.int i) := fun N F us H w hr Q k => by
  obtain ⟨u, rfl, r1⟩ := rpa1 hr
  exact .inl ⟨i, by rw [r1.int_of], k _ _ M F H (Evl.Ex.refl F) ⟨rfl, rfl⟩ w (.int _)⟩
def rAbs : List V → Hp → VK → Prop := fun xs H Q => ∃ i, xs = [.int i] ∧ Q (.int (if i < 0 then -i else i)) H
theorem rc_abs {i : Int} : RC K rAbs [.int i] M (.int (if i < 0 then -i else i)) := fun N F us H w hr Q k => by
  obtain ⟨u, rfl, r1⟩ := rpa1 hr
  exact ⟨i, by rw [r1.int_of], k _ _ M F H (Evl.Ex.refl F) ⟨rfl, rfl⟩ w (.int _)⟩
def rDivmod : List V → Hp → VK → Prop := fun xs H Q => ∃ i j, xs = [.int i, .int j] ∧ CDiv i j ∧ ∀ p, H p = none → Q (.ref p) (upd H p (.tup [.int (i / j), .int (i % j)]))
theorem rc_divmod {i j : Int} (h : 0 < j ∧ j < 1073741824) : RC K rDivmod [.int i, .int j] M (.tup [.int (i / j), .int (i % j)]) := fun N F us H w hr Q k => by
  obtain ⟨u, v, rfl, r1, r2⟩ := rpa2 hr
  exact ⟨i, j, by rw [r1.int_of, r2.int_of], h, fun p hp => k _ _ M _ _ (ex_new (w.fresh hp)) ⟨rfl, rfl⟩ (w.new hp _) (.tup (SqT.of upd_same) (.cons (.int _) (.cons (.int _) .nil)))⟩
theorem rc_repr {p : PyData} (hx : toPy x = some p) (h1 : p.showable = true) (h2 : p.hasDict = false) (h3 : p.depth ≤ 100) (h4 : p.shown.length ≤ sizeLine) : RC K (rRepr K) [x] M (.str p.shown) := fun N F us H w hr Q k => by
  obtain ⟨u, rfl, r1⟩ := rpa1 hr
  exact ⟨u, p, rfl, r1.dp w.fr hx, h1, h2, h3, h4, k _ _ M F H (Evl.Ex.refl F) ⟨rfl, rfl⟩ w (.str _)⟩
def rTupOf (K : PySem.W.Frag) : List V → Hp → VK → Prop := fun xs H Q => ∃ p ys, xs = [.ref p] ∧ ((SqL K H p ys ∧ ∀ l, H l = none → Q (.ref l) (upd H l (.tup ys))) ∨ (SqT K H p ys ∧ Q (.ref p) H))
theorem rc_tupL : RC K (rTupOf K) [.lst ds] M (.tup ds) := fun N F us H w hr Q k => by
  obtain ⟨u, rfl, r1⟩ := rpa1 hr
  obtain ⟨a, xs, rfl, ha, ra⟩ := r1.lst_of
  exact ⟨a, xs, rfl, .inl ⟨SqL.of (w.fr _ _ ha), fun p hp => k _ _ M _ _ (ex_new (w.fresh hp)) ⟨rfl, rfl⟩ (w.new hp _) (.tup (SqT.of upd_same) (ra.mono (ex_new (w.fresh hp))))⟩⟩
theorem rc_tupC {a : Addr} (hm : (a, MO.lst ds) ∈ M) : RC K (rTupOf K) [.raw (.ref a)] M (.tup ds) := fun N F us H w hr Q k => by
  obtain ⟨u, rfl, r1⟩ := rpa1 hr
  cases r1.raw_of
  obtain ⟨_, xs, ha, ra⟩ := w.ce a _ (List.mem_append_right N hm)
  exact ⟨a, xs, rfl, .inl ⟨SqL.of ha, fun p hp => k _ _ M _ _ (ex_new (w.fresh hp)) ⟨rfl, rfl⟩ (w.new hp _) (.tup (SqT.of upd_same) (ra.mono (ex_new (w.fresh hp))))⟩⟩
/-- max of a list of ints that is not empty -/
theorem rcr_maxL {ns : List Int} (h0 : 0 < ns.length) (k : ∀ m, m ∈ ns → (∀ y, y ∈ ns → y ≤ m) → R (.int m) M) : RCR K (rMax K) [.lst (ns.map DV.int)] M R := fun N F us H w hr Q q => by
  obtain ⟨u, rfl, r1⟩ := rpa1 hr
  obtain ⟨a, xs, rfl, ha, ra⟩ := r1.lst_of
  exact ⟨a, ns, rfl, by rw [← ra.ints_of]; exact SqL.of (w.fr _ _ ha), h0, fun m h1 h2 => q _ _ M F H (Evl.Ex.refl F) (k m h1 h2) w (.int m)⟩
theorem rc_sumL {ns : List Int} : RC K (rSum K) [.lst (ns.map DV.int)] M (.int ns.sum) := fun N F us H w hr Q q => by
  obtain ⟨u, rfl, r1⟩ := rpa1 hr
  obtain ⟨a, xs, rfl, ha, ra⟩ := r1.lst_of
  exact ⟨a, ns, rfl, by rw [← ra.ints_of]; exact SqL.of (w.fr _ _ ha), q _ _ M F H (Evl.Ex.refl F) ⟨rfl, rfl⟩ w (.int _)⟩
theorem rc_allL {bs : List Bool} : RC K (rAll K) [.lst (bs.map DV.bl)] M (.bl (bs.all id)) := fun N F us H w hr Q q => by
  obtain ⟨u, rfl, r1⟩ := rpa1 hr
  obtain ⟨a, xs, rfl, ha, ra⟩ := r1.lst_of
  exact ⟨a, bs, rfl, by rw [← ra.bls_of]; exact SqL.of (w.fr _ _ ha), q _ _ M F H (Evl.Ex.refl F) ⟨rfl, rfl⟩ w (.bl _)⟩
theorem rc_anyL {bs : List Bool} : RC K (rAny K) [.lst (bs.map DV.bl)] M (.bl (bs.any id)) := fun N F us H w hr Q q => by
  obtain ⟨u, rfl, r1⟩ := rpa1 hr
  obtain ⟨a, xs, rfl, ha, ra⟩ := r1.lst_of
  exact ⟨a, bs, rfl, by rw [← ra.bls_of]; exact SqL.of (w.fr _ _ ha), q _ _ M F H (Evl.Ex.refl F) ⟨rfl, rfl⟩ w (.bl _)⟩
/-! ### methods of owned lists -/
variable {ta : TA} {to : TE}
theorem ty_list {F H : Hp} {a : Addr} {vs : List V} (h : H a = some (.lst vs)) : tyV K "list" (.ref a) H := .inl ⟨rfl, _, .inl (.inl h)⟩
theorem evr_append {K : KB} {i : Nat} {a : Addr} {xs : List DV} (h : EvR K to ρ M fun o M1 => o = .raw (.ref a) ∧ M1[i]? = some (a, MO.lst xs) ∧ xs.length < 100000 ∧ EvAR K ta ρ M1 fun ds M2 => ∃ d, ds = [d] ∧ M2[i]? = some (a, MO.lst xs) ∧ R .non (M2.set i (a, MO.lst (xs ++ [d])))) :
    EvR K (tBM K "list" rAppend to ta) ρ M R := fun N F σ H S Q q =>
  h N F σ H S _ fun v o M1 F1 H1 e1 ⟨ho, hi, hl, h1⟩ w1 r1 => by
    subst ho
    cases r1.raw_of
    obtain ⟨_, vs, hv, rv⟩ := w1.ce a _ (List.mem_append_right N (List.mem_of_getElem? hi))
    refine ⟨ty_list (F := F1) hv, h1 N F1 σ H1 ⟨w1, S.e.mono e1, S.bm e1⟩ _ fun us ds M2 F2 H2 e2 ⟨d, hd, hi2, hr⟩ w2 r2 => ?_⟩
    subst hd
    obtain ⟨u, rfl, ru⟩ := rpa1 r2
    obtain ⟨_, vs2, hv2, rv2⟩ := w2.ce a _ (List.mem_append_right N (List.mem_of_getElem? hi2))
    refine ⟨a, vs2, u, rfl, rfl, hv2, by rw [rv2.length]; exact Evl.sz_lt hl, ?_⟩
    have w3 := w2.put (i := N.length + i) (by rw [List.getElem?_append_right (Nat.le_add_right _ _), Nat.add_sub_cancel_left]; exact hi2) (mo' := .lst (xs ++ [d])) (o := .lst (vs2 ++ [u])) ⟨_, upd_same, rv2.snoc ru⟩
    rw [List.set_append_right _ _ (Nat.le_add_right _ _), Nat.add_sub_cancel_left] at w3
    exact q _ _ _ F2 _ (e1.trans e2) hr w3 .non
/-- pop(i) -/
theorem evr_popAt {K : KB} {i : Nat} {a : Addr} {xs : List DV} (h : EvR K to ρ M fun o M1 => o = .raw (.ref a) ∧ M1[i]? = some (a, MO.lst xs) ∧ EvAR K ta ρ M1 fun ds M2 => ∃ (j : Nat) (d : DV), ds = [.int j] ∧ j < 100000 ∧ M2[i]? = some (a, MO.lst xs) ∧ xs[j]? = some d ∧ R d (M2.set i (a, MO.lst (xs.eraseIdx j)))) :
    EvR K (tBM K "list" rPopAt to ta) ρ M R := fun N F σ H S Q q =>
  h N F σ H S _ fun v o M1 F1 H1 e1 ⟨ho, hi, h1⟩ w1 r1 => by
    subst ho
    cases r1.raw_of
    obtain ⟨_, vs, hv, rv⟩ := w1.ce a _ (List.mem_append_right N (List.mem_of_getElem? hi))
    refine ⟨ty_list (F := F1) hv, h1 N F1 σ H1 ⟨w1, S.e.mono e1, S.bm e1⟩ _ fun us ds M2 F2 H2 e2 ⟨j, d, hd, hj, hi2, hx, hr⟩ w2 r2 => ?_⟩
    subst hd
    obtain ⟨u, rfl, ru⟩ := rpa1 r2
    cases ru.int_of
    obtain ⟨_, vs2, hv2, rv2⟩ := w2.ce a _ (List.mem_append_right N (List.mem_of_getElem? hi2))
    obtain ⟨y, hy, ry⟩ := rv2.get hx
    have hlt : j < vs2.length := (List.getElem?_eq_some_iff.mp hy).1
    refine ⟨a, vs2, j, j, y, rfl, rfl, hv2, by omega, by omega, ?_, hy, ?_⟩
    · unfold seqIndex?
      simp
      omega
    have w3 := w2.put (i := N.length + i) (by rw [List.getElem?_append_right (Nat.le_add_right _ _), Nat.add_sub_cancel_left]; exact hi2) (mo' := .lst (xs.eraseIdx j)) (o := .lst (vs2.eraseIdx j)) ⟨_, upd_same, rv2.eraseIdx j⟩
    rw [List.set_append_right _ _ (Nat.le_add_right _ _), Nat.add_sub_cancel_left] at w3
    exact q _ _ _ F2 _ (e1.trans e2) hr w3 (ry.mono (Evl.Ex.refl _))
/-- xs[k] = e -/
theorem bd_subL {K : KB} {i : Nat} {a : Addr} {xs : List DV} {ti : TE} {RR : Rho → Ms → Prop} (h : EvR K to ρ M fun o M1 => o = .raw (.ref a) ∧ EvR K ti ρ M1 fun k M2 => ∃ (n : Int) (j : Nat), k = .int n ∧ M2[i]? = some (a, MO.lst xs) ∧ ixN xs.length n = some j ∧ RR ρ (M2.set i (a, MO.lst (xs.set j d)))) : BdG K (gSub to ti rSetL) ρ M d RR := fun N F σ H v Q S r q =>
  h N F σ H S _ fun o od M1 F1 H1 e1 ⟨ho, h1⟩ w1 r1 => by
    subst ho
    cases r1.raw_of
    refine h1 N F1 σ H1 ⟨w1, S.e.mono e1, S.bm e1⟩ _ fun kv kd M2 F2 H2 e2 ⟨n, j, hk, hi2, hj, hr⟩ w2 r2 => ?_
    subst hk
    cases r2.int_of
    obtain ⟨_, vs2, hv2, rv2⟩ := w2.ce a _ (List.mem_append_right N (List.mem_of_getElem? hi2))
    refine ⟨a, vs2, n, j, rfl, rfl, hv2, by rw [rv2.length]; exact hj, ?_⟩
    have w3 := w2.put (i := N.length + i) (by rw [List.getElem?_append_right (Nat.le_add_right _ _), Nat.add_sub_cancel_left]; exact hi2) (mo' := .lst (xs.set j d)) (o := .lst (vs2.set j v)) ⟨_, upd_same, (rv2.set (r.mono (e1.trans e2)) j)⟩
    rw [List.set_append_right _ _ (Nat.le_add_right _ _), Nat.add_sub_cancel_left] at w3
    exact q σ F2 _ ρ _ (e1.trans e2) hr ⟨w3, S.e.mono (e1.trans e2), S.bm (e1.trans e2)⟩
/-! ### enumerate -/
theorem ei_enumT {K : KB} {ta : TA} {RM : Ms → Prop} (h : EvAR K ta ρ M fun xs M' => xs = [.tup ds] ∧ RM M') : EvI K (DE.iEnumT K ta) ρ M [] ds.length (fun i => .tup [.int i, nth ds i]) RM := fun N F σ H S Q q =>
  h N F σ H S _ fun vs dd M1 F1 H1 e1 ⟨hd, hr⟩ w1 r1 => by
    subst hd
    obtain ⟨u, rfl, r⟩ := rpa1 r1
    obtain ⟨a, xs, rfl, hx, hr1⟩ := r.tup_of
    refine ⟨a, xs, rfl, Evl.ex_t w1.fr hx, q _ M1 F1 H1 e1 hr w1 ⟨fun i F2 M2 H2 hi e2 w2 _ => ?_, fun F2 M2 H2 e2 w2 _ => ?_, fun i F2 M2 H2 x H3 hi e2 w2 _ hy => ?_⟩⟩
    · exact ⟨xs, xs[i]'(by rw [hr1.length]; exact hi), Evl.ex_t (e2.trans w2.fr) hx, by simp⟩
    · exact ⟨xs, Evl.ex_t (e2.trans w2.fr) hx, by rw [hr1.length]; exact Nat.le_refl _⟩
    · obtain ⟨T, x, rfl, hT, rfl, hg⟩ := hy
      obtain ⟨d, hd, rd⟩ := hr1.get' (hg xs (Evl.ex_t (e2.trans w2.fr) hx))
      have hn := w2.fresh hT
      exact ⟨_, ex_new hn, w2.new hT _, .tup (SqT.of upd_same) (.cons (.int _) (.cons (by rw [nth_of hd]; exact (rd.mono e2).mono (ex_new hn)) .nil))⟩
end
end DD

set_option Elab.async false
set_option linter.all false
set_option maxRecDepth 100000
set_option maxHeartbeats 4000000
/-! calls by keyword -/
namespace DD
open PySem PySem.Spec PyProof.Rows L2
/-- the positional values, then the keywords', put into the parameters' order -/
def gpick (n m : Nat) (perm : List Nat) {α : Type} (us ws : List α) : List α := if us.length = n ∧ ws.length = m then perm.filterMap (fun i => (us ++ ws)[i]?) else []
theorem pick_vals {xs : List V} {us : List Value} (r : Vals xs us) : ∀ perm : List Nat, Vals (perm.filterMap (fun i => xs[i]?)) (perm.filterMap (fun i => us[i]?))
  | [] => .nil
  | i :: perm => by
    cases h : xs[i]? with
    | none => rw [List.filterMap_cons_none h, List.filterMap_cons_none (r.none_of h)]; exact pick_vals r perm
    | some x =>
      obtain ⟨u, hu, ru⟩ := r.get h
      rw [List.filterMap_cons_some h, List.filterMap_cons_some hu]; exact .cons ru (pick_vals r perm)
theorem pick_rpa {K : PySem.W.Frag} {F : Hp} {xs : List V} {ds : List DV} (r : RpA K F xs ds) : ∀ perm : List Nat, RpA K F (perm.filterMap (fun i => xs[i]?)) (perm.filterMap (fun i => ds[i]?))
  | [] => .nil
  | i :: perm => by
    cases h : xs[i]? with
    | none =>
      have h2 : ds[i]? = none := List.getElem?_eq_none (by rw [← r.length]; exact List.getElem?_eq_none_iff.mp h)
      rw [List.filterMap_cons_none h, List.filterMap_cons_none h2]; exact pick_rpa r perm
    | some x =>
      obtain ⟨u, hu, ru⟩ := r.get' h
      rw [List.filterMap_cons_some h, List.filterMap_cons_some hu]; exact .cons ru (pick_rpa r perm)
theorem gpick_rel {n m : Nat} {perm : List Nat} {vs : List V} {us : List Value} {zs : List V} {ws : List Value} (r : Vals vs us) (rz : Vals zs ws) : Vals (gpick n m perm vs zs) (gpick n m perm us ws) := by
  unfold gpick
  rw [r.length, rz.length]
  split
  · exact pick_vals (r.append rz) perm
  · exact .nil
theorem gpick_rpa {K : PySem.W.Frag} {F : Hp} {n m : Nat} {perm : List Nat} {vs zs : List V} {ds es : List DV} (r : RpA K F vs ds) (rz : RpA K F zs es) : RpA K F (gpick n m perm vs zs) (gpick n m perm ds es) := by
  unfold gpick
  rw [r.length, rz.length]
  split
  · exact pick_rpa (r.append rz) perm
  · exact .nil
theorem kbinds_mk {K : PySem.W.Frag} {x qual : Str} {st : Stmt} {f : Addr} {fd : FuncData} {ps ks : List Str} {n m : Nat} {perm : List Nat} (F : Fun K x qual st f fd) (hp : ps ≠ [])
    (h : ∀ (kV doc pm : Value) (an : Option Addr) (cdv ct : Value) (us ws : List Value), us.length = n → ws.length = m → bindArgs (PySem.W.fnOf x qual (defArgs st) (defBody st) (defScope st) .none kV doc pm an cdv ct) ⟨us, ks.zip ws⟩ = pure (ps.zip (perm.filterMap (fun i => (us ++ ws)[i]?)))) :
    KBinds K fd ps ks (gpick n m perm) (gpick n m perm) := by
  obtain ⟨oc, od, kV, doc, pm, an, cdv, ct, osl, rfl, lk, hcd⟩ := F.ex
  refine ⟨fun s us ws _ hl => ?_, fun r rz => gpick_rel r rz⟩
  unfold gpick at hl ⊢
  split at hl
  · rename_i hc
    rw [if_pos hc]
    exact .of_eq (h kV doc pm an cdv ct us ws hc.1 hc.2)
  · exact absurd (List.eq_nil_of_length_eq_zero hl.symm) hp
section
variable {X : Cx} {CX : CXT} {k : Nat} {f C : Addr} {fd : FuncData} {ps ks : List Str} {sp : Sp} {E : XK} {x : Str} {p pos : Pos} {kws : List Keyword} {tk : TA} {g : List Value → List Value → List Value} {gV : List V → List V → List V}
/-- f(k = v, ..) -/
theorem pe_callK0 (F : FnOk X.prog X.w X.K X.mg X.base CX k f fd ps sp) (hr : Room k X.A) (hg : Gl X x) (hm : X.mg x = some (.ref f)) (hk : PySem.W.keepIn X.K (.ref f) = true) (hb : KBinds X.K fd ps ks g gV) (hx : Passes CX X E) (hkw : PK X kws tk)
    (hall : (backToKw pos (keywordEach kws X.env)).all (·.1.isSome) = true := by rfl) (hks : (backToKw pos (keywordEach kws X.env)).filterMap (·.1) = ks := by rfl) (hdb : (x == ("__debug__" : Str)) = false := by decide)
    (hpl : ((backTo pos (starEach [] X.env)).any (·.1) || (backToKw pos (keywordEach kws X.env)).any (·.1.isNone)) = false := by rfl) : PE X (.Call (.Name x p) [] kws pos) (tCallK sp gV E tNil tk) := by
  refine ⟨fun pins z σ H Q I h => wpAny_Call_Name_kw (ld_glob I hg hm (PySem.W.callWith_KW0 (h₀ := X.base) I.ok.mod.kin hk hall (thn (hkw.run pos pins z σ H _ I h) fun ws z2 ⟨zs, H2, I2, rz, q2⟩ => ⟨I2.kIn, ?_⟩) hpl) hdb)⟩
  rw [hks]
  exact run_fnk (us := []) F hr hb hx I2 .nil rz q2
end
section
variable {K : PySem.W.Frag} {ρ : Rho} {M : Ms} {S : SpecD} {E : XK} {d : DV} {R : DV → Ms → Prop} {t tk : TA} {n m : Nat} {perm : List Nat}
theorem evr_callK {K : KB} (h : EvAR K t ρ M fun ds M1 => EvAR K tk ρ M1 fun es M2 => S (gpick n m perm ds es) M2 R) : EvR K (tCallK (spD K S) (gpick n m perm) E t tk) ρ M R := fun N F σ H Z Q q =>
  h N F σ H Z _ fun vs ds M1 F1 H1 e1 h1 w1 r1 => h1 N F1 σ H1 ⟨w1, Z.e.mono e1, Z.bm e1⟩ _ fun zs es M2 F2 H2 e2 h2 w2 r2 =>
    ⟨F2, N, M2, _, R, w2, gpick_rpa (r1.mono e2) r2, h2, fun v d M3 F3 H3 e3 hr w3 r3 => q v d M3 F3 H3 ((e1.trans e2).trans e3) hr w3 r3⟩
theorem ev_callK {K : KB} {ds es : List DV} (h : EvA K t ρ M ds) (hk : EvA K tk ρ M es) (hs : S (gpick n m perm ds es) M fun d' M' => d' = d ∧ M' = M) : Ev K (tCallK (spD K S) (gpick n m perm) E t tk) ρ M d := evr_callK (h.go (hk.go hs))
end
end DD

set_option Elab.async false
set_option linter.all false
set_option maxRecDepth 100000
set_option maxHeartbeats 4000000
/-! the rules with the written part named -/
namespace DD
open PySem PySem.Spec PyProof.Rows L2
section
variable {X : Cx} (K : PySem.W.Frag) (hK : X.K = K) {a b e o : Expr} {ta tb te : TE} {pos pos' apos : Pos} {f : Str}
include hK
theorem wAdd : OpR X (binaryOp .Add) (rAddU K) := hK ▸ op_addU
theorem wMul : OpR X (binaryOp .Mult) (rMulU K) := hK ▸ op_mulU
theorem wEq {k : Nat} (hr : Room k X.A) : OpR X (compareOp .Eq) (rEqU K) := hK ▸ op_eqU hr
theorem wNe {k : Nat} (hr : Room k X.A) : OpR X (compareOp .NotEq) (rNeU K) := hK ▸ op_neU hr
theorem wIn : OpR X (compareOp .In) (rIn K false) := hK ▸ op_in_seq
theorem wNotIn : OpR X (compareOp .NotIn) (rIn K true) := hK ▸ op_notIn_seq
theorem wIx : IxR X (rIx K) := hK ▸ ix_seq
theorem wSl : SlR X (rSlU K) := hK ▸ sl_U
theorem wFld (he : PE X e ta) (hb : attributeBase e f X.env (eval e X.env) = eval e X.env) : PE X (.Attribute e f pos) (tFld K ta f) := hK ▸ pe_fld he hb
theorem wPutF {tv : TE} {value : Expr} (ha : PE X o ta) (hv : PE X value tv) (hs : swapsWith value (some (.Attribute o f pos')) pos.line X.env = pure false) : PS X (.Assign [.Attribute o f pos'] value pos) (sFld K ta tv f) := hK ▸ ps_fld ha hv hs
theorem wTup {tg : Expr} (hl : PE X e te) : PI X tg e (iTup K te) := hK ▸ pi_tup hl
theorem wList {tg : Expr} (hl : PE X e te) : PI X tg e (iList K te) := hK ▸ pi_list hl
theorem wEnumT {ta : TA} {p tpos : Pos} {elts : List Expr} {kk : Nat} (hg : Gl X "enumerate") (hm : X.mg "enumerate" = none) (ha : PA X [e] ta) (hs : starEach [e] X.env = [(false, eval e X.env)] := by rfl) : PI X (.Tuple elts kk tpos) (.Call (.Name "enumerate" p) [e] [] pos) (DE.iEnumT K ta) := hK ▸ DE.pi_enumT hg hm ha hs
theorem wLen : CallR X (.builtin "len") (rLen K) := hK ▸ call_len
theorem wIsi : CallR X (.builtin "isinstance") (rIsi K) := hK ▸ call_isi
theorem wTupOf : CallR X (.type "tuple") (rTupOf K) := hK ▸ call_tuple_of
theorem wRepr {k : Nat} (hG : X.A.guards = some []) (hr : Room k X.A) : CallR X (.builtin "repr") (rRepr K) := hK ▸ call_reprD hG hr
theorem wSum (hc : X.calm = true) : CallR X (.builtin "sum") (rSum K) := hK ▸ cr_sum hc
theorem wMaxL (hc : X.calm = true) : CallR X (.builtin "max") (rMax K) := hK ▸ cr_max hc
theorem wMinL (hc : X.calm = true) : CallR X (.builtin "min") (rMin K) := hK ▸ cr_min hc
theorem wAny (hc : X.calm = true) : CallR X (.builtin "any") (rAny K) := hK ▸ cr_any hc
theorem wAll (hc : X.calm = true) : CallR X (.builtin "all") (rAll K) := hK ▸ cr_all hc
theorem wSorted : CallR X (.builtin "sorted") (rSortedI K) := hK ▸ cr_sortedI
theorem wTupG {n : Nat} {t : TGs} (h : PG X e (gTup X.K n t)) : PG X e (gTup K n t) := hK ▸ h
theorem wBm {T : String} {r : V → List V → Hp → VK → Prop} {t : TA} (h : PE X e (tBM X.K T r ta t)) : PE X e (tBM K T r ta t) := hK ▸ h
theorem wBm0 {T : String} {r : V → List V → Hp → VK → Prop} (h : PE X e (tBM0 X.K T r ta)) : PE X e (tBM0 K T r ta) := hK ▸ h
end
section
variable {X : Cx}
theorem wMax2 (hc : X.calm = true) : CallR X (.builtin "max") rMax2 := call_max2 hc
theorem wMin2 (hc : X.calm = true) : CallR X (.builtin "min") rMin2 := call_min2 hc
theorem wInt : CallR X (.type "int") rInt1 := call_int1
theorem wAbs : CallR X (.builtin "abs") rAbs := call_abs
theorem wDivmod : CallR X (.builtin "divmod") rDivmod := call_divmod
end
end DD

set_option Elab.async false
set_option linter.all false
set_option maxRecDepth 100000
set_option maxHeartbeats 4000000
namespace DD
open PySem PySem.Spec PyProof.Rows L2
/-! isinstance with the built-in types -/
def isIntD : DV → Bool
  | .int _ => true | .bl _ => true | _ => false
def isBoolD : DV → Bool
  | .bl _ => true | _ => false
def isTupD : DV → Bool
  | .tup _ => true | _ => false
def isStrD : DV → Bool
  | .str _ => true | _ => false
def isLstD : DV → Bool
  | .lst _ => true | _ => false
section
variable {K : PySem.W.Frag} {M : Ms} {x y d : DV} {ρ : Rho} {ta tb te : TE} {R : DV → Ms → Prop}
theorem rc_isiInt (h : (tyN x).isSome = true) : RC K (rIsi K) [x, .raw (.ty "int")] M (.bl (isIntD x)) := by
  cases x <;> first | exact rc_isi (b := true) rfl (by decide +kernel) | exact rc_isi (b := false) rfl (by decide +kernel) | cases h
theorem rc_isiBool (h : (tyN x).isSome = true) : RC K (rIsi K) [x, .raw (.ty "bool")] M (.bl (isBoolD x)) := by
  cases x <;> first | exact rc_isi (b := true) rfl (by decide +kernel) | exact rc_isi (b := false) rfl (by decide +kernel) | cases h
theorem rc_isiTup (h : (tyN x).isSome = true) : RC K (rIsi K) [x, .raw (.ty "tuple")] M (.bl (isTupD x)) := by
  cases x <;> first | exact rc_isi (b := true) rfl (by decide +kernel) | exact rc_isi (b := false) rfl (by decide +kernel) | cases h
theorem rc_isiStr (h : (tyN x).isSome = true) : RC K (rIsi K) [x, .raw (.ty "str")] M (.bl (isStrD x)) := by
  cases x <;> first | exact rc_isi (b := true) rfl (by decide +kernel) | exact rc_isi (b := false) rfl (by decide +kernel) | cases h
theorem rc_isiLst (h : (tyN x).isSome = true) : RC K (rIsi K) [x, .raw (.ty "list")] M (.bl (isLstD x)) := by
  cases x <;> first | exact rc_isi (b := true) rfl (by decide +kernel) | exact rc_isi (b := false) rfl (by decide +kernel) | cases h
/-- of an own class -/
theorem rc_isiOwn {C : Addr} {fs : List (Str × DV)} (cl : Cls K C) (ty : PySem.W.findIn K (.ref C) "__class__" = some (some (.builtin "object.__class__")) ∧ PySem.W.specialIn K (.builtin "object.__class__") "__get__" = some (some (.builtin "getset_descriptor.__get__")) ∧ PySem.W.takesIn K (.builtin "object.__class__") = some true ∧ PySem.W.mroIn K C (.type "object") = some true ∧ PySem.W.kitOne K (.ref C) (.ref C) = some true) :
    RC K (rIsi K) [.ins C fs, .raw (.ref C)] M (.bl true) := fun N F us H w hr Q k => by
  obtain ⟨u, v, rfl, r1, r2⟩ := rpa2 hr
  cases r2.raw_of
  obtain ⟨a, dx, gs, rfl, ha, hf⟩ := r1.ins_of
  exact ⟨_, _, _, _, true, rfl, .own C, .base (.ins (w.fr _ _ ha) cl ty.1 ty.2.1 ty.2.2.1 ty.2.2.2.1), ty.2.2.2.2, k _ _ M F H (Evl.Ex.refl F) ⟨rfl, rfl⟩ w (.bl true)⟩
/-! short ways -/
theorem ev_andF {K : KB} (h : Ev K ta ρ M (.bl false)) : Ev K (tAndV ta tb) ρ M (.bl false) := evr_andV (h.go ⟨false, rfl, rfl, rfl⟩)
theorem ev_andTr {K : KB} (h : Ev K ta ρ M (.bl true)) (h2 : Ev K tb ρ M d) : Ev K (tAndV ta tb) ρ M d := evr_andV (h.go ⟨true, rfl, h2⟩)
theorem ev_orTr {K : KB} (h : Ev K ta ρ M (.bl true)) : Ev K (tOrV ta tb) ρ M (.bl true) := evr_orV (h.go ⟨true, rfl, rfl, rfl⟩)
theorem ev_orF {K : KB} (h : Ev K ta ρ M (.bl false)) (h2 : Ev K tb ρ M d) : Ev K (tOrV ta tb) ρ M d := evr_orV (h.go ⟨false, rfl, h2⟩)
theorem evr_of {K : KB} (h : Ev K te ρ M d) (hr : R d M) : EvR K te ρ M R := h.go hr
theorem xs_retE {K : KB} {P : Post} (h : Ev K te ρ M d) (hr : P.rt d M) : XS K (tRet te) ρ M P := xs_ret (h.go hr)
theorem xs_setE {K : KB} {i : Nat} {t : TS} {P : Post} (h : Ev K te ρ M d) (k : XS K t (ρ.set i (some d)) M P) : XS K (tSeq (tAsg te (gName i)) t) ρ M P := xs_seq (xs_set h k)
theorem xs_ifE {K : KB} {tt : TT} {t u v : TS} {P : Post} {b : Bool} (h : EvT K tt ρ M b) (h1 : b = true → XS K t ρ M { P with nx := fun ρ' M' => XS K v ρ' M' P }) (h2 : b = false → XS K u ρ M { P with nx := fun ρ' M' => XS K v ρ' M' P }) : XS K (tSeq (tIfS tt t u) v) ρ M P := xs_seq (xs_if2 h h1 h2)
/-- a word between a statement and the rest -/
theorem xs_cut {K : KB} {t u : TS} {P : Post} (Mid : Rho → Ms → Prop) (h : XS K t ρ M { P with nx := Mid }) (k : ∀ ρ' M', Mid ρ' M' → XS K u ρ' M' P) : XS K (tSeq t u) ρ M P := xs_seq fun N F σ H D S e => h N F σ H D S ⟨fun F' σ' H' ρ' M' e1 h1 S1 => e.nx F' σ' H' ρ' M' e1 (k ρ' M' h1) S1, e.rt, e.bk, e.ct⟩
theorem xs_asgE {K : KB} {g : TG} {t : TS} {P : Post} (h : EvR K te ρ M fun d M' => BdG K g ρ M' d fun ρ' M'' => XS K t ρ' M'' P) : XS K (tSeq (tAsg te g) t) ρ M P := xs_seq (xs_asg h)
/-- if t: leave; then the rest -/
theorem xs_whenE {K : KB} {tt : TT} {t v : TS} {P : Post} {b : Bool} (h : EvT K tt ρ M b) (h1 : b = true → XS K t ρ M { P with nx := fun ρ' M' => XS K v ρ' M' P }) (h2 : b = false → XS K v ρ M P) : XS K (tSeq (tIfS tt t tNext) v) ρ M P := xs_ifE h h1 fun e => xs_next (h2 e)
theorem xs_unpackE {K : KB} {n : Nat} {gs : TGs} {t : TS} {P : Post} {ds : List DV} (h : Ev K te ρ M (.tup ds)) (hn : ds.length = n) (k : BdGs K gs ρ M ds fun ρ' M' => XS K t ρ' M' P) : XS K (tSeq (tAsg te (gTup K n gs)) t) ρ M P := xs_seq (xs_asg (h.go (bd_tup k hn)))
theorem bds_nm {K : KB} {i : Nat} {gs : TGs} {ds : List DV} {RR : Rho → Ms → Prop} (h : BdGs K gs (ρ.set i (some d)) M ds RR) : BdGs K (gCons (gName i) gs) ρ M (d :: ds) RR := bds_cons (bd_name h)
/-- a, b = e1, e2 -/
theorem xs_par {K : KB} {i j : Nat} {ta : TA} {t : TS} {P : Post} (h : EvAR K ta ρ M fun ds M1 => ∃ d e, ds = [d, e] ∧ XS K t ((ρ.set i (some d)).set j (some e)) M1 P) : XS K (tSeq (tPar i j ta) t) ρ M P := xs_seq fun N F σ H D S e => h N F σ H S _ fun vs ds M1 F1 H1 e1 ⟨d, e', hd, hx⟩ w1 r1 => by
  subst hd
  obtain ⟨u, v, rfl, r2, r3⟩ := rpa2 r1
  exact ⟨u, v, rfl, e.nx F1 _ H1 _ M1 e1 hx ⟨w1, ((S.e.mono e1).set r2 i).set r3 j, S.bm e1⟩⟩
theorem xs_par3 {K : KB} {i j l : Nat} {ta : TA} {t : TS} {P : Post} (h : EvAR K ta ρ M fun ds M1 => ∃ d e g, ds = [d, e, g] ∧ XS K t (((ρ.set i (some d)).set j (some e)).set l (some g)) M1 P) : XS K (tSeq (tPar3 i j l ta) t) ρ M P := xs_seq fun N F σ H D S e => h N F σ H S _ fun vs ds M1 F1 H1 e1 ⟨d, e', g, hd, hx⟩ w1 r1 => by
  subst hd
  cases r1 with
  | cons r1 t1 => cases t1 with
    | cons r2 t2 => cases t2 with
      | cons r3 t3 => cases t3; exact ⟨_, _, _, rfl, e.nx F1 _ H1 _ M1 e1 hx ⟨w1, (((S.e.mono e1).set r1 i).set r2 j).set r3 l, S.bm e1⟩⟩
/-- self.f = e, of an owned instance -/
theorem xs_putF1 {K : KB} {tv : TE} {f : Str} {P : Post} {a C : Addr} {fs : List (Str × DV)} {i : Nat} (c : Cls K C) (n : NoAttr K C f) (hl : fs.length < 1000) (h : Ev K tv ρ M d) (ha : Ev K ta ρ M (.raw (.ref a))) (hi : M[i]? = some (a, MO.ins C fs)) (k : P.nx ρ (M.set i (a, MO.ins C (putD f d fs)))) : XS K (sFld K ta tv f) ρ M P :=
  fun N F σ H D S e => h N F σ H S _ fun v d' M1 F1 H1 e1 ⟨h1, h2⟩ w1 r1 => ha N F1 σ H1 ⟨by subst h2; exact w1, S.e.mono e1, S.bm e1⟩ _ fun u o M2 F2 H2 e2 ⟨h3, h4⟩ w2 r2 => by
    subst h1 h2 h3 h4
    cases r2.raw_of
    obtain ⟨_, dx, gs, hg, hf⟩ := w2.ce a _ (List.mem_append_right N (List.mem_of_getElem? hi))
    refine ⟨a, C, dx, gs, rfl, hg, c, n, by rw [hf.length]; exact hl, ?_⟩
    have hp : ∀ {gs : List (Str × V)} {fs : List (Str × DV)}, RpF K F2 gs fs → RpF K F2 (putF f v gs) (putD f d' fs) := by
      intro gs fs hf
      induction fs generalizing gs with
      | nil => cases hf; exact .cons (r1.mono e2) .nil
      | cons q fs ih =>
        cases hf with
        | cons hq ht =>
          unfold putF putD
          split
          · exact .cons (r1.mono e2) ht
          · exact .cons hq (ih ht)
    have w3 := w2.put (i := N.length + i) (by rw [List.getElem?_append_right (Nat.le_add_right _ _), Nat.add_sub_cancel_left]; exact hi) (mo' := .ins C (putD f d' fs)) (o := .ins C dx (putF f v gs)) ⟨dx, _, upd_same, hp hf⟩
    rw [List.set_append_right _ _ (Nat.le_add_right _ _), Nat.add_sub_cancel_left] at w3
    exact e.nx F2 _ _ _ _ (e1.trans e2) k ⟨w3, S.e.mono (e1.trans e2), S.bm (e1.trans e2)⟩
theorem xs_putF {K : KB} {tv : TE} {f : Str} {t : TS} {P : Post} {a C : Addr} {fs : List (Str × DV)} {i : Nat} (c : Cls K C) (n : NoAttr K C f) (hl : fs.length < 1000) (h : Ev K tv ρ M d) (ha : Ev K ta ρ M (.raw (.ref a))) (hi : M[i]? = some (a, MO.ins C fs)) (k : XS K t ρ (M.set i (a, MO.ins C (putD f d fs))) P) : XS K (tSeq (sFld K ta tv f) t) ρ M P := xs_seq (xs_putF1 c n hl h ha hi k)
end
end DD

set_option Elab.async false
set_option linter.all false
set_option maxRecDepth 100000
set_option maxHeartbeats 4000000
namespace DD
open PySem PySem.Spec PyProof.Rows L2
/-! data that can be shown and compared: small ints, plain texts, tuples and lists of such -/
mutual
def fit : DV → Bool
  | .non => true
  | .bl _ => true
  | .int i => decide (i.natAbs < 10 ^ 40)
  | .str s => PyData.canLay0 (.str s) && s.cps.toList.all fun c => decide (c < 16 ^ 8)
  | .tup xs => fitA xs
  | .lst xs => fitA xs
  | .ins _ _ => false
  | .rd _ => false
  | .raw _ => false
  | .dic => false
  | .exn _ _ => false
  | .dki _ => false
  | .tx _ => false
def fitA : List DV → Bool
  | [] => true
  | x :: xs => fit x && fitA xs
end
mutual
/-- how deep, how much -/
def dep : DV → Nat
  | .tup xs => depA xs + 1
  | .lst xs => depA xs + 1
  | _ => 0
def depA : List DV → Nat
  | [] => 0
  | x :: xs => max (dep x) (depA xs)
end
mutual
def blk : DV → Nat
  | .str s => s.cps.size
  | .tup xs => blkA xs
  | .lst xs => blkA xs
  | _ => 0
def blkA : List DV → Nat
  | [] => 0
  | x :: xs => blk x + 1 + blkA xs
end
theorem int_short {i : Int} (h : i.natAbs < 10 ^ 40) : (PyData.shown (.int i)).length ≤ 41 ∧ i.natAbs.log2 < 1920 := by
  refine ⟨?_, ?_⟩
  · rw [PyData.shown_int]
    have := int_text_length_le10 (k := 40) (by decide) h
    show (Str.ofString (toString i)).length ≤ 41
    rw [PySem.ofString_length]
    exact this
  · refine log2_small (Nat.lt_of_lt_of_le h ?_)
    decide +kernel
mutual
theorem fit_py : ∀ (d : DV), fit d = true → ∃ p, toPy d = some p ∧ p.showable = true ∧ p.hasDict = false ∧ p.depth = dep d ∧ p.leavesShort 41 = true ∧ p.bulk = blk d ∧ p.canLay0 = true
  | .non, _ => ⟨.none, rfl, rfl, rfl, rfl, rfl, rfl, rfl⟩
  | .bl b, _ => ⟨.bool b, rfl, rfl, rfl, rfl, rfl, rfl, rfl⟩
  | .int i, h => by
    have hi := int_short (of_decide_eq_true h)
    exact ⟨.int i, rfl, decide_eq_true hi.2, rfl, rfl, decide_eq_true hi.1, rfl, rfl⟩
  | .str s, h => by
    have h' := Bool.and_eq_true_iff.mp h
    exact ⟨.str s, rfl, rfl, rfl, rfl, h'.2, rfl, h'.1⟩
  | .tup xs, h => by
    obtain ⟨ps, h1, h2, h3, h4, h5, h6, h7⟩ := fitA_py xs h
    refine ⟨.tuple ps, by unfold toPy; rw [h1]; rfl, h2, h3, ?_, h5, h6, h7⟩
    show PyData.depthAll ps + 1 = depA xs + 1
    rw [h4]
  | .lst xs, h => by
    obtain ⟨ps, h1, h2, h3, h4, h5, h6, h7⟩ := fitA_py xs h
    refine ⟨.list ps, by unfold toPy; rw [h1]; rfl, h2, h3, ?_, h5, h6, h7⟩
    show PyData.depthAll ps + 1 = depA xs + 1
    rw [h4]
  | .ins _ _, h => by cases h
  | .rd _, h => by cases h
  | .raw _, h => by cases h
  | .dic, h => by cases h
  | .exn _ _, h => by cases h
  | .dki _, h => by cases h
  | .tx _, h => by cases h
theorem fitA_py : ∀ (xs : List DV), fitA xs = true → ∃ ps, toPyA xs = some ps ∧ PyData.showableAll ps = true ∧ PyData.hasDictAll ps = false ∧ PyData.depthAll ps = depA xs ∧ PyData.leavesShortAll 41 ps = true ∧ PyData.bulkAll ps = blkA xs ∧ PyData.canLayAll0 ps = true
  | [], _ => ⟨[], rfl, rfl, rfl, rfl, rfl, rfl, rfl⟩
  | x :: xs, h => by
    have h' := Bool.and_eq_true_iff.mp h
    obtain ⟨p, a1, a2, a3, a4, a5, a6, a7⟩ := fit_py x h'.1
    obtain ⟨ps, b1, b2, b3, b4, b5, b6, b7⟩ := fitA_py xs h'.2
    refine ⟨p :: ps, by unfold toPyA; rw [a1, b1], ?_, ?_, ?_, ?_, ?_, ?_⟩
    · show (p.showable && PyData.showableAll ps) = true; rw [a2, b2]; rfl
    · show (p.hasDict || PyData.hasDictAll ps) = false; rw [a3, b3]; rfl
    · show max p.depth (PyData.depthAll ps) = max (dep x) (depA xs); rw [a4, b4]
    · show (p.leavesShort 41 && PyData.leavesShortAll 41 ps) = true; rw [a5, b5]; rfl
    · show p.bulk + 1 + PyData.bulkAll ps = blk x + 1 + blkA xs; rw [a6, b6]
    · show (p.canLay0 && PyData.canLayAll0 ps) = true; rw [a7, b7]; rfl
end
/-- what is asked where data is shown or compared -/
structure Fit (d : DV) : Prop where
  f : fit d = true
  dp : dep d ≤ 60
  b : blk d ≤ 100000
theorem Fit.py {d : DV} (h : Fit d) : ∃ p, toPy d = some p ∧ p.showable = true ∧ p.hasDict = false ∧ p.depth ≤ 100 ∧ p.shown.length ≤ sizeLine ∧ SeqAt.shaped p = true := by
  obtain ⟨p, h1, h2, h3, h4, h5, h6, h7⟩ := fit_py d h.f
  have hd := h.dp
  have hb := h.b
  refine ⟨p, h1, h2, h3, by omega, ?_, ?_⟩
  · have := PyData.shown_le_bulk 41 (by decide) p h5
    rw [h6] at this
    rw [sizeLine_eq]
    omega
  · unfold SeqAt.shaped
    rw [h7, decide_eq_true (show p.depth ≤ 64 by omega)]
    rfl
def showD (d : DV) : Str := match toPy d with
  | some p => p.shown
  | none => Str.empty
def eqD (d e : DV) : Bool := match toPy d, toPy e with
  | some p, some q => PyData.eqv p q
  | _, _ => false
section
variable {K : PySem.W.Frag} {M : Ms} {x y : DV}
theorem rc_show (h : Fit x) : RC K (rRepr K) [x] M (.str (showD x)) := by
  obtain ⟨p, h1, h2, h3, h4, h5, h6⟩ := h.py
  have := rc_repr (K := K) (M := M) h1 h2 h3 h4 h5
  unfold showD
  rw [h1]
  exact this
theorem rv_eqF (hx : Fit x) (hy : Fit y) : RV K (rEqU K) x y M (.bl (eqD x y)) := by
  obtain ⟨p, h1, _, _, _, _, h6⟩ := hx.py
  obtain ⟨q, k1, _, _, _, _, k6⟩ := hy.py
  have := rv_eqD (K := K) (M := M) h1 k1 h6 k6
  unfold eqD
  rw [h1, k1]
  exact this
theorem rv_neF (hx : Fit x) (hy : Fit y) : RV K (rNeU K) x y M (.bl (!eqD x y)) := by
  obtain ⟨p, h1, _, _, _, _, h6⟩ := hx.py
  obtain ⟨q, k1, _, _, _, _, k6⟩ := hy.py
  have := rv_neD (K := K) (M := M) h1 k1 h6 k6
  unfold eqD
  rw [h1, k1]
  exact this
end
mutual
theorem eqv_self : ∀ (p : PyData), p.hasDict = false → PyData.eqv p p = true
  | .none, _ => rfl
  | .bool b, _ => by show (b == b) = true; simp
  | .int i, _ => by show (i == i) = true; simp
  | .str s, _ => by show (s == s) = true; simp
  | .list xs, h => by show PyData.eqvAll xs xs = true; exact eqvA_self xs h
  | .tuple xs, h => by show PyData.eqvAll xs xs = true; exact eqvA_self xs h
  | .dict _, h => by cases h
theorem eqvA_self : ∀ (ps : List PyData), PyData.hasDictAll ps = false → PyData.eqvAll ps ps = true
  | [], _ => rfl
  | p :: ps, h => by
    have h' := Bool.or_eq_false_iff.mp (show (p.hasDict || PyData.hasDictAll ps) = false from h)
    show (PyData.eqv p p && PyData.eqvAll ps ps) = true
    rw [eqv_self p h'.1, eqvA_self ps h'.2]; rfl
end
theorem eqD_self {d : DV} (h : Fit d) : eqD d d = true := by
  obtain ⟨p, h1, h2, h3, h4, h5, h6⟩ := h.py
  unfold eqD
  rw [h1]
  exact eqv_self p h3
theorem fitA_ints {ns : List Int} (h : ∀ n ∈ ns, n.natAbs < 10 ^ 40) : fitA (ns.map .int) = true := by
  induction ns with
  | nil => rfl
  | cons n r ih =>
    show (decide (n.natAbs < 10 ^ 40) && fitA (r.map .int)) = true
    rw [decide_eq_true (h n List.mem_cons_self), ih fun m hm => h m (List.mem_cons_of_mem _ hm)]; rfl
theorem depA_ints {ns : List Int} : depA (ns.map .int) = 0 := by
  induction ns with
  | nil => rfl
  | cons n r ih => show max 0 (depA (r.map .int)) = 0; rw [ih]; rfl
theorem blkA_ints {ns : List Int} : blkA (ns.map .int) = ns.length := by
  induction ns with
  | nil => rfl
  | cons n r ih => show 0 + 1 + blkA (r.map .int) = r.length + 1; rw [ih]; omega
theorem Fit.intsL {ns : List Int} (h : ∀ n ∈ ns, n.natAbs < 10 ^ 40) (hl : ns.length ≤ 100000) : Fit (.lst (ns.map .int)) := ⟨fitA_ints h, by show depA (ns.map .int) + 1 ≤ 60; rw [depA_ints]; decide, by show blkA (ns.map .int) ≤ _; rw [blkA_ints]; exact hl⟩
theorem Fit.intsT {ns : List Int} (h : ∀ n ∈ ns, n.natAbs < 10 ^ 40) (hl : ns.length ≤ 100000) : Fit (.tup (ns.map .int)) := ⟨fitA_ints h, by show depA (ns.map .int) + 1 ≤ 60; rw [depA_ints]; decide, by show blkA (ns.map .int) ≤ _; rw [blkA_ints]; exact hl⟩
/-- a list of two alike -/
theorem Fit.two {d : DV} (h : Fit d) (hd : dep d ≤ 50) (hb : blk d ≤ 40000) : Fit (.lst [d, d]) := ⟨by show (fit d && (fit d && true)) = true; rw [h.f]; rfl, by show max (dep d) (max (dep d) 0) + 1 ≤ 60; omega, by show blk d + 1 + (blk d + 1 + 0) ≤ 100000; omega⟩
theorem eq_nil_ints {ns : List Int} : eqD (.lst (ns.map .int)) (.lst []) = ns.isEmpty := by
  cases ns with
  | nil => rfl
  | cons n r =>
    unfold eqD
    cases h : toPy (.lst ((n :: r).map .int)) with
    | none => rfl
    | some p =>
      have : ∃ ps q, p = .list (q :: ps) := by
        unfold toPy at h
        cases h2 : toPyA ((n :: r).map DV.int) with
        | none => rw [h2] at h; cases h
        | some qs =>
          rw [h2] at h
          cases h
          unfold List.map toPyA at h2
          cases h3 : toPyA (r.map DV.int) with
          | none => rw [h3] at h2; cases h2
          | some rs => rw [h3] at h2; cases h2; exact ⟨_, _, rfl⟩
      obtain ⟨ps, q, rfl⟩ := this
      rfl
end DD

set_option Elab.async false
set_option linter.all false
set_option maxRecDepth 100000
set_option maxHeartbeats 4000000
namespace DD
open PySem PySem.Spec PyProof.Rows L2
/-- what is not come to -/
def tNv : TE := fun _ _ _ => False
theorem pe_nv {X : Cx} {e : Expr} : PE X e tNv := ⟨fun _ _ _ _ _ _ h => h.elim⟩
section
variable {K : PySem.W.Frag} {ρ : Rho} {M : Ms} {ta : TE} {R : DV → Ms → Prop}
theorem rpa_rg {F : Hp} {a : Int} : ∀ (n : Nat), RpA K F ((List.range n).map fun i => V.int (a + (i : Nat))) ((List.range n).map fun i : Nat => DV.int (a + (i : Nat)))
  | 0 => .nil
  | n + 1 => by
    rw [List.range_succ, List.map_append, List.map_append]
    exact (rpa_rg n).snoc (.int _)
/-- list(range(n)) -/
theorem ev_listRg1 {K : KB} {n : Int} (h : Ev K ta ρ M (.int n)) (h0 : 0 ≤ n) (h1 : n ≤ 100000) : Ev K (tLstRg (tRg1 ta)) ρ M (.lst ((List.range n.toNat).map fun i : Nat => DV.int (0 + (i : Nat)))) := fun N F σ H S Q q => h N F σ H S _ fun v d M' F1 H1 e1 ⟨hd, hm⟩ w1 r1 => by
  subst hd hm
  refine ⟨n, r1.int_of, RgOk.of_le (Int.le_refl 0) (by omega) (by omega) h0, fun p hp => ?_⟩
  refine q _ _ _ _ _ (e1.trans (ex_new (w1.fresh hp))) ⟨rfl, rfl⟩ (w1.new hp _) (.lst upd_same ?_)
  show RpA K _ (rgV 0 n) _
  unfold rgV
  rw [Int.sub_zero]
  exact rpa_rg _
/-- a text in a tuple of texts -/
theorem rv_inS {s : Str} {ss : List Str} : RV K (rIn K false) (.str s) (.tup (ss.map .str)) M (.bl (ss.any fun t => t == s)) := fun N F u v H w h1 h2 Q k => by
  obtain ⟨a, xs, rfl, ha, ra⟩ := h2.tup_of
  have hx := ra.strs_of
  subst hx
  rw [h1.str_of]
  refine ⟨a, _, rfl, .inr (Evl.ex_t w.fr ha), rfl, ?_, ?_⟩
  · rw [List.all_eq_true]; intro x hx; obtain ⟨t, _, rfl⟩ := List.mem_map.mp hx; rfl
  · show Q (.bl (inV (.str s) (ss.map .str))) H
    have e : inV (.str s) (ss.map V.str) = ss.any fun t => t == s := by unfold inV; rw [List.any_map]; rfl
    rw [e]
    exact k _ _ M F H (Evl.Ex.refl F) ⟨rfl, rfl⟩ w (.bl _)
/-- max of an owned list -/
theorem rcr_maxC {ns : List Int} {a : Addr} (hm : (a, MO.lst (ns.map DV.int)) ∈ M) (h0 : 0 < ns.length) (k : ∀ m, m ∈ ns → (∀ y, y ∈ ns → y ≤ m) → R (.int m) M) : RCR K (rMax K) [.raw (.ref a)] M R := fun N F us H w hr Q q => by
  obtain ⟨u, rfl, r1⟩ := rpa1 hr
  cases r1.raw_of
  obtain ⟨_, xs, ha, ra⟩ := w.ce a _ (List.mem_append_right N hm)
  exact ⟨a, ns, rfl, by rw [← ra.ints_of]; exact SqL.of ha, h0, fun m h1 h2 => q _ _ M F H (Evl.Ex.refl F) (k m h1 h2) w (.int m)⟩
end
end DD

set_option Elab.async false
set_option linter.all false
set_option maxRecDepth 100000
set_option maxHeartbeats 4000000
namespace DD
open PySem PySem.Spec PyProof.Rows L2
section
variable {X : Cx} (K : PySem.W.Frag) (hK : X.K = K)
include hK
theorem wListOf : CallR X (.type "list") (Evl.rListS K) := hK ▸ call_list_of
end
section
variable {K : PySem.W.Frag} {ρ : Rho} {M : Ms} {ds es : List DV} {te : TE} {R : DV → Ms → Prop}
theorem rc_listT : RC K (Evl.rListS K) [.tup ds] M (.lst ds) := fun N F us H w hr Q k => by
  obtain ⟨u, rfl, r1⟩ := rpa1 hr
  obtain ⟨a, xs, rfl, ha, ra⟩ := r1.tup_of
  exact ⟨a, xs, rfl, .inr (Evl.ex_t w.fr ha), fun p hp => k _ _ M _ _ (ex_new (w.fresh hp)) ⟨rfl, rfl⟩ (w.new hp _) (.lst upd_same (ra.mono (ex_new (w.fresh hp))))⟩
theorem rc_listL : RC K (Evl.rListS K) [.lst ds] M (.lst ds) := fun N F us H w hr Q k => by
  obtain ⟨u, rfl, r1⟩ := rpa1 hr
  obtain ⟨a, xs, rfl, ha, ra⟩ := r1.lst_of
  exact ⟨a, xs, rfl, .inl (SqL.of (w.fr _ _ ha)), fun p hp => k _ _ M _ _ (ex_new (w.fresh hp)) ⟨rfl, rfl⟩ (w.new hp _) (.lst upd_same (ra.mono (ex_new (w.fresh hp))))⟩
/-- an owned list and another one: owned -/
theorem rvr_addC {a : Addr} (hm : (a, MO.lst ds) ∈ M) (hl : ds.length + es.length ≤ 100000) (k : ∀ p, R (.raw (.ref p)) ((p, .lst (ds ++ es)) :: M)) : RVR K (rAddU K) (.raw (.ref a)) (.lst es) M R := fun N F u v H w h1 h2 Q q => .inr (.inr (.inr (by
  cases h1.raw_of
  obtain ⟨_, xs, hx, rx⟩ := w.ce a _ (List.mem_append_right N hm)
  obtain ⟨b, ys, rfl, hb, rb⟩ := h2.lst_of
  refine ⟨a, b, xs, ys, rfl, rfl, hx, w.fr _ _ hb, Evl.sz_of (by rw [rx.length, rb.length]; exact hl), fun p hp => ?_⟩
  exact q _ _ ((p, .lst (ds ++ es)) :: M) F _ (Evl.Ex.refl F) (k p) ((w.cell hp (mo := .lst (ds ++ es)) ⟨_, upd_same, rx.append rb⟩).perm List.perm_middle) (.raw _))))
/-- .. not owned -/
theorem rv_addC {a : Addr} (hm : (a, MO.lst ds) ∈ M) (hl : ds.length + es.length ≤ 100000) : RV K (rAddU K) (.raw (.ref a)) (.lst es) M (.lst (ds ++ es)) := fun N F u v H w h1 h2 Q q => .inr (.inr (.inr (by
  cases h1.raw_of
  obtain ⟨_, xs, hx, rx⟩ := w.ce a _ (List.mem_append_right N hm)
  obtain ⟨b, ys, rfl, hb, rb⟩ := h2.lst_of
  refine ⟨a, b, xs, ys, rfl, rfl, hx, w.fr _ _ hb, Evl.sz_of (by rw [rx.length, rb.length]; exact hl), fun p hp => ?_⟩
  have hn := w.fresh hp
  exact q _ _ M _ _ (ex_new hn) ⟨rfl, rfl⟩ (w.new hp _) (.lst upd_same ((rx.append rb).mono (ex_new hn))))))
theorem evr_drop2 {K : KB} (h : EvR K te ρ M fun d M1 => ∃ c c' M2, M1 = c :: c' :: M2 ∧ R d (c :: M2)) : EvR K te ρ M R := fun N F σ H Z Q q =>
  h N F σ H Z Q fun v d M1 F1 H1 e1 ⟨c, c', M2, hm, hr⟩ w1 r1 => by
    subst hm
    exact q _ _ (c :: M2) F1 H1 e1 hr (w1.perm (List.perm_middle.symm.trans ((List.Perm.swap c c' M2).append_left N))).drop r1
end
end DD

set_option Elab.async false
set_option linter.all false
set_option maxRecDepth 100000
set_option maxHeartbeats 4000000
namespace DD
open PySem PySem.Spec PyProof.Rows L2
/-! max of a tuple of ints; is True -/
def rMaxT (K : PySem.W.Frag) : List V → Hp → VK → Prop := fun vs H Q => ∃ (a : Addr) (ns : List Int), vs = [V.ref a] ∧ SqT K H a (ns.map V.int) ∧ 0 < ns.length ∧ ∀ m, m ∈ ns → (∀ y, y ∈ ns → y ≤ m) → Q (.int m) H
theorem hold_ints {h : Heap} {vs : List Value} {ns : List Int} (hi : IntsAre vs ns) : PySem.W.HoldAll h vs ns := by
  induction hi with
  | nil => exact ⟨_, .nil⟩
  | cons n t _ ih => obtain ⟨as, r⟩ := ih; exact ⟨_, .cons (.int n t) r⟩
theorem maxOf_int : ∀ (xs : List Int) (x : Int), PySem.W.maxOf x xs ∈ x :: xs ∧ ∀ y ∈ x :: xs, y ≤ PySem.W.maxOf x xs
  | [], x => ⟨List.mem_cons_self, fun y h => by rw [List.mem_singleton.mp h]; exact Int.le_refl _⟩
  | z :: r, x => by
    have e : PySem.W.maxOf x (z :: r) = PySem.W.maxOf (if decide (x < z) = true then z else x) r := rfl
    have ih := maxOf_int r (if decide (x < z) = true then z else x)
    rw [e]
    have hh := ih.2 _ List.mem_cons_self
    refine ⟨?_, fun y hy => ?_⟩
    · rcases List.mem_cons.mp ih.1 with h | h
      · rw [h]; split
        · exact List.mem_cons_of_mem _ List.mem_cons_self
        · exact List.mem_cons_self
      · exact List.mem_cons_of_mem _ (List.mem_cons_of_mem _ h)
    · rcases List.mem_cons.mp hy with rfl | hy
      · refine Int.le_trans ?_ hh
        split
        · rename_i h; exact Int.le_of_lt (of_decide_eq_true h)
        · exact Int.le_refl _
      · rcases List.mem_cons.mp hy with rfl | hy
        · refine Int.le_trans ?_ hh
          split
          · exact Int.le_refl _
          · rename_i h; exact Int.not_lt.mp fun z => h (decide_eq_true z)
        · exact ih.2 y (List.mem_cons_of_mem _ hy)
theorem cr_maxT {X : Cx} {k : Nat} (hr : Room k X.A) : CallR X (.builtin "max") (rMaxT X.K) := by
  intro pins s σ H vs us Q I r h
  obtain ⟨a, ns, rfl, hs, hne, q⟩ := h
  obtain ⟨its, rv, hl, _⟩ := I.tuple hs
  rw [Vals.ref1 r]
  cases ns with
  | nil => exact absurd hne (Nat.lt_irrefl 0)
  | cons x xs =>
    refine PySem.W.max_tuple_datum (x := x) (xs := xs) hr.hd hl (hold_ints rv.ints) (by have := hr.units; show X.A.units + 1 + 0 < cLine; omega) fun i v h' tk hv hh hk => ?_
    obtain ⟨as, hh⟩ := hh
    have hm := maxOf_int xs x
    generalize PySem.W.maxOf x xs = m at hh hm
    cases hh with
    | int _ t => exact ⟨.int _, H, I.kept hk, ⟨_, rfl⟩, q m hm.1 hm.2⟩
theorem wMaxT {X : Cx} (K : PySem.W.Frag) (hK : X.K = K) {k : Nat} (hr : Room k X.A) : CallR X (.builtin "max") (rMaxT K) := hK ▸ cr_maxT hr
def rNotB : R2 := fun x y H Q => ∃ c d, x = .bl c ∧ y = .bl d ∧ Q (.bl (c != d)) H
theorem op_notB {X : Cx} : OpR X (compareOp .IsNot) rNotB := by
  intro pins s σ H x y v u Q I rx ry h
  obtain ⟨c, d, rfl, rfl, q⟩ := h
  cases rx; cases ry
  exact isnot_bool ⟨.bl _, H, I, rfl, q⟩
section
variable {K : PySem.W.Frag} {M : Ms} {R : DV → Ms → Prop}
theorem rcr_maxT {ns : List Int} (h0 : 0 < ns.length) (k : ∀ m, m ∈ ns → (∀ y, y ∈ ns → y ≤ m) → R (.int m) M) : RCR K (rMaxT K) [.tup (ns.map DV.int)] M R := fun N F us H w hr Q q => by
  obtain ⟨u, rfl, r1⟩ := rpa1 hr
  obtain ⟨a, xs, rfl, ha, ra⟩ := r1.tup_of
  exact ⟨a, ns, rfl, by rw [← ra.ints_of]; exact Evl.ex_t w.fr ha, h0, fun m h1 h2 => q _ _ M F H (Evl.Ex.refl F) (k m h1 h2) w (.int m)⟩
theorem rv_notB {c d : Bool} : RV K rNotB (.bl c) (.bl d) M (.bl (c != d)) := fun N F u v H w h1 h2 Q k => ⟨c, d, h1.bl_of, h2.bl_of, k _ _ M F H (Evl.Ex.refl F) ⟨rfl, rfl⟩ w (.bl _)⟩
end
end DD

set_option Elab.async false
set_option linter.all false
set_option maxRecDepth 100000
set_option maxHeartbeats 4000000
namespace DD
open PySem PySem.Spec PyProof.Rows L2
/-! an empty dict; what it is shown as -/
def rReprE : List V → Hp → VK → Prop := fun xs H Q => ∃ p, xs = [.ref p] ∧ H p = some (.dK []) ∧ Q (.str (PyData.shown (.dict []))) H
def rReprU (K : PySem.W.Frag) : List V → Hp → VK → Prop := fun xs H Q => rRepr K xs H Q ∨ rReprE xs H Q
theorem call_reprE {X : Cx} {k : Nat} (hG : X.A.guards = some []) (hr : Room k X.A) : CallR X (.builtin "repr") rReprE := by
  intro pins z σ H xs us Q I r h
  obtain ⟨p, rfl, hp, q⟩ := h
  obtain ⟨u, rfl, ru⟩ := vals1 r
  cases (show u = Value.ref p from ru)
  obtain ⟨_, hsm, vs, rel, o, es, ep, ho, hx, hd, _, hpr, _⟩ := dk_of I.hok hp
  cases rel
  have he : es.toList = [] := by
    generalize es.toList = l at hpr ⊢
    cases hpr; rfl
  have rd : Reads z.heap (.ref p) (.dict []) (p :: [] ++ []) := .dict ho hx.1 hd (by rw [he]; exact .nil) (by rw [he]; exact .nil)
  have hu : X.A.units + ((PyData.dict []).depth + 1) < cLine := by have := hr.units; show X.A.units + (1 + 1) < cLine; omega
  exact PySem.repr_of_reads' rd rfl (fun _ hm => by
    have e : sysModules = p := by simpa using hm
    subst e
    simp at hsm) hG hu (fun _ _ e => e) (fun g tk tk2 hk => ⟨.str _, H, I.kept hk, ⟨_, rfl⟩, q⟩) (by decide +kernel)
theorem wReprU {X : Cx} (K : PySem.W.Frag) (hK : X.K = K) {k : Nat} (hG : X.A.guards = some []) (hr : Room k X.A) : CallR X (.builtin "repr") (rReprU K) := hK ▸ callR_or (call_reprD hG hr) (call_reprE hG hr)
section
variable {K : PySem.W.Frag} {ρ : Rho} {M : Ms} {x : DV} {R : DV → Ms → Prop}
theorem ev_dic {K : KB} : Ev K tDNewK ρ M .dic := fun N F σ H S Q q => fun p hp => q _ _ _ _ _ (ex_new (S.w.fresh hp)) ⟨rfl, rfl⟩ (S.w.new hp _) (.dic upd_same)
theorem rc_showU (h : Fit x) : RC K (rReprU K) [x] M (.str (showD x)) := fun N F us H w hr Q k => .inl (rc_show h N F us H w hr Q k)
theorem rc_showE : RC K (rReprU K) [.dic] M (.str (PyData.shown (.dict []))) := fun N F us H w hr Q k => by
  obtain ⟨u, rfl, r1⟩ := rpa1 hr
  cases r1 with
  | dic h => exact .inr ⟨_, rfl, w.fr _ _ h, k _ _ M F H (Evl.Ex.refl F) ⟨rfl, rfl⟩ w (.str _)⟩
end
end DD

set_option Elab.async false
set_option linter.all false
set_option maxRecDepth 100000
set_option maxHeartbeats 4000000
namespace PySem.W
open PySem PySem.SeqAt PyProof.Rows
section
variable {prog : Program} {w : World} {A : Around} {E : Value → Shared → Prop} {s : Shared}
/-- min of a list of alike data: which item it is -/
theorem min_list_ixD {p : Addr} {ys : Array Value} {d : PyData} {ds : List PyData} {js : List Addr} {Q : Value → Shared → Prop} (h0 : A.handled = none) (h1 : s.heap.IsList p ys) (h2 : ReadsAll s.heap ys.toList (d :: ds) js) (h3 : AlikeAll (d :: ds)) (h4 : A.units + 1 + PyData.depthAll (d :: ds) < cLine)
    (k : ∀ (i : Nat) y g tk, ys[i]? = some y → (d :: ds).getD i .none = minD d ds → (∀ b o, s.heap.get? b = some o → g.get? b = some o) → Q y { s with heap := g, toks := tk }) :
    wpAny (model prog w) A (call (.builtin "min") [.ref p]) Q E s := by
  have size : ys.size = ds.length + 1 := readsAll_len h2
  refine call_min_walkH (iter_listW (A := A.in1) h0 h1 fun z2 eq1 walks start pins writes keeps => ?_)
  refine ⟨_, _, _, _, _, _, _, s.heap, _, rfl, walks, start, pins, by omega, writes, keeps, cmpIn_lt (A := A.in1) h2 h3 (by show A.units + 1 + _ < _; exact h4), fun y z3 at' moves => ?_⟩
  obtain ⟨g, tk, rfl, old⟩ := moved_old eq1 rfl moves
  have last : ys.size - 1 = ds.length := by omega
  have fold := (argBest_fold dataLt PyData.none d ds ds.length (Nat.le_refl _)).2
  rw [List.take_length] at fold
  refine k _ y g tk at' ?_ old
  rw [last]
  exact fold
end
end PySem.W
namespace DD
open PySem PySem.Spec PyProof.Rows L2
abbrev TI3 := PySem.W.T3 Int Int Int
/-- three ints -/
def tri (t : TI3) : DV := .tup [.int t.a, .int t.b, .int t.c]
def rMinT (K : PySem.W.Frag) : List V → Hp → VK → Prop := fun vs H Q => ∃ (a : Addr) (xs : List V) (t : TI3) (ts : List TI3), vs = [V.ref a] ∧ SqL K H a xs ∧ DpAll K H xs ((t :: ts).map PySem.W.Datum.toD) ∧ ∀ (i : Nat) (x : V), xs[i]? = some x → (t :: ts)[i]? = some (PySem.W.minOf t ts) → Q x H
theorem vals_at : ∀ {xs : List V} {us : List Value} {i : Nat} {u : Value}, Vals xs us → us[i]? = some u → ∃ x, xs[i]? = some x ∧ RelV x u
  | _, _, _, _, .nil, h => by simp at h
  | _, _, 0, _, .cons r _, h => by simp at h; subst h; exact ⟨_, rfl, r⟩
  | _, _, i + 1, u, .cons _ t, h => by
    obtain ⟨x, h1, h2⟩ := vals_at (i := i) (u := u) t (by simpa using h)
    exact ⟨x, by simpa using h1, h2⟩
theorem toD_inj {t u : TI3} (h : (PySem.W.Datum.toD t : PyData) = PySem.W.Datum.toD u) : t = u := by
  obtain ⟨a, b, c⟩ := t
  obtain ⟨d, e, f⟩ := u
  have h : PyData.tuple [.int a, .int b, .int c] = PyData.tuple [.int d, .int e, .int f] := h
  injection h with h
  injection h with h1 h
  injection h with h2 h
  injection h with h3 h
  injection h1 with h1
  injection h2 with h2
  injection h3 with h3
  subst h1 h2 h3; rfl
theorem cr_minT {X : Cx} {k : Nat} (hr : Room k X.A) : CallR X (.builtin "min") (rMinT X.K) := by
  intro pins s σ H vs us Q I r h
  obtain ⟨a, xs, t, ts, rfl, hs, hd, q⟩ := h
  obtain ⟨its, rv, hl, _⟩ := I.list hs
  rw [Vals.ref1 r]
  obtain ⟨as, hrd⟩ := Dp.readsAll I _ _ _ hd rv
  have hal := PySem.W.alikeAll_datum (t :: ts)
  have hdep : PyData.depthAll (PySem.W.Datum.toD t :: ts.map PySem.W.Datum.toD) ≤ PySem.W.Datum.depth TI3 := PySem.W.depthAll_map (t :: ts)
  have hmn := PySem.W.minD_map t ts
  have hu := hr.units
  have hdp : PySem.W.Datum.depth TI3 ≤ 10 := by decide
  refine PySem.W.min_list_ixD hr.hd hl.isList (by simpa using hrd) hal (Nat.lt_of_le_of_lt (Nat.add_le_add_left hdep _) (by omega)) fun i v h' tk hi he hk => ?_
  have hi2 : its[i]? = some v := by simpa using hi
  obtain ⟨x, hx, rx⟩ := vals_at rv hi2
  rw [hmn] at he
  have hlen : i < (t :: ts).length := by
    have h1 := (List.getElem?_eq_some_iff.mp hi2).1
    have h2 := rv.length
    have h3 : xs.length = ((t :: ts).map PySem.W.Datum.toD).length := by
      have : ∀ {vs : List V} {ds : List PyData}, DpAll X.K H vs ds → vs.length = ds.length := fun {vs ds} h => by
        induction ds generalizing vs with
        | nil => cases h; rfl
        | cons d r ih => cases h with | cons _ t => simp [ih t]
      exact this hd
    rw [List.length_map] at h3
    omega
  refine ⟨x, H, I.kept hk, rx, q i x hx ?_⟩
  rw [List.getElem?_eq_getElem hlen]
  congr 1
  refine toD_inj ?_
  have : (PySem.W.Datum.toD t :: ts.map PySem.W.Datum.toD).getD i PyData.none = PySem.W.Datum.toD ((t :: ts)[i]) := by
    rw [← List.map_cons, List.getD_eq_getElem?_getD, List.getElem?_map, List.getElem?_eq_getElem hlen]; rfl
  rw [← this]
  exact he
theorem wMinT {X : Cx} (K : PySem.W.Frag) (hK : X.K = K) {k : Nat} (hr : Room k X.A) : CallR X (.builtin "min") (rMinT K) := hK ▸ cr_minT hr
theorem minOf_le : ∀ (ts : List TI3) (t : TI3), PySem.W.minOf t ts ∈ t :: ts ∧ ∀ u ∈ t :: ts, (PySem.W.minOf t ts).a ≤ u.a
  | [], t => ⟨List.mem_cons_self, fun u h => by rw [List.mem_singleton.mp h]; exact Int.le_refl _⟩
  | z :: r, t => by
    have e : PySem.W.minOf t (z :: r) = PySem.W.minOf (if PySem.W.DatumOrd.lt z t = true then z else t) r := rfl
    have ih := minOf_le r (if PySem.W.DatumOrd.lt z t = true then z else t)
    have hlt : PySem.W.DatumOrd.lt z t = if z.a = t.a then (if z.b = t.b then decide (z.c < t.c) else decide (z.b < t.b)) else decide (z.a < t.a) := rfl
    rw [e]
    have hh := ih.2 _ List.mem_cons_self
    have hz : (if PySem.W.DatumOrd.lt z t = true then z else t).a ≤ z.a ∧ (if PySem.W.DatumOrd.lt z t = true then z else t).a ≤ t.a := by
      split
      · rename_i h
        rw [hlt] at h
        split at h
        · rename_i e1; exact ⟨Int.le_refl _, by omega⟩
        · have := of_decide_eq_true h; exact ⟨Int.le_refl _, by omega⟩
      · rename_i h
        rw [hlt] at h
        split at h
        · rename_i e1; exact ⟨by omega, Int.le_refl _⟩
        · have : ¬ z.a < t.a := fun z2 => h (decide_eq_true z2)
          exact ⟨by omega, Int.le_refl _⟩
    refine ⟨?_, fun u hu => ?_⟩
    · rcases List.mem_cons.mp ih.1 with h | h
      · rw [h]; split
        · exact List.mem_cons_of_mem _ List.mem_cons_self
        · exact List.mem_cons_self
      · exact List.mem_cons_of_mem _ (List.mem_cons_of_mem _ h)
    · rcases List.mem_cons.mp hu with rfl | hu
      · omega
      · rcases List.mem_cons.mp hu with rfl | hu
        · omega
        · exact ih.2 u (List.mem_cons_of_mem _ hu)
theorem toPyA_tri : ∀ ts : List TI3, toPyA (ts.map tri) = some (ts.map PySem.W.Datum.toD)
  | [] => rfl
  | t :: r => by
    show (match toPy (tri t), toPyA (r.map tri) with | some y, some ys => some (y :: ys) | _, _ => none) = _
    rw [toPyA_tri r]; rfl
theorem rcr_minT {K : PySem.W.Frag} {M : Ms} {R : DV → Ms → Prop} {ts : List TI3} (h0 : 0 < ts.length) (k : ∀ t, t ∈ ts → (∀ u, u ∈ ts → t.a ≤ u.a) → R (tri t) M) : RCR K (rMinT K) [.lst (ts.map tri)] M R := fun N F us H w hr Q q => by
  obtain ⟨u, rfl, r1⟩ := rpa1 hr
  obtain ⟨a, xs, rfl, ha, ra⟩ := r1.lst_of
  cases ts with
  | nil => exact absurd h0 (Nat.lt_irrefl 0)
  | cons t ts =>
    refine ⟨a, xs, t, ts, rfl, SqL.of (w.fr _ _ ha), RpA.dp w.fr ra (toPyA_tri (t :: ts)), fun i x hx hi => ?_⟩
    obtain ⟨d, hd, rd⟩ := ra.get' hx
    rw [List.getElem?_map, hi] at hd
    cases hd
    have hm := minOf_le ts t
    exact q _ _ M F H (Evl.Ex.refl F) (k _ hm.1 hm.2) w rd
end DD

set_option Elab.async false
set_option linter.all false
set_option maxRecDepth 100000
set_option maxHeartbeats 4000000
namespace DD
open PySem PySem.Spec PyProof.Rows L2
/-! list * int -/
theorem RpA.rep {K : PySem.W.Frag} {F : Hp} {vs : List V} {ds : List DV} (h : RpA K F vs ds) : ∀ n : Nat, RpA K F (List.replicate n vs).flatten (List.replicate n ds).flatten
  | 0 => .nil
  | n + 1 => by
    rw [List.replicate_succ, List.replicate_succ, List.flatten_cons, List.flatten_cons]
    exact h.append (RpA.rep h n)
theorem rv_mulL {K : PySem.W.Frag} {M : Ms} {ds : List DV} {k : Int} (h0 : -(2 ^ 63) ≤ k ∧ k < 2 ^ 63) (hl : ds.length * k.toNat ≤ 100000) : RV K (rMulU K) (.lst ds) (.int k) M (.lst (List.replicate k.toNat ds).flatten) := fun N F u v H w h1 h2 Q q => .inr (.inr (.inl (by
  obtain ⟨a, xs, rfl, ha, ra⟩ := h1.lst_of
  cases h2.int_of
  refine ⟨a, k, xs, rfl, rfl, w.fr _ _ ha, h0.1, h0.2, Evl.sz_of (by rw [ra.length]; exact hl), fun p hp => ?_⟩
  have hn := w.fresh hp
  exact q _ _ M _ _ (ex_new hn) ⟨rfl, rfl⟩ (w.new hp _) (.lst upd_same ((ra.rep _).mono (ex_new hn))))))
/-- tuple * int -/
theorem rv_mulT {K : PySem.W.Frag} {M : Ms} {ds : List DV} {k : Int} (h0 : 2 ≤ k ∧ k ≤ 1000) (hn : ds ≠ []) (hl : ds.length ≤ 1000) : RV K (rMulU K) (.tup ds) (.int k) M (.tup (List.replicate k.toNat ds).flatten) := fun N F u v H w h1 h2 Q q => .inr (.inl (by
  obtain ⟨a, xs, rfl, ha, ra⟩ := h1.tup_of
  cases h2.int_of
  refine ⟨a, k, xs, rfl, rfl, Evl.ex_t w.fr ha, fun e => hn (by subst e; cases ra; rfl), h0.1, h0.2, by rw [ra.length]; exact hl, fun p hp => ?_⟩
  have hn := w.fresh hp
  exact q _ _ M _ _ (ex_new hn) ⟨rfl, rfl⟩ (w.new hp _) (.tup (SqT.of upd_same) ((ra.rep _).mono (ex_new hn)))))
/-- .. once, not at all -/
theorem rv_mulT1 {K : PySem.W.Frag} {M : Ms} {d : DV} {ds : List DV} : RV K (rMulU K) (.tup (d :: ds)) (.int 1) M (.tup (d :: ds)) := fun N F u v H w h1 h2 Q q => .inr (.inr (.inr (by
  obtain ⟨a, xs, rfl, ha, ra⟩ := h1.tup_of
  cases h2.int_of
  exact ⟨a, xs, rfl, Evl.ex_t w.fr ha, (fun e => by subst e; cases ra), .inl ⟨rfl, q _ _ M F H (Evl.Ex.refl F) ⟨rfl, rfl⟩ w (.tup ha ra)⟩⟩)))
theorem rv_mulT0 {K : PySem.W.Frag} {M : Ms} {d : DV} {ds : List DV} : RV K (rMulU K) (.tup (d :: ds)) (.int 0) M (.tup []) := fun N F u v H w h1 h2 Q q => .inr (.inr (.inr (by
  obtain ⟨a, xs, rfl, ha, ra⟩ := h1.tup_of
  cases h2.int_of
  exact ⟨a, xs, rfl, Evl.ex_t w.fr ha, (fun e => by subst e; cases ra), .inr ⟨rfl, fun p hp => q _ _ M _ _ (ex_new (w.fresh hp)) ⟨rfl, rfl⟩ (w.new hp _) (.tup (SqT.of upd_same) .nil)⟩⟩)))
/-- a tuple of n alike -/
theorem rv_mulTn {K : PySem.W.Frag} {M : Ms} {d : DV} {k : Int} (h0 : 0 ≤ k ∧ k ≤ 1000) : RV K (rMulU K) (.tup [d]) (.int k) M (.tup (List.replicate k.toNat d)) := by
  by_cases h1 : k = 0
  · subst h1; exact rv_mulT0
  · by_cases h2 : k = 1
    · subst h2; exact rv_mulT1
    · have := rv_mulT (K := K) (M := M) (ds := [d]) (k := k) ⟨by omega, h0.2⟩ (by simp) (by simp)
      rw [show (List.replicate k.toNat [d]).flatten = List.replicate k.toNat d by
        generalize k.toNat = n
        induction n with
        | zero => rfl
        | succ n ih => rw [List.replicate_succ, List.flatten_cons, ih, List.replicate_succ]; rfl] at this
      exact this
end DD

set_option Elab.async false
set_option linter.all false
set_option maxRecDepth 100000
set_option maxHeartbeats 4000000
namespace DD
open PySem PySem.Spec PyProof.Rows L2
/-! rules that hand on what comes, for walks by word -/
section
variable {K : PySem.W.Frag} {ρ : Rho} {M : Ms} {R : DV → Ms → Prop} {RB : Bool → Ms → Prop} {te ta tb to : TE} {t u : TS} {tt : TT} {P : Post} {d x y z : DV} {ds es : List DV} {A B : Prop}
theorem w_var {K : KB} {i : Nat} (h : ρ[i]? = some (some d)) (k : R d M) : EvR K (tVar i) ρ M R := (ev_var h).go k
theorem w_cI {K : KB} {i : Int} (k : R (.int i) M) : EvR K (tC (.int i)) ρ M R := ev_cI.go k
theorem w_cB {K : KB} {i : Bool} (k : R (.bl i) M) : EvR K (tC (.bl i)) ρ M R := ev_cB.go k
theorem w_cN {K : KB} (k : R .non M) : EvR K (tC .non) ρ M R := ev_cN.go k
theorem w_cS {K : KB} {i : Str} (k : R (.str i) M) : EvR K (tC (.str i)) ρ M R := ev_cS.go k
theorem w_cT {K : KB} {n : String} (k : R (.raw (.ty n)) M) : EvR K (tC (.ty n)) ρ M R := ev_cT.go k
theorem w_cR {K : KB} {a : Addr} (k : R (.raw (.ref a)) M) : EvR K (tC (.ref a)) ρ M R := ev_cR.go k
/-- a field, of what stays or of what is owned -/
def FldR (K : PySem.W.Frag) (f : Str) (x : DV) (M : Ms) (R : DV → Ms → Prop) : Prop :=
  (∃ C fs d, x = .ins C fs ∧ Cls K C ∧ NoAttr K C f ∧ fs.lookup f = some d ∧ R d M) ∨ (∃ a C fs d, x = .raw (.ref a) ∧ (a, MO.ins C fs) ∈ M ∧ Cls K C ∧ NoAttr K C f ∧ fs.lookup f = some d ∧ R d M)
theorem w_fld {K : KB} {f : Str} (h : EvR K ta ρ M fun x M1 => FldR K f x M1 R) : EvR K (tFld K ta f) ρ M R := fun N F σ H S Q q => h N F σ H S _ fun v d M1 F1 H1 e1 hd w1 r1 => by
  rcases hd with ⟨C, fs, d', rfl, c, n, l, hr⟩ | ⟨a, C, fs, d', rfl, hm, c, n, l, hr⟩
  · obtain ⟨b, dx, gs, rfl, hg, hf⟩ := r1.ins_of
    obtain ⟨u, hu, ru⟩ := hf.lookup l
    exact ⟨b, C, dx, gs, u, rfl, w1.fr _ _ hg, c, n, hu, q u d' M1 F1 H1 e1 hr w1 ru⟩
  · cases r1.raw_of
    obtain ⟨_, dx, gs, hg, hf⟩ := w1.ce a _ (List.mem_append_right N hm)
    obtain ⟨u, hu, ru⟩ := hf.lookup l
    exact ⟨a, C, dx, gs, u, rfl, hg, c, n, hu, q u d' M1 F1 H1 e1 hr w1 ru⟩
theorem FldR.ins {f : Str} {C : Addr} {fs : List (Str × DV)} (c : Cls K C) (n : NoAttr K C f) (l : fs.lookup f = some d) (k : R d M) : FldR K f (.ins C fs) M R := .inl ⟨_, _, _, rfl, c, n, l, k⟩
theorem FldR.own {f : Str} {a C : Addr} {fs : List (Str × DV)} (hm : (a, MO.ins C fs) ∈ M) (c : Cls K C) (n : NoAttr K C f) (l : fs.lookup f = some d) (k : R d M) : FldR K f (.raw (.ref a)) M R := .inr ⟨_, _, _, _, rfl, hm, c, n, l, k⟩
/-- a method, of what stays or of what is owned -/
def MethR (K : KB) (C : Addr) (m : Str) (S : SpecD) (t : TA) (ρ : Rho) (x : DV) (M : Ms) (R : DV → Ms → Prop) : Prop :=
  (∃ fs, x = .ins C fs ∧ fs.lookup m = none ∧ EvAR K t ρ M fun ds M2 => S (.ins C fs :: ds) M2 R) ∨ (∃ a fs, x = .raw (.ref a) ∧ (a, MO.ins C fs) ∈ M ∧ fs.lookup m = none ∧ EvAR K t ρ M fun ds M2 => S (.raw (.ref a) :: ds) M2 R)
theorem w_meth {K : KB} {S : SpecD} {E : XK} {ta' : TA} {C : Addr} {m : Str} (h : EvR K ta ρ M fun x M1 => MethR K C m S ta' ρ x M1 R) : EvR K (tMeth C m (spD K S) [] E ta ta') ρ M R := fun N F σ H Z Q q =>
  h N F σ H Z _ fun v x M1 F1 H1 e1 hx w1 r1 => by
    rcases hx with ⟨fs, rfl, hl, h1⟩ | ⟨a, fs, rfl, hm, hl, h1⟩
    · obtain ⟨a, dx, gs, rfl, ha, hf⟩ := id r1.ins_of
      refine ⟨a, dx, gs, rfl, w1.fr _ _ ha, hf.lookup_none hl, ?_⟩
      refine h1 N F1 σ H1 ⟨w1, Z.e.mono e1, Z.bm e1⟩ _ fun vs ds M2 F2 H2 e2 h2 w2 r2 => ?_
      rw [List.append_nil]
      exact ⟨F2, N, M2, _, R, w2, .cons (r1.mono e2) r2, h2, fun v d M3 F3 H3 e3 hr w3 r3 => q v d M3 F3 H3 ((e1.trans e2).trans e3) hr w3 r3⟩
    · cases r1.raw_of
      obtain ⟨_, dx, gs, ha, hf⟩ := w1.ce a _ (List.mem_append_right N hm)
      refine ⟨a, dx, gs, rfl, ha, hf.lookup_none hl, ?_⟩
      refine h1 N F1 σ H1 ⟨w1, Z.e.mono e1, Z.bm e1⟩ _ fun vs ds M2 F2 H2 e2 h2 w2 r2 => ?_
      rw [List.append_nil]
      exact ⟨F2, N, M2, _, R, w2, .cons (.raw _) r2, h2, fun v d M3 F3 H3 e3 hr w3 r3 => q v d M3 F3 H3 ((e1.trans e2).trans e3) hr w3 r3⟩
theorem MethR.ins {K : KB} {S : SpecD} {ta' : TA} {C : Addr} {m : Str} {fs : List (Str × DV)} (hl : fs.lookup m = none) (k : EvAR K ta' ρ M fun ds M2 => S (.ins C fs :: ds) M2 R) : MethR K C m S ta' ρ (.ins C fs) M R := .inl ⟨_, rfl, hl, k⟩
theorem MethR.own {K : KB} {S : SpecD} {ta' : TA} {C a : Addr} {m : Str} {fs : List (Str × DV)} (hm : (a, MO.ins C fs) ∈ M) (hl : fs.lookup m = none) (k : EvAR K ta' ρ M fun ds M2 => S (.raw (.ref a) :: ds) M2 R) : MethR K C m S ta' ρ (.raw (.ref a)) M R := .inr ⟨_, _, rfl, hm, hl, k⟩
/-- xs.append(e) -/
def AppE (i : Nat) (a : Addr) (xs : List DV) (ds : List DV) (M : Ms) (R : DV → Ms → Prop) : Prop := ∃ d, ds = [d] ∧ M[i]? = some (a, MO.lst xs) ∧ R .non (M.set i (a, MO.lst (xs ++ [d])))
def AppR (K : KB) (t : TA) (ρ : Rho) (o : DV) (M : Ms) (R : DV → Ms → Prop) : Prop := ∃ (i : Nat) (a : Addr) (xs : List DV), o = .raw (.ref a) ∧ M[i]? = some (a, MO.lst xs) ∧ xs.length < 100000 ∧ EvAR K t ρ M fun ds M2 => ∃ d, ds = [d] ∧ M2[i]? = some (a, MO.lst xs) ∧ R .non (M2.set i (a, MO.lst (xs ++ [d])))
theorem w_append {K : KB} {ta' : TA} (h : EvR K to ρ M fun o M1 => AppR K ta' ρ o M1 R) : EvR K (tBM K "list" rAppend to ta') ρ M R := fun N F σ H S Q q =>
  h N F σ H S _ fun v o M1 F1 H1 e1 ⟨i, a, xs, ho, hi, hl, h1⟩ w1 r1 => by
    subst ho
    cases r1.raw_of
    obtain ⟨_, vs, hv, rv⟩ := w1.ce a _ (List.mem_append_right N (List.mem_of_getElem? hi))
    refine ⟨ty_list (F := F1) hv, h1 N F1 σ H1 ⟨w1, S.e.mono e1, S.bm e1⟩ _ fun us ds M2 F2 H2 e2 ⟨d, hd, hi2, hr⟩ w2 r2 => ?_⟩
    subst hd
    obtain ⟨u, rfl, ru⟩ := rpa1 r2
    obtain ⟨_, vs2, hv2, rv2⟩ := w2.ce a _ (List.mem_append_right N (List.mem_of_getElem? hi2))
    refine ⟨a, vs2, u, rfl, rfl, hv2, by rw [rv2.length]; exact Evl.sz_lt hl, ?_⟩
    have w3 := w2.put (i := N.length + i) (by rw [List.getElem?_append_right (Nat.le_add_right _ _), Nat.add_sub_cancel_left]; exact hi2) (mo' := .lst (xs ++ [d])) (o := .lst (vs2 ++ [u])) ⟨_, upd_same, rv2.snoc ru⟩
    rw [List.set_append_right _ _ (Nat.le_add_right _ _), Nat.add_sub_cancel_left] at w3
    exact q _ _ _ F2 _ (e1.trans e2) hr w3 .non
theorem AppR.at {K : KB} {ta' : TA} (i : Nat) {a : Addr} {xs : List DV} (hi : M[i]? = some (a, MO.lst xs)) (hl : xs.length < 100000) (k : EvAR K ta' ρ M fun ds M2 => AppE i a xs ds M2 R) : AppR K ta' ρ (.raw (.ref a)) M R := ⟨i, a, xs, rfl, hi, hl, k⟩
theorem AppR.fin {i : Nat} {a : Addr} {xs : List DV} (hi : M[i]? = some (a, MO.lst xs)) (k : R .non (M.set i (a, MO.lst (xs ++ [d])))) : AppE i a xs [d] M R := ⟨d, rfl, hi, k⟩
/-! tests -/
theorem w_T {c : Bool} (h : c = true) (a : A) : if c = true then A else B := by rw [if_pos h]; exact a
theorem w_F {c : Bool} (h : c = false) (b : B) : if c = true then A else B := by rw [if_neg (by rw [h]; decide)]; exact b
theorem w_not {c : Bool} (h : if c = true then B else A) : if (!c) = true then A else B := by cases c <;> exact h
theorem w_dec {p : Prop} [Decidable p] (a : p → A) (b : ¬ p → B) : if decide p = true then A else B := by
  by_cases h : p
  · rw [if_pos (decide_eq_true h)]; exact a h
  · rw [if_neg (by rw [decide_eq_false h]; decide)]; exact b h
theorem w_decT {p : Prop} [Decidable p] (h : p) (a : A) : if decide p = true then A else B := w_T (decide_eq_true h) a
theorem w_decF {p : Prop} [Decidable p] (h : ¬ p) (b : B) : if decide p = true then A else B := w_F (decide_eq_false h) b
theorem w_bl {b : Bool} {Q : Bool → Prop} (h : Q b) : ∃ c, DV.bl b = .bl c ∧ Q c := ⟨b, rfl, h⟩
theorem w_le {n m : Nat} (h : Nat.ble n m = true) (a : A) : n ≤ m ∧ A := ⟨Nat.le_of_ble_eq_true h, a⟩
/-! statements -/
theorem w_par {K : KB} {i j : Nat} {ta : TA} (h : EvAR K ta ρ M fun ds M1 => ∃ d e, ds = [d, e] ∧ P.nx ((ρ.set i (some d)).set j (some e)) M1) : XS K (tPar i j ta) ρ M P := fun N F σ H D S e => h N F σ H S _ fun vs ds M1 F1 H1 e1 ⟨d, e', hd, hx⟩ w1 r1 => by
  subst hd
  obtain ⟨u, v, rfl, r2, r3⟩ := rpa2 r1
  exact ⟨u, v, rfl, e.nx F1 _ H1 _ M1 e1 hx ⟨w1, ((S.e.mono e1).set r2 i).set r3 j, S.bm e1⟩⟩
theorem w_par3 {K : KB} {i j l : Nat} {ta : TA} (h : EvAR K ta ρ M fun ds M1 => ∃ d e g, ds = [d, e, g] ∧ P.nx (((ρ.set i (some d)).set j (some e)).set l (some g)) M1) : XS K (tPar3 i j l ta) ρ M P := fun N F σ H D S e => h N F σ H S _ fun vs ds M1 F1 H1 e1 ⟨d, e', g, hd, hx⟩ w1 r1 => by
  subst hd
  cases r1 with
  | cons r1 t1 => cases t1 with
    | cons r2 t2 => cases t2 with
      | cons r3 t3 => cases t3; exact ⟨_, _, _, rfl, e.nx F1 _ H1 _ M1 e1 hx ⟨w1, (((S.e.mono e1).set r1 i).set r2 j).set r3 l, S.bm e1⟩⟩
theorem w_aug {K : KB} {i : Nat} {op : Int → Int → Int} {a : Int} (h : ρ[i]? = some (some (.int a))) (he : EvR K te ρ M fun d M' => ∃ b, d = .int b ∧ P.nx (ρ.set i (some (.int (op a b)))) M') : XS K (tAug i te (ipI op)) ρ M P := fun N F σ H D S e => by
  obtain ⟨v, h1, h2⟩ := S.e.get h
  refine ⟨v, h1, he N F σ H S _ fun w d M' F' H' e1 ⟨b, hd, k⟩ wd r => ?_⟩
  subst hd
  exact ⟨a, b, h2.int_of, r.int_of, e.nx F' _ H' _ M' e1 k ⟨wd, (S.e.mono e1).set (.int _) i, S.bm e1⟩⟩
theorem w_int {i : Int} {Q : Int → Prop} (h : Q i) : ∃ c, DV.int i = .int c ∧ Q c := ⟨i, rfl, h⟩
theorem w_2 {Q : DV → DV → Prop} (h : Q x y) : ∃ d e, [x, y] = [d, e] ∧ Q d e := ⟨_, _, rfl, h⟩
theorem w_3 {Q : DV → DV → DV → Prop} (h : Q x y z) : ∃ d e g, [x, y, z] = [d, e, g] ∧ Q d e g := ⟨_, _, _, rfl, h⟩
theorem w_neg {i : Int} (k : R (.int (-i)) M) : RUR K (rU fun i => .int (-i)) (.int i) M R := fun N F u H w h1 Q q => ⟨i, h1.int_of, q _ _ M F H (Evl.Ex.refl F) k w (.int _)⟩
/-! loops in which nothing owned changes -/
theorem w_for {K : KB} {wi : TI} {G : Ms} {n : Nat} {v : Nat → DV} {g : TG} (hI : EvI K wi ρ M G n v fun M' => M' = M) (hG : ∀ c ∈ G, c ∈ M) (inv : Nat → Rho → Prop) (h0 : inv 0 ρ)
    (hs : ∀ i ρ', i < n → inv i ρ' → BdG K g ρ' M (v i) fun ρ2 M2 => XS K t ρ2 M2 { P with nx := fun ρ3 M3 => M3 = M ∧ inv (i + 1) ρ3, ct := fun ρ3 M3 => M3 = M ∧ inv (i + 1) ρ3, bk := P.nx })
    (hd : ∀ ρ', inv n ρ' → P.nx ρ' M) : XS K (tFor wi g t) ρ M P :=
  xs_for hI (fun i ρ' M' => M' = M ∧ inv i ρ') (fun M' e => ⟨e, h0⟩) (fun i ρ' M' _ ⟨e, _⟩ c hc => by rw [e]; exact hG c hc)
    (fun i ρ' M' hi ⟨e, hv⟩ => by subst e; exact hs i ρ' hi hv) fun ρ' M' ⟨e, hv⟩ => by subst e; exact hd ρ' hv
theorem nil_sub {M : Ms} : ∀ c ∈ ([] : Ms), c ∈ M := fun _ h => nomatch h
theorem w_rng1 {K : KB} {ta : TA} {j : Int} (h : EvA K ta ρ M [.int j]) (hj : -(2 ^ 62) ≤ j ∧ j < 2 ^ 62) : EvI K (iRng1 ta) ρ M [] j.toNat (fun i => .int i) fun M' => M' = M := ei_rng1 (h.go ⟨rfl, rfl⟩) hj
theorem w_rng2 {K : KB} {ta : TA} {lo j : Int} (h : EvA K ta ρ M [.int lo, .int j]) (hj : -(2 ^ 62) ≤ lo ∧ lo < 2 ^ 62 ∧ -(2 ^ 62) ≤ j ∧ j < 2 ^ 62) : EvI K (iRng2 ta) ρ M [] (j - lo).toNat (fun i => .int (lo + i)) fun M' => M' = M := ei_rng2 (h.go ⟨rfl, rfl⟩) hj
theorem w_lenTm {α : Type} {f : α → DV} {xs : List α} : RC K (rLen K) [.tup (xs.map f)] M (.int xs.length) := by
  have := rc_lenT (K := K) (M := M) (ds := xs.map f)
  rw [List.length_map] at this; exact this
theorem w_lenLm {α : Type} {f : α → DV} {xs : List α} : RC K (rLen K) [.lst (xs.map f)] M (.int xs.length) := by
  have := rc_lenL (K := K) (M := M) (ds := xs.map f)
  rw [List.length_map] at this; exact this
theorem w_lenCm {α : Type} {f : α → DV} {xs : List α} {a : Addr} (hm : (a, MO.lst (xs.map f)) ∈ M) : RC K (rLen K) [.raw (.ref a)] M (.int xs.length) := by
  have := rc_lenC (K := K) (M := M) (ds := xs.map f) hm
  rw [List.length_map] at this; exact this
end
end DD

set_option Elab.async false
set_option linter.all false
set_option maxRecDepth 100000
set_option maxHeartbeats 4000000
namespace DD
open PySem PySem.Spec PyProof.Rows L2
/-! loops and comprehensions over ranges and over what is known, in which nothing owned changes -/
section
variable {K : PySem.W.Frag} {ρ : Rho} {M : Ms} {R : DV → Ms → Prop} {te : TE} {ta : TA} {t : TS} {tt : TT} {P : Post} {vs : List Nat} {k : Nat}
theorem w_rg1 {a b : Int} (h : a = b) : [DV.int a] = [DV.int b] ∧ M = M := ⟨by rw [h], rfl⟩
theorem w_rg2 {a b c d : Int} (h : a = b) (h2 : c = d) : [DV.int a, DV.int c] = [DV.int b, DV.int d] ∧ M = M := ⟨by rw [h, h2], rfl⟩
/-- for x in range(n) -/
theorem w_for1 {K : KB} (n : Nat) (hn : n ≤ 1000000) (hI : EvAR K ta ρ M fun ds M' => ds = [.int n] ∧ M' = M) (inv : Nat → Rho → Prop) (h0 : inv 0 ρ)
    (hs : ∀ i ρ', i < n → inv i ρ' → XS K t (ρ'.set k (some (.int i))) M { P with nx := fun ρ3 M3 => M3 = M ∧ inv (i + 1) ρ3, ct := fun ρ3 M3 => M3 = M ∧ inv (i + 1) ρ3, bk := P.nx })
    (hd : ∀ ρ', inv n ρ' → P.nx ρ' M) : XS K (tFor (iRng1 ta) (gName k) t) ρ M P := by
  have := ei_rng1 hI (show -(2 ^ 62) ≤ (n : Int) ∧ (n : Int) < 2 ^ 62 by omega)
  rw [Int.toNat_natCast] at this
  exact w_for this nil_sub inv h0 (fun i ρ' hi hv => bd_name (hs i ρ' hi hv)) hd
/-- for x in range(lo, lo + n) -/
theorem w_for2 {K : KB} (lo : Int) (n : Nat) (hl : -1000000 ≤ lo ∧ lo ≤ 1000000) (hn : n ≤ 1000000) (hI : EvAR K ta ρ M fun ds M' => ds = [.int lo, .int (lo + n)] ∧ M' = M) (inv : Nat → Rho → Prop) (h0 : inv 0 ρ)
    (hs : ∀ i ρ', i < n → inv i ρ' → XS K t (ρ'.set k (some (.int (lo + i)))) M { P with nx := fun ρ3 M3 => M3 = M ∧ inv (i + 1) ρ3, ct := fun ρ3 M3 => M3 = M ∧ inv (i + 1) ρ3, bk := P.nx })
    (hd : ∀ ρ', inv n ρ' → P.nx ρ' M) : XS K (tFor (iRng2 ta) (gName k) t) ρ M P := by
  have := ei_rng2 hI (show -(2 ^ 62) ≤ lo ∧ lo < 2 ^ 62 ∧ -(2 ^ 62) ≤ lo + (n : Int) ∧ lo + (n : Int) < 2 ^ 62 by omega)
  rw [show (lo + (n : Int) - lo).toNat = n by omega] at this
  exact w_for this nil_sub inv h0 (fun i ρ' hi hv => bd_name (hs i ρ' hi hv)) hd
/-- for x in xs, a tuple; a list -/
theorem w_forT {K : KB} {ds : List DV} (hI : EvR K te ρ M fun d M' => d = .tup ds ∧ M' = M) (inv : Nat → Rho → Prop) (h0 : inv 0 ρ)
    (hs : ∀ i ρ' d, ds[i]? = some d → inv i ρ' → XS K t (ρ'.set k (some d)) M { P with nx := fun ρ3 M3 => M3 = M ∧ inv (i + 1) ρ3, ct := fun ρ3 M3 => M3 = M ∧ inv (i + 1) ρ3, bk := P.nx })
    (hd : ∀ ρ', inv ds.length ρ' → P.nx ρ' M) : XS K (tFor (iTup K te) (gName k) t) ρ M P :=
  w_for (ei_tup hI) nil_sub inv h0 (fun i ρ' hi hv => bd_name (hs i ρ' _ (nth_get hi) hv)) hd
theorem w_forL {K : KB} {ds : List DV} (hI : EvR K te ρ M fun d M' => d = .lst ds ∧ M' = M) (inv : Nat → Rho → Prop) (h0 : inv 0 ρ)
    (hs : ∀ i ρ' d, ds[i]? = some d → inv i ρ' → XS K t (ρ'.set k (some d)) M { P with nx := fun ρ3 M3 => M3 = M ∧ inv (i + 1) ρ3, ct := fun ρ3 M3 => M3 = M ∧ inv (i + 1) ρ3, bk := P.nx })
    (hd : ∀ ρ', inv ds.length ρ' → P.nx ρ' M) : XS K (tFor (iList K te) (gName k) t) ρ M P :=
  w_for (ei_lst hI) nil_sub inv h0 (fun i ρ' hi hv => bd_name (hs i ρ' _ (nth_get hi) hv)) hd
/-- for (x, y, ..) in xs -/
theorem w_forTt {K : KB} {ds : List DV} {g : TG} (hI : EvR K te ρ M fun d M' => d = .tup ds ∧ M' = M) (inv : Nat → Rho → Prop) (h0 : inv 0 ρ)
    (hs : ∀ i ρ' d, ds[i]? = some d → inv i ρ' → BdG K g ρ' M d fun ρ2 M2 => XS K t ρ2 M2 { P with nx := fun ρ3 M3 => M3 = M ∧ inv (i + 1) ρ3, ct := fun ρ3 M3 => M3 = M ∧ inv (i + 1) ρ3, bk := P.nx })
    (hd : ∀ ρ', inv ds.length ρ' → P.nx ρ' M) : XS K (tFor (iTup K te) g t) ρ M P :=
  w_for (ei_tup hI) nil_sub inv h0 (fun i ρ' hi hv => hs i ρ' _ (nth_get hi) hv) hd
theorem w_forLt {K : KB} {ds : List DV} {g : TG} (hI : EvR K te ρ M fun d M' => d = .lst ds ∧ M' = M) (inv : Nat → Rho → Prop) (h0 : inv 0 ρ)
    (hs : ∀ i ρ' d, ds[i]? = some d → inv i ρ' → BdG K g ρ' M d fun ρ2 M2 => XS K t ρ2 M2 { P with nx := fun ρ3 M3 => M3 = M ∧ inv (i + 1) ρ3, ct := fun ρ3 M3 => M3 = M ∧ inv (i + 1) ρ3, bk := P.nx })
    (hd : ∀ ρ', inv ds.length ρ' → P.nx ρ' M) : XS K (tFor (iList K te) g t) ρ M P :=
  w_for (ei_lst hI) nil_sub inv h0 (fun i ρ' hi hv => hs i ρ' _ (nth_get hi) hv) hd
/-- for i, x in enumerate(xs) -/
theorem w_forE {K : KB} {ds : List DV} {k2 : Nat} (hI : EvAR K ta ρ M fun xs M' => xs = [.tup ds] ∧ M' = M) (inv : Nat → Rho → Prop) (h0 : inv 0 ρ)
    (hs : ∀ i ρ' d, ds[i]? = some d → inv i ρ' → XS K t ((ρ'.set k (some (.int i))).set k2 (some d)) M { P with nx := fun ρ3 M3 => M3 = M ∧ inv (i + 1) ρ3, ct := fun ρ3 M3 => M3 = M ∧ inv (i + 1) ρ3, bk := P.nx })
    (hd : ∀ ρ', inv ds.length ρ' → P.nx ρ' M) : XS K (tFor (DE.iEnumT K ta) (gTup K 2 (gCons (gName k) (gCons (gName k2) gNil))) t) ρ M P :=
  w_for (ei_enumT hI) nil_sub inv h0 (fun i ρ' hi hv => bd_tup (bds_nm (bds_nm (bds_nil (hs i ρ' _ (nth_get hi) hv)))) rfl) hd
theorem w_bool {c : Bool} {A B : Prop} (a : c = true → A) (b : c = false → B) : if c = true then A else B := by
  cases c with
  | true => exact a rfl
  | false => exact b rfl
theorem rc_allM {α : Type} {xs : List α} {p : α → Bool} : RC K (rAll K) [.lst (xs.map fun x => .bl (p x))] M (.bl (xs.all p)) := by
  have := rc_allL (K := K) (M := M) (bs := xs.map p)
  rw [List.map_map, List.all_map] at this
  exact this
theorem rc_anyM {α : Type} {xs : List α} {p : α → Bool} : RC K (rAny K) [.lst (xs.map fun x => .bl (p x))] M (.bl (xs.any p)) := by
  have := rc_anyL (K := K) (M := M) (bs := xs.map p)
  rw [List.map_map, List.any_map] at this
  exact this
/-! comprehensions -/
theorem w_lc1 {K : KB} (n : Nat) (f : Nat → DV) (hn : n ≤ 100000) (hI : EvAR K ta ρ M fun ds M' => ds = [.int n] ∧ M' = M) (hs : ∀ i : Nat, i < n → EvR K te ((wipeD ρ vs).set k (some (.int i))) M fun d M' => d = f i ∧ M' = M)
    (kk : R (.lst ((List.range n).map f)) M) (hk : k ∈ vs := by simp) : EvR K (tLc (iRng1 ta) (gName k) tYes te vs) ρ M R := by
  have := ei_rng1 hI (show -(2 ^ 62) ≤ (n : Int) ∧ (n : Int) < 2 ^ 62 by omega)
  rw [Int.toNat_natCast] at this
  have h := ev_lc (K := K) (te := te) (tt := tYes) (fun _ => true) f this hn (bdw_name hk) fun i hi => bd_name ⟨rfl, et_yes, fun _ => hs i hi⟩
  rw [picked_all] at h
  exact h.go kk
theorem w_lc2 {K : KB} (lo : Int) (n : Nat) (f : Nat → DV) (hl : -1000000 ≤ lo ∧ lo ≤ 1000000) (hn : n ≤ 100000) (hI : EvAR K ta ρ M fun ds M' => ds = [.int lo, .int (lo + n)] ∧ M' = M) (hs : ∀ i : Nat, i < n → EvR K te ((wipeD ρ vs).set k (some (.int (lo + i)))) M fun d M' => d = f i ∧ M' = M)
    (kk : R (.lst ((List.range n).map f)) M) (hk : k ∈ vs := by simp) : EvR K (tLc (iRng2 ta) (gName k) tYes te vs) ρ M R := by
  have := ei_rng2 hI (show -(2 ^ 62) ≤ lo ∧ lo < 2 ^ 62 ∧ -(2 ^ 62) ≤ lo + (n : Int) ∧ lo + (n : Int) < 2 ^ 62 by omega)
  rw [show (lo + (n : Int) - lo).toNat = n by omega] at this
  have h := ev_lc (K := K) (te := te) (tt := tYes) (fun _ => true) f this hn (bdw_name hk) fun i hi => bd_name ⟨rfl, et_yes, fun _ => hs i hi⟩
  rw [picked_all] at h
  exact h.go kk
/-- with a test -/
theorem w_lc1t {K : KB} (n : Nat) (p : Nat → Bool) (f : Nat → DV) (hn : n ≤ 100000) (hI : EvAR K ta ρ M fun ds M' => ds = [.int n] ∧ M' = M) (ht : ∀ i : Nat, i < n → EvTR K tt ((wipeD ρ vs).set k (some (.int i))) M fun b M' => b = p i ∧ M' = M)
    (hs : ∀ i : Nat, i < n → p i = true → EvR K te ((wipeD ρ vs).set k (some (.int i))) M fun d M' => d = f i ∧ M' = M)
    (kk : R (.lst (((List.range n).filter p).map f)) M) (hk : k ∈ vs := by simp) : EvR K (tLc (iRng1 ta) (gName k) tt te vs) ρ M R := by
  have := ei_rng1 hI (show -(2 ^ 62) ≤ (n : Int) ∧ (n : Int) < 2 ^ 62 by omega)
  rw [Int.toNat_natCast] at this
  have h := ev_lc (K := K) (te := te) (tt := tt) p f this hn (bdw_name hk) fun i hi => bd_name ⟨rfl, ht i hi, fun e => hs i hi e⟩
  have e : ∀ n, picked p f n = ((List.range n).filter p).map f := fun n => by
    induction n with
    | zero => rfl
    | succ n ih =>
      unfold picked
      rw [ih, List.range_succ, List.filter_append]
      cases h : p n <;> simp [h]
  rw [e] at h
  exact h.go kk
/-- over what is known -/
theorem map_range_nth {F : DV → DV} {ds : List DV} : (List.range ds.length).map (fun i => F (nth ds i)) = ds.map F := by
  refine List.ext_getElem? fun i => ?_
  rw [List.getElem?_map, List.getElem?_map]
  by_cases h : i < ds.length
  · rw [List.getElem?_range h, nth_get h]; rfl
  · rw [List.getElem?_eq_none (by simpa using h), List.getElem?_eq_none (by simpa using h)]; rfl
theorem w_lcT {K : KB} {ds : List DV} (F : DV → DV) (hn : ds.length ≤ 100000) {te0 : TE} (hI : EvR K te0 ρ M fun d M' => d = .tup ds ∧ M' = M) (hs : ∀ d, d ∈ ds → EvR K te ((wipeD ρ vs).set k (some d)) M fun d' M' => d' = F d ∧ M' = M)
    (kk : R (.lst (ds.map F)) M) (hk : k ∈ vs := by simp) : EvR K (tLc (iTup K te0) (gName k) tYes te vs) ρ M R := by
  have h := ev_lc (K := K) (te := te) (tt := tYes) (fun _ => true) (fun i => F (nth ds i)) (ei_tup hI) hn (bdw_name hk) fun i hi => bd_name ⟨rfl, et_yes, fun _ => hs _ (List.mem_of_getElem? (nth_get hi))⟩
  rw [picked_all, map_range_nth] at h
  exact h.go kk
theorem w_lcL {K : KB} {ds : List DV} (F : DV → DV) (hn : ds.length ≤ 100000) {te0 : TE} (hI : EvR K te0 ρ M fun d M' => d = .lst ds ∧ M' = M) (hs : ∀ d, d ∈ ds → EvR K te ((wipeD ρ vs).set k (some d)) M fun d' M' => d' = F d ∧ M' = M)
    (kk : R (.lst (ds.map F)) M) (hk : k ∈ vs := by simp) : EvR K (tLc (iList K te0) (gName k) tYes te vs) ρ M R := by
  have h := ev_lc (K := K) (te := te) (tt := tYes) (fun _ => true) (fun i => F (nth ds i)) (ei_lst hI) hn (bdw_name hk) fun i hi => bd_name ⟨rfl, et_yes, fun _ => hs _ (List.mem_of_getElem? (nth_get hi))⟩
  rw [picked_all, map_range_nth] at h
  exact h.go kk
theorem w_lcTm {K : KB} {α : Type} {xs : List α} {g : α → DV} (F : α → DV) (hn : xs.length ≤ 100000) {te0 : TE} (hI : EvR K te0 ρ M fun d M' => d = .tup (xs.map g) ∧ M' = M) (hs : ∀ x, x ∈ xs → EvR K te ((wipeD ρ vs).set k (some (g x))) M fun d' M' => d' = F x ∧ M' = M)
    (kk : R (.lst (xs.map F)) M) (hk : k ∈ vs := by simp) : EvR K (tLc (iTup K te0) (gName k) tYes te vs) ρ M R := by
  have e : ∀ i, i < (xs.map g).length → ∃ x, xs[i]? = some x ∧ nth (xs.map g) i = g x := fun i hi => by
    rw [List.length_map] at hi
    exact ⟨xs[i], List.getElem?_eq_getElem hi, nth_of (by rw [List.getElem?_map, List.getElem?_eq_getElem hi]; rfl)⟩
  have h := ev_lc (K := K) (te := te) (tt := tYes) (fun _ => true) (fun i => match xs[i]? with | some x => F x | none => .non) (ei_tup hI) (by rw [List.length_map]; exact hn) (bdw_name hk) fun i hi => bd_name ⟨rfl, et_yes, fun _ => by
    obtain ⟨x, h1, h2⟩ := e i hi
    rw [h1, h2]
    exact hs x (List.mem_of_getElem? h1)⟩
  rw [picked_all] at h
  have e2 : (List.range (xs.map g).length).map (fun i => match xs[i]? with | some x => F x | none => .non) = xs.map F := by
    rw [List.length_map]
    refine List.ext_getElem? fun i => ?_
    rw [List.getElem?_map, List.getElem?_map]
    by_cases hh : i < xs.length
    · rw [List.getElem?_range hh, List.getElem?_eq_getElem hh]; simp [List.getElem?_eq_getElem hh]
    · rw [List.getElem?_eq_none (by simpa using hh), List.getElem?_eq_none (by simpa using hh)]; rfl
  rw [e2] at h
  exact h.go kk
end
end DD

set_option Elab.async false
set_option linter.all false
set_option maxRecDepth 100000
set_option maxHeartbeats 4000000
namespace DD
open PySem PySem.Spec PyProof.Rows L2
/-! how deep and how much, by parts -/
structure Fs (d : DV) (p b : Nat) : Prop where
  f : fit d = true
  dp : dep d ≤ p
  b : blk d ≤ b
structure FsA (ds : List DV) (p b : Nat) : Prop where
  f : fitA ds = true
  dp : depA ds ≤ p
  b : blkA ds ≤ b
section
variable {d e : DV} {ds es : List DV} {p q b c : Nat}
theorem Fs.non : Fs .non 0 0 := ⟨rfl, Nat.le_refl _, Nat.le_refl _⟩
theorem Fs.bl {x : Bool} : Fs (.bl x) 0 0 := ⟨rfl, Nat.le_refl _, Nat.le_refl _⟩
theorem Fs.int {i : Int} (h : -1000000000000000000000000000000 < i ∧ i < 1000000000000000000000000000000) : Fs (.int i) 0 0 := ⟨decide_eq_true (Nat.lt_of_lt_of_le (show i.natAbs < 1000000000000000000000000000000 by omega) (by decide)), Nat.le_refl _, Nat.le_refl _⟩
theorem Fs.str {s : Str} (h : fit (.str s) = true) (hl : s.cps.size ≤ 1000) : Fs (.str s) 0 1000 := ⟨h, Nat.le_refl _, hl⟩
theorem Fs.tup (h : FsA ds p b) : Fs (.tup ds) (p + 1) b := ⟨h.f, Nat.succ_le_succ h.dp, h.b⟩
theorem Fs.lst (h : FsA ds p b) : Fs (.lst ds) (p + 1) b := ⟨h.f, Nat.succ_le_succ h.dp, h.b⟩
theorem FsA.nil : FsA [] 0 0 := ⟨rfl, Nat.le_refl _, Nat.le_refl _⟩
theorem FsA.cons (h : Fs d p b) (t : FsA ds q c) : FsA (d :: ds) (max p q) (b + 1 + c) := ⟨by show (fit d && fitA ds) = true; rw [h.f, t.f]; rfl, by show max (dep d) (depA ds) ≤ _; have := h.dp; have := t.dp; omega, by show blk d + 1 + blkA ds ≤ _; have := h.b; have := t.b; omega⟩
theorem FsA.all : ∀ {ds : List DV} {n : Nat}, (∀ d, d ∈ ds → Fs d p b) → ds.length ≤ n → FsA ds p (n * (b + 1))
  | [], _, _, _ => ⟨rfl, Nat.zero_le _, Nat.zero_le _⟩
  | d :: ds, n, h, hl => by
    have h1 := h d List.mem_cons_self
    have h2 := FsA.all (n := n - 1) (fun e he => h e (List.mem_cons_of_mem _ he)) (by simp at hl; omega)
    have hn : 1 ≤ n := by simp at hl; omega
    refine ⟨by show (fit d && fitA ds) = true; rw [h1.f, h2.f]; rfl, by show max (dep d) (depA ds) ≤ _; have := h1.dp; have := h2.dp; omega, ?_⟩
    show blk d + 1 + blkA ds ≤ _
    have := h1.b; have := h2.b
    obtain ⟨m, rfl⟩ : ∃ m, n = m + 1 := ⟨n - 1, by omega⟩
    rw [Nat.add_sub_cancel] at this
    rw [Nat.add_mul, Nat.one_mul]
    omega
theorem Fs.le (h : Fs d p b) (h1 : p ≤ q) (h2 : b ≤ c) : Fs d q c := ⟨h.f, Nat.le_trans h.dp h1, Nat.le_trans h.b h2⟩
theorem Fs.fit (h : Fs d p b) (h1 : p ≤ 60) (h2 : b ≤ 100000) : Fit d := ⟨h.f, Nat.le_trans h.dp h1, Nat.le_trans h.b h2⟩
/-- of small ints, up to a hundred; up to two thousand -/
theorem FsA.ints {ns : List Int} (h : ∀ n ∈ ns, -1000000000000000000000000000000 < n ∧ n < 1000000000000000000000000000000) (hl : ns.length ≤ 100) : FsA (ns.map DV.int) 0 100 := by
  have := FsA.all (p := 0) (b := 0) (n := 100) (ds := ns.map DV.int) (fun d hd => by
    obtain ⟨n, hn, rfl⟩ := List.mem_map.mp hd
    exact Fs.int (h n hn)) (by rw [List.length_map]; exact hl)
  exact this
end
section
variable {K : PySem.W.Frag} {M : Ms} {x y : DV} {p b q c : Nat}
theorem rc_showF (h : Fs x p b) (h1 : p ≤ 60) (h2 : b ≤ 100000) : RC K (rRepr K) [x] M (.str (showD x)) := rc_show (h.fit h1 h2)
theorem rc_showUF (h : Fs x p b) (h1 : p ≤ 60) (h2 : b ≤ 100000) : RC K (rReprU K) [x] M (.str (showD x)) := rc_showU (h.fit h1 h2)
theorem eqD_selfF (h : Fs x p b) (h1 : p ≤ 60) (h2 : b ≤ 100000) : eqD x x = true := eqD_self (h.fit h1 h2)
theorem rv_p6 : RV K (rI CPow fun i j => .int (i ^ j.toNat)) (.int 10) (.int 6) M (.int 1000000) := rv_I (show CPow 10 6 from ⟨by decide, by decide, by decide⟩)
theorem rv_p12 : RV K (rI CPow fun i j => .int (i ^ j.toNat)) (.int 10) (.int 12) M (.int 1000000000000) := rv_I (show CPow 10 12 from ⟨by decide, by decide, by decide⟩)
theorem rv_p14 : RV K (rI CPow fun i j => .int (i ^ j.toNat)) (.int 10) (.int 14) M (.int 100000000000000) := rv_I (show CPow 10 14 from ⟨by decide, by decide, by decide⟩)
theorem rv_p18 : RV K (rI CPow fun i j => .int (i ^ j.toNat)) (.int 10) (.int 18) M (.int 1000000000000000000) := rv_I (show CPow 10 18 from ⟨by decide, by decide, by decide⟩)
theorem rv_p19 : RV K (rI CPow fun i j => .int (i ^ j.toNat)) (.int 10) (.int 19) M (.int 10000000000000000000) := rv_I (show CPow 10 19 from ⟨by decide, by decide, by decide⟩)
theorem rv_p20 : RV K (rI CPow fun i j => .int (i ^ j.toNat)) (.int 10) (.int 20) M (.int 100000000000000000000) := rv_I (show CPow 10 20 from ⟨by decide, by decide, by decide⟩)
/-- the same on both sides -/
theorem rv_neSelf (h : Fit x) : RV K (rNeU K) x x M (.bl false) := by
  have := rv_neF (K := K) (M := M) h h
  rw [eqD_self h] at this
  exact this
theorem rv_eqSelf (h : Fit x) : RV K (rEqU K) x x M (.bl true) := by
  have := rv_eqF (K := K) (M := M) h h
  rw [eqD_self h] at this
  exact this
theorem w_two {A B : Prop} {s : Str} (b : B) : if (!decide (s = s)) = true then A else B := by rw [decide_eq_true rfl]; exact b
end
end DD

set_option Elab.async false
set_option linter.all false
set_option maxRecDepth 100000
set_option maxHeartbeats 4000000
namespace DD
open PySem PySem.Spec PyProof.Rows L2
/-! walks over what only comes out -/
def EvIX (K : KB) (wi : TI) (ρ : Rho) (M : Ms) (Φ : Nat → (Nat → DV) → Ms → Ms → Prop) : Prop := ∀ (N : Ms) (F : Hp) (σ : L2.St) (H : Hp), Sb K N F M ρ σ H → ∀ Q : It → Hp → Prop, (∀ J n y G M' F' H', Ex F F' → Φ n y G M' → Wd K F' (N ++ M') H' → WalkD K F' G J n y → Q J H') → wi σ H Q
section
variable {K : PySem.W.Frag} {ρ : Rho} {M : Ms} {te : TE} {tb : TS} {P : Post} {g : TG} {wi : TI} {R : DV → Ms → Prop}
theorem xs_forX {K : KB} {Φ : Nat → (Nat → DV) → Ms → Ms → Prop} (hI : EvIX K wi ρ M Φ)
    (h : ∀ n y G M', Φ n y G M' → ∃ inv : Nat → Rho → Ms → Prop, inv 0 ρ M' ∧ (∀ i ρ' M', i ≤ n → inv i ρ' M' → ∀ c ∈ G, c ∈ M') ∧
      (∀ i ρ' M', i < n → inv i ρ' M' → BdG K g ρ' M' (y i) fun ρ2 M2 => XS K tb ρ2 M2 { P with nx := inv (i + 1), ct := inv (i + 1), bk := P.nx }) ∧ (∀ ρ' M', inv n ρ' M' → P.nx ρ' M')) : XS K (tFor wi g tb) ρ M P := fun N F σ H D S e =>
  hI N F σ H S _ fun J n y G M1 F1 H1 e1 hr w1 W => by
    obtain ⟨inv, h0, hG, hs, hd⟩ := h n y G M1 hr
    refine ⟨fun i m σ' H' => m = n - i ∧ i ≤ n ∧ ∃ F' ρ' M', Ex F1 F' ∧ inv i ρ' M' ∧ Sb K N F' M' ρ' σ' H', ⟨n, by simp, Nat.zero_le _, F1, ρ, M1, Evl.Ex.refl _, h0, w1, S.e.mono e1, S.bm e1⟩, ?_⟩
    rintro i m σ' H' ⟨rfl, hi, F', ρ', M', e2, hv, S2⟩
    have hg : ∀ c ∈ G, c ∈ N ++ M' := fun c hc => List.mem_append_right N (hG i ρ' M' hi hv c hc)
    by_cases hlt : i < n
    · refine .inr ⟨W.goes i F' _ H' hlt e2 S2.w hg, fun σ3 H3 => ∃ F3 ρ3 M3, Ex F' F3 ∧ inv (i + 1) ρ3 M3 ∧ Sb K N F3 M3 ρ3 σ3 H3, fun σ3 H3 ⟨F3, ρ3, M3, e3, hv3, S3⟩ => ⟨n - (i + 1), by omega, rfl, hlt, F3, ρ3, M3, e2.trans e3, hv3, S3⟩, fun x H3 hy => ?_⟩
      obtain ⟨F3, e3, w3, r3⟩ := W.yields i F' _ H' x H3 hlt e2 S2.w hg hy
      refine hs i ρ' M' hlt hv N F3 σ' H3 x _ ⟨w3, S2.e.mono e3, S2.bm e3⟩ r3 fun σ4 F4 H4 ρ4 M4 e4 h4 S4 => ?_
      have e04 : Ex F F4 := ((e1.trans e2).trans e3).trans e4
      exact h4 N F4 σ4 H4 _ S4 ⟨fun F5 σ5 H5 ρ5 M5 e5 h5 S5 => ⟨F5, ρ5, M5, (e3.trans e4).trans e5, h5, S5⟩, (e.mono e04).rt, (e.mono e04).nx, fun F5 σ5 H5 ρ5 M5 e5 h5 S5 => ⟨F5, ρ5, M5, (e3.trans e4).trans e5, h5, S5⟩⟩
    · have en : i = n := by omega
      subst en
      exact .inl ⟨W.stops F' _ H' e2 S2.w hg, (e.mono (e1.trans e2)).nx F' σ' H' ρ' M' (Evl.Ex.refl _) (hd ρ' M' hv) S2⟩
theorem ei_lstX {K : KB} {Φ : List DV → Ms → Prop} (h : EvR K te ρ M fun d M' => ∃ ds, d = .lst ds ∧ Φ ds M') : EvIX K (iList K te) ρ M fun n y G M' => ∃ ds, n = ds.length ∧ y = nth ds ∧ G = [] ∧ Φ ds M' := fun N F σ H S Q q =>
  h N F σ H S _ fun v d M1 F1 H1 e1 ⟨ds, hd, hr⟩ w1 r1 => by
    subst hd
    obtain ⟨a, xs, rfl, hx, hr1⟩ := r1.lst_of
    refine ⟨a, rfl, ⟨xs, SqL.of (w1.fr _ _ hx)⟩, q _ _ _ _ M1 F1 H1 e1 ⟨ds, rfl, rfl, rfl, hr⟩ w1 ⟨fun i F2 M2 H2 hi e2 w2 _ => ?_, fun F2 M2 H2 e2 w2 _ => ?_, fun i F2 M2 H2 x H3 hi e2 w2 _ hy => ?_⟩⟩
    · exact walk_list.goes i H2 (by rw [hr1.length]; exact hi) (SqL.of ((e2.trans w2.fr) _ _ hx))
    · have := (walk_list (K := K)).stops H2 (SqL.of ((e2.trans w2.fr) _ _ hx))
      rw [hr1.length] at this; exact this
    · obtain ⟨rfl, hg⟩ := walk_list.yields i H2 x H3 (by rw [hr1.length]; exact hi) (SqL.of ((e2.trans w2.fr) _ _ hx)) hy
      obtain ⟨d, hd, rd⟩ := hr1.get' hg
      exact ⟨F2, Evl.Ex.refl _, w2, by rw [nth_of hd]; exact rd.mono e2⟩
theorem ei_tupX {K : KB} {Φ : List DV → Ms → Prop} (h : EvR K te ρ M fun d M' => ∃ ds, d = .tup ds ∧ Φ ds M') : EvIX K (iTup K te) ρ M fun n y G M' => ∃ ds, n = ds.length ∧ y = nth ds ∧ G = [] ∧ Φ ds M' := fun N F σ H S Q q =>
  h N F σ H S _ fun v d M1 F1 H1 e1 ⟨ds, hd, hr⟩ w1 r1 => by
    subst hd
    obtain ⟨a, xs, rfl, hx, hr1⟩ := r1.tup_of
    refine ⟨a, rfl, ⟨xs, Evl.ex_t w1.fr hx⟩, q _ _ _ _ M1 F1 H1 e1 ⟨ds, rfl, rfl, rfl, hr⟩ w1 ⟨fun i F2 M2 H2 hi e2 w2 _ => ?_, fun F2 M2 H2 e2 w2 _ => ?_, fun i F2 M2 H2 x H3 hi e2 w2 _ hy => ?_⟩⟩
    · exact walk_tup.goes i H2 (by rw [hr1.length]; exact hi) (Evl.ex_t (e2.trans w2.fr) hx)
    · have := walk_tup.stops H2 (Evl.ex_t (e2.trans w2.fr) hx)
      rw [hr1.length] at this; exact this
    · obtain ⟨rfl, hg⟩ := walk_tup.yields i H2 x H3 (by rw [hr1.length]; exact hi) (Evl.ex_t (e2.trans w2.fr) hx) hy
      obtain ⟨d, hd, rd⟩ := hr1.get' hg
      exact ⟨F2, Evl.Ex.refl _, w2, by rw [nth_of hd]; exact rd.mono e2⟩
theorem w_forLX {K : KB} (h : EvR K te ρ M fun d M' => ∃ ds, d = .lst ds ∧ ∃ inv : Nat → Rho → Ms → Prop, inv 0 ρ M' ∧ (∀ i ρ' M' d, ds[i]? = some d → inv i ρ' M' → BdG K g ρ' M' d fun ρ2 M2 => XS K tb ρ2 M2 { P with nx := inv (i + 1), ct := inv (i + 1), bk := P.nx }) ∧ (∀ ρ' M', inv ds.length ρ' M' → P.nx ρ' M')) : XS K (tFor (iList K te) g tb) ρ M P :=
  xs_forX (ei_lstX h) fun n y G M' ⟨ds, hn, hy, hG, inv, h0, hs, hd⟩ => by
    subst hn hy hG
    exact ⟨inv, h0, fun _ _ _ _ _ => nil_sub, fun i ρ' M'' hi hv => hs i ρ' M'' _ (nth_get hi) hv, hd⟩
theorem w_forTX {K : KB} (h : EvR K te ρ M fun d M' => ∃ ds, d = .tup ds ∧ ∃ inv : Nat → Rho → Ms → Prop, inv 0 ρ M' ∧ (∀ i ρ' M' d, ds[i]? = some d → inv i ρ' M' → BdG K g ρ' M' d fun ρ2 M2 => XS K tb ρ2 M2 { P with nx := inv (i + 1), ct := inv (i + 1), bk := P.nx }) ∧ (∀ ρ' M', inv ds.length ρ' M' → P.nx ρ' M')) : XS K (tFor (iTup K te) g tb) ρ M P :=
  xs_forX (ei_tupX h) fun n y G M' ⟨ds, hn, hy, hG, inv, h0, hs, hd⟩ => by
    subst hn hy hG
    exact ⟨inv, h0, fun _ _ _ _ _ => nil_sub, fun i ρ' M'' hi hv => hs i ρ' M'' _ (nth_get hi) hv, hd⟩
theorem rv_x2 {d : DV} : RV K (rMulU K) (.lst [d]) (.int 2) M (.lst [d, d]) := rv_mulL (k := 2) ⟨by decide, by decide⟩ (by show 1 * 2 ≤ 100000; decide)
theorem rv_xn {d : DV} {k : Int} (h0 : 0 ≤ k) (h1 : k ≤ 1000) : RV K (rMulU K) (.lst [d]) (.int k) M (.lst (List.replicate k.toNat d)) := by
  have := rv_mulL (K := K) (M := M) (ds := [d]) (k := k) ⟨by omega, by omega⟩ (by show 1 * k.toNat ≤ 100000; omega)
  rw [show (List.replicate k.toNat [d]).flatten = List.replicate k.toNat d by
    generalize k.toNat = n
    induction n with
    | zero => rfl
    | succ n ih => rw [List.replicate_succ, List.flatten_cons, ih, List.replicate_succ]; rfl] at this
  exact this
theorem w_same {α : Type} [DecidableEq α] {A B : Prop} {s : α} (b : B) : if (!decide (s = s)) = true then A else B := by rw [decide_eq_true rfl]; exact b
theorem w_sameT {α : Type} [DecidableEq α] {A B : Prop} {s : α} (b : A) : if decide (s = s) = true then A else B := by rw [if_pos (decide_eq_true rfl)]; exact b
theorem nil_or {α : Type} (l : List α) : l = [] ∨ ∃ x r, l = x :: r := by cases l with
  | nil => exact .inl rfl
  | cons x r => exact .inr ⟨x, r, rfl⟩
end
end DD

set_option Elab.async false
set_option linter.all false
set_option maxRecDepth 100000
set_option maxHeartbeats 4000000
namespace DD
open PySem PySem.Spec PyProof.Rows L2
/-! is it empty, by == and != -/
section
variable {K : PySem.W.Frag} {M : Ms} {ds : List DV}
theorem eqD_nilL (h : Fit (.lst ds)) : eqD (.lst ds) (.lst []) = ds.isEmpty := by
  cases ds with
  | nil => exact eqD_self h
  | cons d r =>
    obtain ⟨p, h1, _⟩ := h.py
    unfold eqD
    rw [h1]
    have : ∃ y ys, p = .list (y :: ys) := by
      have h2 : (toPyA (d :: r)).map PyData.list = some p := h1
      have h3 : toPyA (d :: r) = (match toPy d, toPyA r with | some y, some ys => some (y :: ys) | _, _ => none) := rfl
      rw [h3] at h2
      cases e1 : toPy d <;> cases e2 : toPyA r <;> rw [e1, e2] at h2 <;> simp at h2
      exact ⟨_, _, h2.symm⟩
    obtain ⟨y, ys, rfl⟩ := this
    rfl
theorem eqD_nilT (h : Fit (.tup ds)) : eqD (.tup ds) (.tup []) = ds.isEmpty := by
  cases ds with
  | nil => exact eqD_self h
  | cons d r =>
    obtain ⟨p, h1, _⟩ := h.py
    unfold eqD
    rw [h1]
    have : ∃ y ys, p = .tuple (y :: ys) := by
      have h2 : (toPyA (d :: r)).map PyData.tuple = some p := h1
      have h3 : toPyA (d :: r) = (match toPy d, toPyA r with | some y, some ys => some (y :: ys) | _, _ => none) := rfl
      rw [h3] at h2
      cases e1 : toPy d <;> cases e2 : toPyA r <;> rw [e1, e2] at h2 <;> simp at h2
      exact ⟨_, _, h2.symm⟩
    obtain ⟨y, ys, rfl⟩ := this
    rfl
theorem fit_nilL : Fit (.lst []) := ⟨rfl, by decide, by decide⟩
theorem fit_nilT : Fit (.tup []) := ⟨rfl, by decide, by decide⟩
theorem rv_neNilL (h : Fit (.lst ds)) : RV K (rNeU K) (.lst ds) (.lst []) M (.bl (!ds.isEmpty)) := by
  have := rv_neF (K := K) (M := M) h fit_nilL
  rw [eqD_nilL h] at this; exact this
theorem rv_eqNilL (h : Fit (.lst ds)) : RV K (rEqU K) (.lst ds) (.lst []) M (.bl ds.isEmpty) := by
  have := rv_eqF (K := K) (M := M) h fit_nilL
  rw [eqD_nilL h] at this; exact this
theorem rv_neNilT (h : Fit (.tup ds)) : RV K (rNeU K) (.tup ds) (.tup []) M (.bl (!ds.isEmpty)) := by
  have := rv_neF (K := K) (M := M) h fit_nilT
  rw [eqD_nilT h] at this; exact this
theorem rv_eqNilT (h : Fit (.tup ds)) : RV K (rEqU K) (.tup ds) (.tup []) M (.bl ds.isEmpty) := by
  have := rv_eqF (K := K) (M := M) h fit_nilT
  rw [eqD_nilT h] at this; exact this
theorem atI_head {α : Type} {x : α} {r : List α} : atI (x :: r) 0 = some x := atI_nat (j := 0) rfl
end
end DD

set_option Elab.async false
set_option linter.all false
set_option maxRecDepth 100000
set_option maxHeartbeats 4000000
namespace DD
open PySem PySem.Spec PyProof.Rows L2
/-! ints in lists and tuples of ints; slices of owned lists; index -/
section
variable {K : PySem.W.Frag} {M : Ms} {ρ : Rho} {R : DV → Ms → Prop} {te to : TE} {tl th : TO} {lo hi : Option Int} {ds : List DV} {ta : TA}
theorem inV_ints {i : Int} {ns : List Int} : inV (.int i) (ns.map V.int) = ns.contains i := by
  unfold inV
  rw [List.any_map]
  induction ns with
  | nil => rfl
  | cons n r ih =>
    rw [List.any_cons, List.contains_cons, ih]
    congr 1
    show (n == i) = (i == n)
    by_cases h : n = i
    · rw [h]
    · rw [beq_false_of_ne h, beq_false_of_ne (Ne.symm h)]
theorem flat_ints {ns : List Int} : (ns.map V.int).all flatV = true := by
  rw [List.all_eq_true]; intro x hx; obtain ⟨t, _, rfl⟩ := List.mem_map.mp hx; rfl
theorem rv_inLI {i : Int} {ns : List Int} : RV K (rIn K false) (.int i) (.lst (ns.map .int)) M (.bl (ns.contains i)) := fun N F u v H w h1 h2 Q k => by
  obtain ⟨a, xs, rfl, ha, ra⟩ := h2.lst_of
  have hx := ra.ints_of
  subst hx
  rw [h1.int_of]
  refine ⟨a, _, rfl, .inl (SqL.of (w.fr _ _ ha)), rfl, flat_ints, ?_⟩
  show Q (.bl (inV (.int i) (ns.map .int))) H
  rw [inV_ints]
  exact k _ _ M F H (Evl.Ex.refl F) ⟨rfl, rfl⟩ w (.bl _)
theorem rv_ninLI {i : Int} {ns : List Int} : RV K (rIn K true) (.int i) (.lst (ns.map .int)) M (.bl (!ns.contains i)) := fun N F u v H w h1 h2 Q k => by
  obtain ⟨a, xs, rfl, ha, ra⟩ := h2.lst_of
  have hx := ra.ints_of
  subst hx
  rw [h1.int_of]
  refine ⟨a, _, rfl, .inl (SqL.of (w.fr _ _ ha)), rfl, flat_ints, ?_⟩
  show Q (.bl (!inV (.int i) (ns.map .int))) H
  rw [inV_ints]
  exact k _ _ M F H (Evl.Ex.refl F) ⟨rfl, rfl⟩ w (.bl _)
theorem rv_inTI {i : Int} {ns : List Int} : RV K (rIn K false) (.int i) (.tup (ns.map .int)) M (.bl (ns.contains i)) := fun N F u v H w h1 h2 Q k => by
  obtain ⟨a, xs, rfl, ha, ra⟩ := h2.tup_of
  have hx := ra.ints_of
  subst hx
  rw [h1.int_of]
  refine ⟨a, _, rfl, .inr (Evl.ex_t w.fr ha), rfl, flat_ints, ?_⟩
  show Q (.bl (inV (.int i) (ns.map .int))) H
  rw [inV_ints]
  exact k _ _ M F H (Evl.Ex.refl F) ⟨rfl, rfl⟩ w (.bl _)
theorem rv_ninTI {i : Int} {ns : List Int} : RV K (rIn K true) (.int i) (.tup (ns.map .int)) M (.bl (!ns.contains i)) := fun N F u v H w h1 h2 Q k => by
  obtain ⟨a, xs, rfl, ha, ra⟩ := h2.tup_of
  have hx := ra.ints_of
  subst hx
  rw [h1.int_of]
  refine ⟨a, _, rfl, .inr (Evl.ex_t w.fr ha), rfl, flat_ints, ?_⟩
  show Q (.bl (!inV (.int i) (ns.map .int))) H
  rw [inV_ints]
  exact k _ _ M F H (Evl.Ex.refl F) ⟨rfl, rfl⟩ w (.bl _)
/-- a slice of an owned list: a new list that stays -/
theorem ev_slC {K : KB} {a : Addr} (hm : (a, MO.lst ds) ∈ M) (h : Ev K te ρ M (.raw (.ref a))) (h1 : EvO K tl ρ M lo) (h2 : EvO K th ρ M hi) : Ev K (tSl (rSlU K) te tl th) ρ M (.lst (cutL ds lo hi)) := fun N F σ H S Q q => h N F σ H S _ fun v d M' F1 H1 e1 ⟨hd, hm1⟩ w1 r1 => by
  subst hd hm1
  cases r1.raw_of
  refine h1 N F1 σ H1 ⟨w1, S.e.mono e1, S.bm e1⟩ _ fun F2 H2 e2 w2 => h2 N F2 σ H2 ⟨w2, S.e.mono (e1.trans e2), S.bm (e1.trans e2)⟩ _ fun F3 H3 e3 w3 => .inr ?_
  have e123 := (e1.trans e2).trans e3
  obtain ⟨_, xs, ha, ra⟩ := w3.ce a _ (List.mem_append_right N hm)
  refine ⟨a, xs, rfl, SqL.of ha, fun p hp => ?_⟩
  have hn := w3.fresh hp
  exact q _ _ _ _ _ (e123.trans (ex_new hn)) ⟨rfl, rfl⟩ (w3.new hp _) (.lst upd_same ((cut_rpa ra).mono (ex_new hn)))
/-- xs.index(i), of an owned list of ints -/
theorem ev_indexC {K : KB} {a : Addr} {ns : List Int} {i : Int} {j : Nat} (hm : (a, MO.lst (ns.map .int)) ∈ M) (ho : Ev K to ρ M (.raw (.ref a))) (he : EvA K ta ρ M [.int i]) (hj : ns[j]? = some i) (h0 : ∀ m, m < j → ns[m]? ≠ some i) : Ev K (tBM K "list" (rIndex K) to ta) ρ M (.int j) := fun N F σ H S Q q =>
  ho N F σ H S _ fun v o M1 F1 H1 e1 ⟨hd, hm1⟩ w1 r1 => by
    subst hd hm1
    cases r1.raw_of
    obtain ⟨_, vs, hv, rv⟩ := w1.ce a _ (List.mem_append_right N hm)
    refine ⟨ty_list (F := F1) hv, he N F1 σ H1 ⟨w1, S.e.mono e1, S.bm e1⟩ _ fun us ds M2 F2 H2 e2 ⟨hd2, hm2⟩ w2 r2 => ?_⟩
    subst hd2 hm2
    obtain ⟨u, rfl, ru⟩ := rpa1 r2
    cases ru.int_of
    obtain ⟨_, vs2, hv2, rv2⟩ := w2.ce a _ (List.mem_append_right N hm)
    have hx := rv2.ints_of
    subst hx
    refine ⟨a, _, _, j, .int i, rfl, rfl, SqL.of hv2, rfl, flat_ints, by rw [List.getElem?_map, hj]; rfl, beq_self_eq_true i, fun m z hm hz => ?_, q _ _ _ F2 H2 (e1.trans e2) ⟨rfl, rfl⟩ w2 (.int _)⟩
    rw [List.getElem?_map] at hz
    cases e : ns[m]? with
    | none => rw [e] at hz; cases hz
    | some y =>
      rw [e] at hz
      cases hz
      exact beq_false_of_ne fun z => h0 m hm (by rw [e, z])
end
/-- unlike numbers below n are n at most -/
theorem nodup_below : ∀ (n : Nat) (l : List Nat), l.Nodup → (∀ x ∈ l, x < n) → l.length ≤ n
  | 0, [], _, _ => Nat.le_refl _
  | 0, x :: l, _, h => absurd (h x List.mem_cons_self) (Nat.not_lt_zero _)
  | n + 1, l, nd, h => by
    have h1 : (l.erase n).Nodup := nd.erase n
    have h2 : ∀ x ∈ l.erase n, x < n := fun x hx => by
      have a := h x (List.mem_of_mem_erase hx)
      have b : x ≠ n := fun e => by
        subst e
        exact (List.Nodup.not_mem_erase nd) hx
      omega
    have := nodup_below n (l.erase n) h1 h2
    by_cases hm : n ∈ l
    · have := List.length_erase_of_mem hm
      omega
    · rw [List.erase_of_not_mem hm] at this
      omega
end DD

set_option Elab.async false
set_option linter.all false
set_option maxRecDepth 100000
set_option maxHeartbeats 4000000
namespace DD
open PySem PySem.Spec PyProof.Rows L2
/-! self.f = e by word; rows of ints told by a function -/
section
variable {K : PySem.W.Frag} {ρ : Rho} {M : Ms} {P : Post} {ta tv : TE} {d : DV}
def PutR (K : PySem.W.Frag) (f : Str) (d : DV) (o : DV) (M : Ms) (k : Ms → Prop) : Prop := ∃ (i : Nat) (a C : Addr) (fs : List (Str × DV)), o = .raw (.ref a) ∧ M[i]? = some (a, MO.ins C fs) ∧ Cls K C ∧ NoAttr K C f ∧ fs.length < 1000 ∧ k (M.set i (a, MO.ins C (putD f d fs)))
theorem w_putF {K : KB} {f : Str} (h : EvR K tv ρ M fun d M1 => EvR K ta ρ M1 fun o M2 => PutR K f d o M2 (P.nx ρ)) : XS K (sFld K ta tv f) ρ M P :=
  fun N F σ H D S e => h N F σ H S _ fun v d' M1 F1 H1 e1 h1 w1 r1 => h1 N F1 σ H1 ⟨w1, S.e.mono e1, S.bm e1⟩ _ fun u o M2 F2 H2 e2 ⟨i, a, C, fs, ho, hi, c, n, hl, k⟩ w2 r2 => by
    subst ho
    cases r2.raw_of
    obtain ⟨_, dx, gs, hg, hf⟩ := w2.ce a _ (List.mem_append_right N (List.mem_of_getElem? hi))
    refine ⟨a, C, dx, gs, rfl, hg, c, n, by rw [hf.length]; exact hl, ?_⟩
    have hp : ∀ {gs : List (Str × V)} {fs : List (Str × DV)}, RpF K F2 gs fs → RpF K F2 (putF f v gs) (putD f d' fs) := by
      intro gs fs hf
      induction fs generalizing gs with
      | nil => cases hf; exact .cons (r1.mono e2) .nil
      | cons q fs ih =>
        cases hf with
        | cons hq ht =>
          unfold putF putD
          split
          · exact .cons (r1.mono e2) ht
          · exact .cons hq (ih ht)
    have w3 := w2.put (i := N.length + i) (by rw [List.getElem?_append_right (Nat.le_add_right _ _), Nat.add_sub_cancel_left]; exact hi) (mo' := .ins C (putD f d' fs)) (o := .ins C dx (putF f v gs)) ⟨dx, _, upd_same, hp hf⟩
    rw [List.set_append_right _ _ (Nat.le_add_right _ _), Nat.add_sub_cancel_left] at w3
    exact e.nx F2 _ _ _ _ (e1.trans e2) k ⟨w3, S.e.mono (e1.trans e2), S.bm (e1.trans e2)⟩
theorem PutR.at {f : Str} {k : Ms → Prop} (i : Nat) {a C : Addr} {fs : List (Str × DV)} (hi : M[i]? = some (a, MO.ins C fs)) (c : Cls K C) (n : NoAttr K C f) (hl : fs.length < 1000) (h : k (M.set i (a, MO.ins C (putD f d fs)))) : PutR K f d (.raw (.ref a)) M k := ⟨i, a, C, fs, rfl, hi, c, n, hl, h⟩
end
/-- the first n values of f -/
abbrev rowI (f : Nat → Int) (n : Nat) : List Int := (List.range n).map f
theorem rowI_len {f : Nat → Int} {n : Nat} : (rowI f n).length = n := by rw [List.length_map, List.length_range]
theorem rowI_get {f : Nat → Int} {n x : Nat} (h : x < n) : (rowI f n)[x]? = some (f x) := by rw [List.getElem?_map, List.getElem?_range h]; rfl
theorem atI_rowI {f : Nat → Int} {n : Nat} {z : Int} (h0 : 0 ≤ z) (h1 : z < n) : atI ((rowI f n).map DV.int) z = some (.int (f z.toNat)) := by
  have e : ((rowI f n).map DV.int)[z.toNat]? = some (.int (f z.toNat)) := by rw [List.getElem?_map, rowI_get (by omega)]; rfl
  have := atI_nat e
  rw [show ((z.toNat : Nat) : Int) = z by omega] at this
  exact this
theorem atI_lastI {f : Nat → Int} {n : Nat} : atI ((rowI f (n + 1)).map DV.int) (-1) = some (.int (f n)) := by
  unfold atI ixN
  rw [List.length_map, rowI_len, if_neg (by omega), if_pos (by omega)]
  show ((rowI f (n + 1)).map DV.int)[(-1 + ((n + 1 : Nat) : Int)).toNat]? = _
  rw [show (-1 + ((n + 1 : Nat) : Int)).toNat = n by omega, List.getElem?_map, rowI_get (by omega)]; rfl
theorem cut_lastI {f : Nat → Int} {n : Nat} : cutL ((rowI f (n + 1)).map DV.int) none (some (-1)) = (rowI f n).map DV.int := by
  unfold cutL
  have e0 : HT.sIx ((rowI f (n + 1)).map DV.int).length 0 none = 0 := rfl
  have e1 : HT.sIx ((rowI f (n + 1)).map DV.int).length ((rowI f (n + 1)).map DV.int).length (some (-1)) = n := by
    rw [List.length_map, rowI_len]
    show (if (-1 : Int) < 0 then ((-1 : Int) + ((n + 1 : Nat) : Int)).toNat else min (-1 : Int).toNat (n + 1)) = n
    rw [if_pos (by decide)]
    omega
  rw [e0, e1, List.drop_zero, Nat.sub_zero, ← List.map_take]
  show List.map DV.int (List.take n ((List.range (n + 1)).map f)) = _
  rw [← List.map_take, List.take_range, Nat.min_eq_left (by omega)]
theorem rowI_snoc {f : Nat → Int} {n : Nat} : (rowI f n).map DV.int ++ [.int (f n)] = (rowI f (n + 1)).map DV.int := by
  show _ = List.map DV.int ((List.range (n + 1)).map f)
  rw [List.range_succ, List.map_append, List.map_append]; rfl
theorem rowI_mem {f : Nat → Int} {n : Nat} {v : Int} (h : v ∈ rowI f n) : ∃ x, x < n ∧ v = f x := by
  obtain ⟨x, hx, rfl⟩ := List.mem_map.mp h
  exact ⟨x, List.mem_range.mp hx, rfl⟩
theorem rowI_contains {f : Nat → Int} {n : Nat} {v : Int} : (rowI f n).contains v = true ↔ ∃ x, x < n ∧ f x = v := by
  rw [List.contains_iff_mem]
  refine ⟨fun h => let ⟨x, h1, h2⟩ := rowI_mem h; ⟨x, h1, h2.symm⟩, fun ⟨x, h1, h2⟩ => List.mem_map.mpr ⟨x, List.mem_range.mpr h1, h2⟩⟩
/-- the first one of which p holds -/
theorem least_ix {p : Nat → Prop} : ∀ n, (∃ f, f < n ∧ p f) → ∃ f, f < n ∧ p f ∧ ∀ m, m < f → ¬ p m
  | 0, ⟨_, h, _⟩ => absurd h (Nat.not_lt_zero _)
  | n + 1, ⟨f, h1, h2⟩ => by
    by_cases h : ∃ g, g < n ∧ p g
    · obtain ⟨g, a, b, c⟩ := least_ix n h
      exact ⟨g, by omega, b, c⟩
    · have : f = n := Classical.byContradiction fun e => h ⟨f, by omega, h2⟩
      subst this
      exact ⟨f, h1, h2, fun m hm hp => h ⟨m, hm, hp⟩⟩
end DD

set_option Elab.async false
set_option linter.all false
set_option maxRecDepth 100000
set_option maxHeartbeats 4000000
namespace DD
open PySem PySem.Spec PyProof.Rows L2
/-! ### defs that may raise -/
abbrev RER := Addr → List (Str × DV) → Ms → Prop
/-- the dict of an error -/
def RpX (K : PySem.W.Frag) (F : Hp) (d : Option Addr) (ds : List (Str × DV)) : Prop := ∃ fs, ((d = none ∧ fs = []) ∨ ∃ dd, d = some dd ∧ F dd = some (.xd fs)) ∧ RpF K F fs ds
def Wish (K : PySem.W.Frag) (E : XK) (RE : RER) (N : Ms) (F : Hp) : Prop := ∀ C dx fs M' F' H', Ex F F' → RE C fs M' → Wd K F' (N ++ M') H' → RpX K F' dx fs → E (.ref C) dx H'
@[reducible] def KX (K : PySem.W.Frag) (E : XK) (RE : RER) : KB := ⟨K, Wish K E RE, fun e b C dx fs M' F' H' e1 => b C dx fs M' F' H' (e.trans e1), fun b C dx fs M' F' H' e1 h w => b C dx fs M' F' H' e1 h w.drop⟩
abbrev SpecX := List DV → Ms → (DV → Ms → Prop) → RER → Prop
def spX (K : PySem.W.Frag) (S : SpecX) : Sp := fun vs H Q E => ∃ (F : Hp) (N M : Ms) (ds : List DV) (R : DV → Ms → Prop) (RE : RER), Wd K F (N ++ M) H ∧ RpA K F vs ds ∧ S ds M R RE ∧ (∀ v d M' F' H', Ex F F' → R d M' → Wd K F' (N ++ M') H' → Rp K F' v d → Q v H') ∧ Wish K E RE N F
/-- no error is let out -/
def noX : RER := fun _ _ _ => False
theorem wish_no {K : PySem.W.Frag} {E : XK} {N : Ms} {F : Hp} : Wish K E noX N F := fun _ _ _ _ _ _ _ h => h.elim
section
variable {P : Program} {w : World} {K : PySem.W.Frag} {mg : Str → Option Value} {base : Heap} {k : Nat} {f : Addr} {fd : FuncData} {N ps : List Str} {x qual : Str} {st : Stmt} {Sp : SpecX}
theorem spX_len (len : ∀ ds M R RE, Sp ds M R RE → ds.length = ps.length) : ∀ vs H Q E, spX K Sp vs H Q E → vs.length = ps.length := fun vs H Q E ⟨F, N, M, ds, R, RE, w, r, hs, q⟩ => by rw [r.length]; exact len ds M R RE hs
theorem fnX (F : Fun K x qual st f fd) (S : FnScope N ps (defScope st)) (len : ∀ ds M R RE, Sp ds M R RE → ds.length = ps.length)
    (hb : ∀ (cdv : Value) (A : Around) (up : List Env) (z : Shared) (H : Hp) (E : XK), Room k (A.deeper (envOfC qual (defScope st) z.heap.objs.size f cdv)) → ∀ ds M R RE, Sp ds M R RE →
      ∃ t, PSs (cxOf (L2.CX P w) P w K mg base N qual (defScope st) f cdv A up z H E) (defBody st) t ∧ XS (KX K E RE) t (rho0 N ds) M { nx := fun _ M' => R .non M', rt := R }) : FnOk P w K mg base (L2.CX P w) (k + 1) f fd ps (spX K Sp) :=
  F.okX S (spX_len len) fun cdv A up z H vs Q E hr h => by
    obtain ⟨F, N0, M, ds, R, RE, w, r, hs, q, qe⟩ := h
    obtain ⟨t, ht, hx⟩ := hb cdv A up z H E hr ds M R RE hs
    refine ⟨t, ht, hx N0 F (L2.start N vs) H _ ⟨w, ?_, qe⟩ ⟨fun F' σ' H' ρ' M' e h1 S => q .non .non M' F' H' e h1 S.w .non, fun v F' H' d M' e h1 w1 r1 => q v d M' F' H' e h1 w1 r1, fun _ _ _ _ _ _ z => z.elim, fun _ _ _ _ _ _ z => z.elim⟩⟩
    have := EnvD.start r (N.length - ds.length)
    unfold L2.start rho0
    rw [r.length]
    exact this
end
/-- what is passed on, in a def that may raise -/
theorem passX {X : Cx} {E : XK} {E₁ : Value → Shared → Prop} (hs : X.stack = X.env :: X.outer) (hf : X.env.frame = some X.env.locals) (hex : X.ex = [])
    (hx : X.xe = fun e s' => wpAny (model X.prog X.w) X.A (leaving X.env e) (fun _ s'' => L2.CX X.prog X.w X.outer X.H_0 X.s_0 E e s'') E₁ s') : Passes (L2.CX X.prog X.w) X E := passes_call (takes_of hs hf hex hx) fun _ _ _ _ h => h
/-- the wish of a try's body, whatever the slots -/
def wE (W : WX) (n : Nat) : XK := fun cls d H => ∀ σ : L2.St, σ.length = n → W cls d σ H
theorem passT {X : Cx} {W : WX} {n : Nat} (tk : Takes X W) (hn : X.N.length = n) : Passes (L2.CX X.prog X.w) X (wE W n) := fun pins σ H s e s' I c => tk e s' (XE.of_call I (fun cls d H' h => h σ (by rw [I.len]; exact hn)) c)
theorem EnvD.len {K : PySem.W.Frag} {F : Hp} : ∀ {σ : L2.St} {ρ : List (Option DV)}, EnvD K F σ ρ → σ.length = ρ.length
  | _, _, .nil => rfl
  | _, _, .sm _ t => by simp [EnvD.len t]
  | _, _, .no t => by simp [EnvD.len t]
theorem EnvD.any {K : PySem.W.Frag} {F : Hp} : ∀ (σ : L2.St), EnvD K F σ (List.replicate σ.length none)
  | [] => .nil
  | _ :: σ => .no (EnvD.any σ)
section
variable {K : PySem.W.Frag} {E E' : XK} {RE RE' : RER} {ρ : Rho} {M : Ms} {t tk ta' : TA} {ta te : TE} {S : SpecX} {R : DV → Ms → Prop} {KK : KB} {P : Post}
/-! calls -/
theorem evr_callX (h : EvAR (KX K E RE) t ρ M fun ds M1 => S ds M1 R RE) : EvR (KX K E RE) (tCall (spX K S) [] E t) ρ M R := fun N F σ H Z Q q =>
  h N F σ H Z _ fun vs ds M1 F1 H1 e1 h1 w1 r1 => by
    show spX K S (vs ++ []) H1 Q E
    rw [List.append_nil]
    exact ⟨F1, N, M1, ds, R, RE, w1, r1, h1, fun v d M2 F2 H2 e2 hr w2 r2 => q v d M2 F2 H2 (e1.trans e2) hr w2 r2, Z.bm e1⟩
theorem evr_callX0 (h : EvAR KK t ρ M fun ds M1 => S ds M1 R noX) : EvR KK (tCall (spX KK.fr S) [] E' t) ρ M R := fun N F σ H Z Q q =>
  h N F σ H Z _ fun vs ds M1 F1 H1 e1 h1 w1 r1 => by
    show spX KK.fr S (vs ++ []) H1 Q E'
    rw [List.append_nil]
    exact ⟨F1, N, M1, ds, R, noX, w1, r1, h1, fun v d M2 F2 H2 e2 hr w2 r2 => q v d M2 F2 H2 (e1.trans e2) hr w2 r2, wish_no⟩
theorem evr_callKX {n m : Nat} {perm : List Nat} (h : EvAR (KX K E RE) t ρ M fun ds M1 => EvAR (KX K E RE) tk ρ M1 fun es M2 => S (gpick n m perm ds es) M2 R RE) : EvR (KX K E RE) (tCallK (spX K S) (gpick n m perm) E t tk) ρ M R := fun N F σ H Z Q q =>
  h N F σ H Z _ fun vs ds M1 F1 H1 e1 h1 w1 r1 => h1 N F1 σ H1 ⟨w1, Z.e.mono e1, Z.bm e1⟩ _ fun zs es M2 F2 H2 e2 h2 w2 r2 =>
    ⟨F2, N, M2, _, R, RE, w2, gpick_rpa (r1.mono e2) r2, h2, fun v d M3 F3 H3 e3 hr w3 r3 => q v d M3 F3 H3 ((e1.trans e2).trans e3) hr w3 r3, Z.bm (e1.trans e2)⟩
theorem evr_callKX0 {n m : Nat} {perm : List Nat} (h : EvAR KK t ρ M fun ds M1 => EvAR KK tk ρ M1 fun es M2 => S (gpick n m perm ds es) M2 R noX) : EvR KK (tCallK (spX KK.fr S) (gpick n m perm) E' t tk) ρ M R := fun N F σ H Z Q q =>
  h N F σ H Z _ fun vs ds M1 F1 H1 e1 h1 w1 r1 => h1 N F1 σ H1 ⟨w1, Z.e.mono e1, Z.bm e1⟩ _ fun zs es M2 F2 H2 e2 h2 w2 r2 =>
    ⟨F2, N, M2, _, R, noX, w2, gpick_rpa (r1.mono e2) r2, h2, fun v d M3 F3 H3 e3 hr w3 r3 => q v d M3 F3 H3 ((e1.trans e2).trans e3) hr w3 r3, wish_no⟩
/-- a method that may raise, of what stays or of what is owned -/
def MethX (K : KB) (C : Addr) (m : Str) (S : SpecX) (t : TA) (ρ : Rho) (x : DV) (M : Ms) (R : DV → Ms → Prop) (RE : RER) : Prop :=
  (∃ fs, x = .ins C fs ∧ fs.lookup m = none ∧ EvAR K t ρ M fun ds M2 => S (.ins C fs :: ds) M2 R RE) ∨ (∃ a fs, x = .raw (.ref a) ∧ (a, MO.ins C fs) ∈ M ∧ fs.lookup m = none ∧ EvAR K t ρ M fun ds M2 => S (.raw (.ref a) :: ds) M2 R RE)
theorem methX_core {C : Addr} {m : Str} {RE : RER} (hb : ∀ N F, KK.B N F → Wish KK.fr E' RE N F) (h : EvR KK ta ρ M fun x M1 => MethX KK C m S ta' ρ x M1 R RE) : EvR KK (tMeth C m (spX KK.fr S) [] E' ta ta') ρ M R := fun N F σ H Z Q q =>
  h N F σ H Z _ fun v x M1 F1 H1 e1 hx w1 r1 => by
    rcases hx with ⟨fs, rfl, hl, h1⟩ | ⟨a, fs, rfl, hm, hl, h1⟩
    · obtain ⟨a, dx, gs, rfl, ha, hf⟩ := id r1.ins_of
      refine ⟨a, dx, gs, rfl, w1.fr _ _ ha, hf.lookup_none hl, ?_⟩
      refine h1 N F1 σ H1 ⟨w1, Z.e.mono e1, Z.bm e1⟩ _ fun vs ds M2 F2 H2 e2 h2 w2 r2 => ?_
      rw [List.append_nil]
      exact ⟨F2, N, M2, _, R, RE, w2, .cons (r1.mono e2) r2, h2, fun v d M3 F3 H3 e3 hr w3 r3 => q v d M3 F3 H3 ((e1.trans e2).trans e3) hr w3 r3, hb _ _ (Z.bm (e1.trans e2))⟩
    · cases r1.raw_of
      obtain ⟨_, dx, gs, ha, hf⟩ := w1.ce a _ (List.mem_append_right N hm)
      refine ⟨a, dx, gs, rfl, ha, hf.lookup_none hl, ?_⟩
      refine h1 N F1 σ H1 ⟨w1, Z.e.mono e1, Z.bm e1⟩ _ fun vs ds M2 F2 H2 e2 h2 w2 r2 => ?_
      rw [List.append_nil]
      exact ⟨F2, N, M2, _, R, RE, w2, .cons (.raw _) r2, h2, fun v d M3 F3 H3 e3 hr w3 r3 => q v d M3 F3 H3 ((e1.trans e2).trans e3) hr w3 r3, hb _ _ (Z.bm (e1.trans e2))⟩
theorem w_methX {C : Addr} {m : Str} (h : EvR (KX K E RE) ta ρ M fun x M1 => MethX (KX K E RE) C m S ta' ρ x M1 R RE) : EvR (KX K E RE) (tMeth C m (spX K S) [] E ta ta') ρ M R := methX_core (KK := KX K E RE) (fun _ _ b => b) h
theorem w_methX0 {C : Addr} {m : Str} (h : EvR KK ta ρ M fun x M1 => MethX KK C m S ta' ρ x M1 R noX) : EvR KK (tMeth C m (spX KK.fr S) [] E' ta ta') ρ M R := methX_core (fun _ _ _ => wish_no) h
theorem MethX.ins {C : Addr} {m : Str} {fs : List (Str × DV)} (hl : fs.lookup m = none) (k : EvAR KK ta' ρ M fun ds M2 => S (.ins C fs :: ds) M2 R RE) : MethX KK C m S ta' ρ (.ins C fs) M R RE := .inl ⟨_, rfl, hl, k⟩
theorem MethX.own {C a : Addr} {m : Str} {fs : List (Str × DV)} (hm : (a, MO.ins C fs) ∈ M) (hl : fs.lookup m = none) (k : EvAR KK ta' ρ M fun ds M2 => S (.raw (.ref a) :: ds) M2 R RE) : MethX KK C m S ta' ρ (.raw (.ref a)) M R RE := .inr ⟨_, _, rfl, hm, hl, k⟩
/-- C(..), C's __init__ may raise -/
theorem makeX_core {C : Addr} {RE0 : RER} (hb : ∀ N F, KK.B N F → Wish KK.fr E' RE0 N F) (h : EvAR KK t ρ M fun ds M1 => ∀ x, S (.raw (.ref x) :: ds) ((x, .ins C []) :: M1) (fun d M2 => d = .non ∧ R (.raw (.ref x)) M2) fun C' fs M2 => ∃ c M3, M2 = c :: M3 ∧ RE0 C' fs M3) : EvR KK (tMake C (spX KK.fr S) [] E' t) ρ M R := fun N F σ H Z Q q =>
  h N F σ H Z _ fun vs ds M1 F1 H1 e1 h1 w1 r1 => fun x dx hx hdx hne => by
    rw [List.append_nil]
    have hxd : x ≠ dx := hne.symm
    have w2 : Wd KK.fr F1 (N ++ M1) (upd H1 dx (.own x)) := by
      refine ⟨fun b u hb => ?_, fun b u hb => ?_, w1.nd⟩
      · rw [upd_ne (ne_of_none hb (w1.fresh hdx))]; exact w1.fr b u hb
      · exact ⟨(w1.ce b u hb).1, (w1.ce b u hb).2.mono (Evl.Ex.refl F1) (upd_ne (w1.mne hdx hb))⟩
    have w3 := (w2.cell (p := x) (mo := .ins C []) (o := .ins C dx []) (by rw [upd_ne hxd]; exact hx) ⟨dx, [], upd_same, .nil⟩).perm List.perm_middle
    refine ⟨F1, N, _, _, _, _, w3, .cons (.raw _) r1, h1 x, fun v d M3 F3 H3 e3 hr w4 r4 => ⟨by rw [hr.1] at r4; exact r4.non_of, q _ _ M3 F3 H3 (e1.trans e3) hr.2 w4 (.raw _)⟩, fun C' dx' fs M3 F3 H3 e3 ⟨c, M4, hm, hr⟩ w4 r4 => ?_⟩
    subst hm
    exact hb N F1 (Z.bm e1) C' dx' fs M4 F3 H3 e3 hr (w4.perm (List.perm_middle.symm)).drop r4
theorem evr_makeX {C : Addr} (h : EvAR (KX K E RE) t ρ M fun ds M1 => ∀ x, S (.raw (.ref x) :: ds) ((x, .ins C []) :: M1) (fun d M2 => d = .non ∧ R (.raw (.ref x)) M2) fun C' fs M2 => ∃ c M3, M2 = c :: M3 ∧ RE C' fs M3) : EvR (KX K E RE) (tMake C (spX K S) [] E t) ρ M R := makeX_core (KK := KX K E RE) (fun _ _ b => b) h
theorem evr_makeX0 {C : Addr} (h : EvAR KK t ρ M fun ds M1 => ∀ x, S (.raw (.ref x) :: ds) ((x, .ins C []) :: M1) (fun d M2 => d = .non ∧ R (.raw (.ref x)) M2) fun C' fs M2 => ∃ c M3, M2 = c :: M3 ∧ noX C' fs M3) : EvR KK (tMake C (spX KK.fr S) [] E' t) ρ M R := makeX_core (fun _ _ _ => wish_no) h
/-! raise -/
theorem raise_core {C : Addr} {n : Str} {W : WX} (hW : ∀ N F σ H, Sb KK N F M ρ σ H → ∀ dx fs M' F' H', Ex F F' → RE C fs M' → Wd KK.fr F' (N ++ M') H' → RpX KK.fr F' dx fs → W (.ref C) dx σ H') (h : EvR KK te ρ M fun d M1 => RE C [(n, d)] M1) : XS KK (EX.tRaiseEr C n W te) ρ M P := fun N F σ H D S e => by
  have key : EvAR KK (tCons te tNil) ρ M fun ds M2 => ∃ d, ds = [d] ∧ RE C [(n, d)] M2 := ear_cons (h.mono fun d M1 hd => ear_nil ⟨d, rfl, hd⟩)
  show tCons te tNil σ H (fun vs H1 => vs.length ≤ 1000 ∧ ∀ a, H1 a = none → EX.spInit C n (.ref a :: (vs ++ [])) (upd H1 a (exo a C none)) (fun v H2 => v = .non ∧ ∃ (d : Addr) (fs : List (Str × V)), H2 a = some (exo a C (some d)) ∧ H2 d = some (exd d fs) ∧ H1 d = none ∧ W (.ref C) (some d) σ (upd (del H2 a) d (.xd fs))) (fun _ _ _ => False))
  refine key N F σ H S _ fun vs ds M1 F1 H1 e1 ⟨d, hd, hr⟩ w1 r1 => ?_
  subst hd
  obtain ⟨v, rfl, rv⟩ := rpa1 r1
  exact EX.mk_one (n := n) (Q := fun cls dx H' => W cls dx σ H') fun dd hdd => hW N F σ H S (some dd) [(n, d)] M1 _ _ (e1.trans (ex_new (w1.fresh hdd))) hr (w1.new hdd _) ⟨[(n, v)], .inr ⟨dd, rfl, upd_same⟩, .cons (rv.mono (ex_new (w1.fresh hdd))) .nil⟩
/-- in a def that may raise; in a try's body -/
theorem xs_raiseD {C : Addr} {n : Str} (h : EvR (KX K E RE) te ρ M fun d M1 => RE C [(n, d)] M1) : XS (KX K E RE) (EX.tRaiseEr C n (fun cls d _ H => E cls d H) te) ρ M P := raise_core (KK := KX K E RE) (fun N F σ H S dx fs M' F' H' e hr w r => S.b C dx fs M' F' H' e hr w r) h
theorem xs_raiseT {C : Addr} {n : Str} {W : WX} {l : Nat} (hl : ρ.length = l) (h : EvR (KX K (wE W l) RE) te ρ M fun d M1 => RE C [(n, d)] M1) : XS (KX K (wE W l) RE) (EX.tRaiseEr C n W te) ρ M P := raise_core (KK := KX K (wE W l) RE) (fun N F σ H S dx fs M' F' H' e hr w r => S.b C dx fs M' F' H' e hr w r σ (by rw [S.e.len]; exact hl)) h
theorem xs_raise0D {C : Addr} (h : RE C [] M) : XS (KX K E RE) (EX.tRaise0 C (fun cls d _ H => E cls d H)) ρ M P := fun N F σ H D S e => S.b C none [] M F H (Evl.Ex.refl F) h S.w ⟨[], .inl ⟨rfl, rfl⟩, .nil⟩
theorem xs_raise0T {C : Addr} {W : WX} {l : Nat} (hl : ρ.length = l) (h : RE C [] M) : XS (KX K (wE W l) RE) (EX.tRaise0 C W) ρ M P := fun N F σ H D S e => S.b C none [] M F H (Evl.Ex.refl F) h S.w ⟨[], .inl ⟨rfl, rfl⟩, .nil⟩ σ (by rw [S.e.len]; exact hl)
/-! try -/
def setD (ρ : Rho) (i : Option Nat) (x : Option DV) : Rho := match i with
  | some i => ρ.set i x
  | none => ρ
/-- what is asked of an error of the body: by the clauses, one after the other -/
def HX (K : PySem.W.Frag) (n : Nat) (P : Post) (RO : RER) : List EX.Cls1 → RER
  | [] => RO
  | c :: r => fun C fs M => ∃ b, PySem.W.exmAny K (.ref C) c.cs = some b ∧
      (b = true → XS (KB.pure K) c.ts (setD (List.replicate n none) c.i (some (.exn C fs))) M { nx := fun ρ' M' => P.nx (setD ρ' c.i none) M', rt := P.rt, bk := fun ρ' M' => P.bk (setD ρ' c.i none) M', ct := fun ρ' M' => P.ct (setD ρ' c.i none) M' }) ∧
      (b = false → HX K n P RO r C fs M)
theorem EnvD.setN {K : PySem.W.Frag} {F : Hp} {σ : L2.St} {ρ : Rho} (h : EnvD K F σ ρ) (i : Option Nat) : EnvD K F (EX.setI σ i none) (setD ρ i none) := by
  cases i with
  | none => exact h
  | some i => exact h.unset i
theorem hx_wish {KK : KB} {n : Nat} {P : Post} {RO : RER} {Wout : WX} {D : Ends} {N : Ms} {F : Hp} (e : EOk KK F N P D) (b : KK.B N F) (hout : ∀ C dx fs M' F' H', Ex F F' → RO C fs M' → Wd KK.fr F' (N ++ M') H' → RpX KK.fr F' dx fs → ∀ σ : L2.St, σ.length = n → Wout (.ref C) dx σ H') :
    ∀ (l : List EX.Cls1) C dx fs M' F' H', Ex F F' → HX KK.fr n P RO l C fs M' → Wd KK.fr F' (N ++ M') H' → RpX KK.fr F' dx fs → ∀ σ : L2.St, σ.length = n → EX.wX KK.fr Wout D l (.ref C) dx σ H'
  | [], C, dx, fs, M', F', H', e1, h, w, r, σ, hl => hout C dx fs M' F' H' e1 h w r σ hl
  | c :: l, C, dx, fs, M', F', H', e1, ⟨bb, h1, h2, h3⟩, w, r, σ, hl => by
    refine ⟨bb, h1, fun hb a na => ?_, fun hb => hx_wish e b hout l C dx fs M' F' H' e1 (h3 hb) w r σ hl⟩
    have hn := w.fresh na
    have ex := ex_new (o := EX.exq a (.ref C) dx) hn
    have w2 := w.new na (EX.exq a (.ref C) dx)
    obtain ⟨gs, hd, rf⟩ := r
    have re : Rp KK.fr (upd F' a (EX.exq a (.ref C) dx)) (.ref a) (.exn C fs) := .exn upd_same (hd.imp id fun ⟨dd, q1, q2⟩ => ⟨dd, q1, ex _ _ q2⟩) (rf.mono ex)
    have en : EnvD KK.fr (upd F' a (EX.exq a (.ref C) dx)) (EX.setI σ c.i (some (.ref a))) (setD (List.replicate n none) c.i (some (.exn C fs))) := by
      have := EnvD.any (K := KK.fr) (F := upd F' a (EX.exq a (.ref C) dx)) σ
      rw [hl] at this
      cases hi : c.i with
      | none => exact this
      | some i => exact this.set re i
    exact h2 hb N _ _ _ _ ⟨w2, en, True.intro⟩ ⟨fun F3 σ3 H3 ρ3 M3 e3 hp S3 => e.nx F3 _ H3 _ M3 ((e1.trans ex).trans e3) hp ⟨S3.w, S3.e.setN c.i, KK.mono ((e1.trans ex).trans e3) b⟩, fun v F3 H3 d M3 e3 hp w3 r3 => e.rt v F3 H3 d M3 ((e1.trans ex).trans e3) hp w3 r3,
      fun F3 σ3 H3 ρ3 M3 e3 hp S3 => e.bk F3 _ H3 _ M3 ((e1.trans ex).trans e3) hp ⟨S3.w, S3.e.setN c.i, KK.mono ((e1.trans ex).trans e3) b⟩, fun F3 σ3 H3 ρ3 M3 e3 hp S3 => e.ct F3 _ H3 _ M3 ((e1.trans ex).trans e3) hp ⟨S3.w, S3.e.setN c.i, KK.mono ((e1.trans ex).trans e3) b⟩⟩
theorem try_core {tb : WX → TS} {l : List EX.Cls1} {n : Nat} {RO : RER} {Wout : WX} (hout : ∀ N F, KK.B N F → ∀ C dx fs M' F' H', Ex F F' → RO C fs M' → Wd KK.fr F' (N ++ M') H' → RpX KK.fr F' dx fs → ∀ σ : L2.St, σ.length = n → Wout (.ref C) dx σ H')
    (h : ∀ W, XS (KX KK.fr (wE W n) (HX KK.fr n P RO l)) (tb W) ρ M P) : XS KK (fun D σ H => tb (EX.wX KK.fr Wout D l) D σ H) ρ M P := fun N F σ H D S e => by
  refine h (EX.wX KK.fr Wout D l) N F σ H D ⟨S.w, S.e, fun C dx fs M' F' H' e1 hh w r σ' hl => hx_wish e S.b (hout N F S.b) l C dx fs M' F' H' e1 hh w r σ' hl⟩ ⟨fun F3 σ3 H3 ρ3 M3 e3 hp S3 => e.nx F3 σ3 H3 ρ3 M3 e3 hp ⟨S3.w, S3.e, KK.mono e3 S.b⟩, e.rt, fun F3 σ3 H3 ρ3 M3 e3 hp S3 => e.bk F3 σ3 H3 ρ3 M3 e3 hp ⟨S3.w, S3.e, KK.mono e3 S.b⟩, fun F3 σ3 H3 ρ3 M3 e3 hp S3 => e.ct F3 σ3 H3 ρ3 M3 e3 hp ⟨S3.w, S3.e, KK.mono e3 S.b⟩⟩
/-- where nothing is let out; in a def that may raise -/
theorem xs_try {tb : WX → TS} {l : List EX.Cls1} (h : ∀ W, XS (KX K (wE W ρ.length) (HX K ρ.length P noX l)) (tb W) ρ M P) : XS (KB.pure K) (fun D σ H => tb (EX.wX K (fun _ _ _ _ => False) D l) D σ H) ρ M P := try_core (KK := KB.pure K) (fun _ _ _ _ _ _ _ _ _ _ h => h.elim) h
theorem xs_tryD {tb : WX → TS} {l : List EX.Cls1} (h : ∀ W, XS (KX K (wE W ρ.length) (HX K ρ.length P RE l)) (tb W) ρ M P) : XS (KX K E RE) (fun D σ H => tb (EX.wX K (fun cls d _ H => E cls d H) D l) D σ H) ρ M P := try_core (KK := KX K E RE) (fun _ _ b C dx fs M' F' H' e hr w r _ _ => b C dx fs M' F' H' e hr w r) h
/-! a known error: isinstance, attributes -/
def rIsiU (K : PySem.W.Frag) : List V → Hp → VK → Prop := fun xs H Q => rIsi K xs H Q ∨ EX.rIsQ K xs H Q
theorem wIsiU {X : Cx} (K : PySem.W.Frag) (hK : X.K = K) : CallR X (.builtin "isinstance") (rIsiU K) := hK ▸ callR_or call_isi EX.call_isQ
theorem rc_isiU {K : PySem.W.Frag} {xs : List DV} {z : DV} (h : RC K (rIsi K) xs M z) : RC K (rIsiU K) xs M z := fun N F us H w r Q q => .inl (h N F us H w r Q q)
theorem exn_dict {K : PySem.W.Frag} {F H : Hp} {d : Option Addr} {fs : List (Str × V)} (e : Ex F H) (h : (d = none ∧ fs = []) ∨ ∃ dd, d = some dd ∧ F dd = some (.xd fs)) : ∀ dd, d = some dd → ∃ u, H dd = some u := fun dd hd => by
  rcases h with ⟨h1, _⟩ | ⟨dd', h1, h2⟩
  · rw [h1] at hd; cases hd
  · rw [h1] at hd; cases hd; exact ⟨_, e _ _ h2⟩
theorem rc_isiQ {K : PySem.W.Frag} {C : Addr} {fs : List (Str × DV)} {c : V} {cv : Value} {b : Bool} (ec : ExcC K C) (hcv : ∀ u, RelV c u → u = cv) (hk : PySem.W.kitOne K (.ref C) cv = some b) : RC K (rIsiU K) [.exn C fs, .raw c] M (.bl b) := fun N F us H w hr Q k => by
  obtain ⟨u, v, rfl, r1, r2⟩ := rpa2 hr
  cases r2.raw_of
  obtain ⟨a, d, gs, rfl, ha, hd, rf⟩ := r1.exn_of
  exact .inr ⟨a, C, d, c, cv, b, rfl, w.fr _ _ ha, exn_dict (K := K) w.fr hd, ec, hcv, hk, k _ _ M F H (Evl.Ex.refl F) ⟨rfl, rfl⟩ w (.bl b)⟩
theorem rc_isiQo {K : PySem.W.Frag} {C D : Addr} {fs : List (Str × DV)} {b : Bool} (ec : ExcC K C) (hk : PySem.W.kitOne K (.ref C) (.ref D) = some b) : RC K (rIsiU K) [.exn C fs, .raw (.ref D)] M (.bl b) := rc_isiQ ec (fun u h => h) hk
theorem rc_isiQt {K : PySem.W.Frag} {C : Addr} {T : String} {fs : List (Str × DV)} {b : Bool} (ec : ExcC K C) (hk : PySem.W.kitOne K (.ref C) (.type T) = some b) : RC K (rIsiU K) [.exn C fs, .raw (.ty T)] M (.bl b) := rc_isiQ ec (fun u h => h) hk
theorem w_xq {f : Str} (h : EvR KK ta ρ M fun x M1 => ∃ C fs d, x = .exn C fs ∧ XfC KK.fr C ∧ PySem.W.findIn KK.fr (.ref C) f = some none ∧ fs.lookup f = some d ∧ R d M1) : EvR KK (EX.tXq KK.fr f ta) ρ M R := fun N F σ H S Q q =>
  h N F σ H S _ fun v x M1 F1 H1 e1 ⟨C, fs, d, hx, c, n, l, hr⟩ w1 r1 => by
    subst hx
    obtain ⟨a, dd, gs, rfl, ha, hd, rf⟩ := r1.exn_of
    obtain ⟨u, hu, ru⟩ := rf.lookup l
    rcases hd with ⟨_, rfl⟩ | ⟨dd, rfl, h2⟩
    · cases hu
    · exact ⟨a, C, dd, gs, u, rfl, w1.fr _ _ ha, w1.fr _ _ h2, c, n, hu, q u d M1 F1 H1 e1 hr w1 ru⟩
end
section
variable {P : Program} {w : World} {K : PySem.W.Frag} {mg : Str → Option Value} {base : Heap} {k : Nat} {f : Addr} {fd : FuncData} {N ps : List Str} {x qual : Str} {st : Stmt} {Sp : SpecD}
/-- a def that is called in an except suite -/
theorem fnS (F : Fun K x qual st f fd) (S : FnScope N ps (defScope st)) (len : ∀ ds M R, Sp ds M R → ds.length = ps.length)
    (hb : ∀ (cdv : Value) (A : Around) (up : List Env) (z : Shared) (H : Hp) (E : XK), L2H.RoomH k (A.deeper (envOfC qual (defScope st) z.heap.objs.size f cdv)) → ∀ ds M R, Sp ds M R →
      ∃ t, PSs (EX.cxS P w K mg base N qual (defScope st) f cdv A up z H E) (defBody st) t ∧ XS K t (rho0 N ds) M { nx := fun _ M' => R .non M', rt := R }) : EX.FnS P w K mg base (k + 1) f fd ps (spD K Sp) :=
  EX.fn_ofS F S (spD_len len) fun cdv A up z H vs Q E hr h => fnD_core h fun ds M R hs => hb cdv A up z H E hr ds M R hs
end
end DD

set_option Elab.async false
set_option linter.all false
set_option maxRecDepth 100000
set_option maxHeartbeats 4000000
namespace DD
open PySem PySem.Spec PyProof.Rows L2
open LamX (TabB LamS lamCx CodeO lam_start2 codeO_ne among_app)
/-! ### lambdas without parameters, handed to a def -/
section
variable {X : Cx} {pnz : List (Addr × Obj)} {σ : L2.St} {H : Hp} {s : Shared}
/-- the lambda is made; of the tables only P changes -/
theorem lam_make3 {c P : Addr} {q : Str} {params : Arguments} {body : Expr} {scope : Scope} {pos : Pos} {E : Value → Shared → Prop} {Q : Value → Shared → Prop} (I : Inv X pnz σ H s) (TB : TabB X.base X.mg c P) (hcode : X.env.code = .ref c)
    (hqq : q = X.env.qual ++ "<lambda>") (hT : LamX.TabS H P q) (hdef : defaultsOf params X.env = ([], [])) (hfree : ∀ y ∈ scope.names, y.2 = .free → ∃ c, X.env.cells.lookup y.1 = some c)
    (h : ∀ (f c' : Addr) (pm ctv : Value) (G1 : Hp) (s' : Shared), Inv X pnz σ G1 s' → (∀ b o, b ≠ P → H b = some o → G1 b = some o) → LamX.TabS G1 P q →
      s'.heap.get? f = some (PySem.W.kla_obj "<lambda>" (X.env.qual ++ "<lambda>") params body scope (cloFrom X.env.cells scope.names []) pm c' ctv) → G1 f = none → f ∉ frs X.stack → G1 c' = some (CodeO c' q) → Q (.ref f) s') :
    wpAny (model X.prog X.w) X.A (eval (.Lambda params body scope pos) X.env) Q E s := by
  have hTs : LamX.Tabs [(P, q)] H := fun p hp => by rw [List.mem_singleton.mp hp]; exact hT
  obtain ⟨ps, hP, ht, ha⟩ := hT
  subst hqq
  refine PySem.W.kla_eval hdef ?_
  have bP : s.heap.BuiltinsAt X.mg P := TB.bm.keeps I.bk
  have hP' : s.heap.get? P = some { cls := .none, data := .fields ps } := I.hok P _ hP
  have nofr : ∀ f, s.heap.objs.size ≤ f → f ∉ frs X.stack := fun f hf z => by
    rcases List.mem_cons.mp (I.stkSub _ z) with e | e
    · have h1 := I.lt
      rw [← e] at h1
      exact Nat.lt_irrefl _ (Nat.lt_of_lt_of_le h1 hf)
    · exact I.nofs hf e
  cases hc : codeAmong pos ps.toList with
  | none =>
    refine PySem.W.kla_makeFunction (mg := X.mg) (c := c) (P := P) (ps := ps) (closure_ok hfree) I.ok.glob (I.mod.glob.keeps I.bk) hcode (TB.code.keeps I.bk) hP' ht hc TB.gP bP fun c' ctv h' tkk hxx hge hlt hrec htb => ?_
    obtain ⟨c2, oc, vz, t, e2, hoc, hdd, hv⟩ := hrec
    cases e2
    have hsz : s.heap.objs.size ≤ h'.objs.size := Nat.le_trans hge (Nat.le_of_lt hlt)
    have nC : H c' = none := I.hok.fresh hge
    have In1 := LamX.inv_table (t' := tkk) (more := #[rawInt pos.line, rawInt pos.col, .ref c']) (h' := h'.push (PySem.W.kla_obj "<lambda>" (X.env.qual ++ "<lambda>") params body scope (cloFrom X.env.cells scope.names []) ((X.mg "__name__").getD .none) c' ctv)) I hP
      (fun b o hbb e => Heap.get?_push_of_some _ (hxx b o hbb e)) (Heap.get?_push_of_some _ htb) hge ⟨oc, vz, t, Heap.get?_push_of_some _ hoc, hdd, hv⟩
    have hE : ∀ b o, b ≠ P → H b = some o → (upd (upd H P (.tbl (ps ++ #[rawInt pos.line, rawInt pos.col, .ref c']))) c' (CodeO c' (X.env.qual ++ "<lambda>"))) b = some o := fun b o n e => by
      rw [upd_ne (ne_of_none e nC), upd_ne n]
      exact e
    have eL : (ps ++ #[rawInt pos.line, rawInt pos.col, .ref c']).toList = ps.toList ++ [rawInt pos.line, rawInt pos.col, .ref c'] := by simp
    refine h h'.objs.size c' ((X.mg "__name__").getD .none) ctv _ _ In1 hE ⟨_, by rw [upd_ne (ne_of_none hP nC), upd_same], by rw [eL]; exact PySem.TriplesOk_snoc _ _ _ _ ht, fun p' cv hcv => ?_⟩ (Heap.get?_push_size _ rfl) ?_ (nofr _ hsz) upd_same
    · rw [eL] at hcv
      rcases among_app _ ht hcv with z | z
      · obtain ⟨c0, e1, e2⟩ := ha p' cv z
        exact ⟨c0, e1, hE _ _ (fun z => by rw [z, hP] at e2; cases e2) e2⟩
      · exact ⟨c', z, upd_same⟩
    · have n1 : h'.objs.size ≠ c' := Nat.ne_of_gt hlt
      have n2 : h'.objs.size ≠ P := Nat.ne_of_gt (Nat.lt_of_lt_of_le (Heap.lt_size hP') hsz)
      rw [upd_ne n1, upd_ne n2]
      exact I.hok.fresh hsz
  | some cv =>
    obtain ⟨c', e, hco⟩ := ha pos cv hc
    subst e
    refine PySem.W.kla_makeFunctionHit (mg := X.mg) (c := c) (P := P) (ps := ps) (closure_ok hfree) I.ok.glob (I.mod.glob.keeps I.bk) hcode (TB.code.keeps I.bk) hP' ht hc bP fun ctv h' tkk hxx hsz => ?_
    have In1 : Inv X pnz σ H { s with heap := h'.push (PySem.W.kla_obj "<lambda>" (X.env.qual ++ "<lambda>") params body scope (cloFrom X.env.cells scope.names []) ((X.mg "__name__").getD .none) c' ctv), toks := tkk } := I.kept fun b o e => Heap.get?_push_of_some _ (hxx b o e)
    exact h h'.objs.size c' ((X.mg "__name__").getD .none) ctv H _ In1 (fun _ _ _ e => e) ⟨ps, hP, ht, ha⟩ (Heap.get?_push_size _ rfl) (I.hok.fresh hsz) (nofr _ hsz) hco
end
/-- what the call of the lambda asks, in the def that got it in its slot 0 -/
def tAct (f c' : Addr) (q : Str) (tl : XK → Hp → VK → Prop) (E : XK) : TE := fun σ H Q => σ[0]? = some (some (.ref f)) ∧ H c' = some (CodeO c' q) ∧ tl E H Q
/-- the def g, called with a lambda that does tl, does TT tl -/
def GivesP (P : Program) (w : World) (K : PySem.W.Frag) (mg : Str → Option Value) (base : Heap) (k : Nat) (N : List Str) (qual : Str) (scope : Scope) (g : Addr) (body : List Stmt) (a : Str) (TT : (XK → Hp → VK → Prop) → Hp → VK → Prop) : Prop :=
  ∀ (cdg : Value) (A : Around) (upp : List Env) (f c' : Addr) (q : Str) (s : Shared) (H : Hp) (Q : VK) (tl : XK → Hp → VK → Prop), Room k (A.deeper (envOfC qual scope s.heap.objs.size g cdg)) →
    (∀ (pn : List (Addr × Obj)) (xe : Value → Shared → Prop) (E : XK) (p1 p2 : Pos), Passes (L2.CX P w) ((cxOf CX0 P w K mg base N qual scope g cdg A upp s H E0).tr pn xe) E →
      PE ((cxOf CX0 P w K mg base N qual scope g cdg A upp s H E0).tr pn xe) (.Call (.Name a p1) [] [] p2) (tAct f c' q tl E)) →
    H c' = some (CodeO c' q) → TT tl H Q → ∃ t, PSs (cxOf CX0 P w K mg base N qual scope g cdg A upp s H E0) body t ∧ t { nx := fun _ H' => Q .non H', rt := Q } (L2.start N [.ref f]) H
section
variable {X : Cx} {pnz : List (Addr × Obj)} {σ : L2.St} {H : Hp} {s : Shared}
theorem pe_actP {Ng : List Str} {qg : Str} {sg : Scope} {g f c' : Addr} {q : Str} {cdg pm ctv : Value} {params : Arguments} {body : Expr} {scope : Scope} {k : Nat} {a : Str} {pn : List (Addr × Obj)} {xe : Value → Shared → Prop} {E : XK} {tb : XK → TE} {p1 p2 : Pos}
    (I : Inv X pnz σ H s) (L : LamS X.env.scope scope) (hqq : q = X.env.qual ++ "<lambda>") (hf : s.heap.get? f = some (PySem.W.kla_obj "<lambda>" (X.env.qual ++ "<lambda>") params body scope (cloFrom X.env.cells scope.names []) pm c' ctv)) (hfn : H f = none) (hfr : f ∉ frs X.stack)
    (hbind : bindArgs (PySem.W.kla_fn "<lambda>" (X.env.qual ++ "<lambda>") params body scope (cloFrom X.env.cells scope.names []) pm (.ref c') ctv) ⟨[], []⟩ = pure [])
    (hxx : Passes (L2.CX X.prog X.w) ((cxOf CX0 X.prog X.w X.K X.mg X.base Ng qg sg g cdg X.A X.stack s H E0).tr pn xe) E) (hrm : Room (k + 1) (X.A.deeper (envOfC qg sg s.heap.objs.size g cdg)))
    (hbody : ∀ (A : Around) (outer : List Env) (s : Shared) (H : Hp) (E : XK), Room k (A.deeper (LamX.lamEnv X scope s.heap.objs.size f c')) → PE (lamCx X A outer s H E scope f c') body (tb E))
    (hN : Ng[0]? = some a) (hv : Vis sg a) (hdd : (a == ("__debug__" : Str)) = false) (hcd : (a == ("__classdict__" : Str)) = false) :
    PE ((cxOf CX0 X.prog X.w X.K X.mg X.base Ng qg sg g cdg X.A X.stack s H E0).tr pn xe) (.Call (.Name a p1) [] [] p2) (tAct f c' q (fun E' H' Q' => tb E' σ H' Q') E) := by
  subst hqq
  refine ⟨fun pinsZ sZ σZ HZ Q IZ h => ?_⟩
  obtain ⟨hst, hc, ht⟩ := h
  refine wpAny_Call_Name_kw (thn ((pe_var (pos := p1) (i := 0) hN hv hdd hcd).run pinsZ sZ σZ HZ (fun v G1 => v = .ref f ∧ G1 = HZ) IZ ⟨.ref f, hst, rfl, rfl⟩) fun u z1 ⟨v, G1, In1, r1, q1⟩ => ?_)
  obtain ⟨ev, eH⟩ := q1
  subst ev
  rw [eH] at In1
  obtain rfl : u = Value.ref f := r1
  have of1 : z1.heap.get? f = some (PySem.W.kla_obj "<lambda>" (X.env.qual ++ "<lambda>") params body scope (cloFrom X.env.cells scope.names []) pm c' ctv) := In1.base.keep f _ hf hfn hfr (fun z => nomatch (show f ∈ ([] : List Addr) from z))
  refine PySem.W.callWith_F0 ⟨_, _, _, _, of1⟩ ?_
  have un : Un (frs X.stack) [] H HZ s.heap z1.heap := In1.base
  obtain ⟨⟨oc, vz, t, hoc, hdc, hvc⟩, _, _⟩ := In1.hok c' _ hc
  have rc : codeAny (model X.prog X.w) (X.A.deeper (envOfC qg sg s.heap.objs.size g cdg)) (.call (.ref f) ⟨[], []⟩) (CR (L2.CX X.prog X.w) (envOfC qg sg s.heap.objs.size g cdg :: X.stack) X.prog X.w HZ z1 Q E) z1 := by
    refine PySem.W.kla_callFunE hrm.depth of1 rfl L.co L.gen rfl ⟨c', oc, vz, t, rfl, hoc, hdc, hvc⟩ ?_
    rw [hbind]
    refine wpAny_pure (wpAny_newFunctionEnv (fun y hy => (L.own y hy).2) (fun y hy => absurd hy (by simp)) (fun h₁ hns hsb => ⟨In1.nolimit.fresh _ hsb, ?_⟩) L.kind)
    show codeAny _ _ (.expr body (LamX.lamEnv X scope z1.heap.objs.size f c')) _ _
    have kp : ∀ b o, z1.heap.get? b = some o → h₁.get? b = some o := fun b o e => hsb.extBut b o (Nat.ne_of_lt (Heap.lt_size e)) (Heap.get?_push_of_some _ e)
    have Jv : Inv (lamCx X (X.A.deeper (envOfC qg sg s.heap.objs.size g cdg)) (envOfC qg sg s.heap.objs.size g cdg :: X.stack) z1 HZ E scope f c') [] σ HZ { z1 with heap := h₁, toks := z1.toks + ([] : List (Str × Value)).length } :=
      lam_start2 I L In1.env0 hrm.hd un hns kp
    refine PySem.W.kla_codeExpr (wpAny_mono ((hbody _ _ z1 HZ E (hrm.deeper _)).run [] _ _ HZ Q Jv ht) (fun v s' hqq => ?_) fun e s' hqq => hqq)
    obtain ⟨w', H', J', rv, q⟩ := hqq
    exact ⟨w', H', J'.os, J'.bare, J'.base, J'.hok, rv, q⟩
  refine wpAny_call (codeAny_mono rc fun r s' hqq => ?_)
  cases r with
  | error e => exact hxx pinsZ σZ HZ z1 e s' In1 hqq
  | ok fl =>
    cases fl with
    | ret u => exact In1.after hqq
    | next => exact False.elim hqq
    | brk => exact False.elim hqq
    | cont => exact False.elim hqq
/-- x(lambda: body), P the table of the code objects of the def in which it stands -/
def tLamP (P : Addr) (q : Str) (TT : (XK → Hp → VK → Prop) → Hp → VK → Prop) (t : XK → TE) : TE := fun σ H Q => LamX.TabS H P q ∧ ∀ (G1 : Hp) (c' : Addr), (∀ b o, b ≠ P → H b = some o → G1 b = some o) → LamX.TabS G1 P q → G1 c' = some (CodeO c' q) → TT (fun E H' Q' => t E σ H' Q') G1 Q
theorem pe_lamP {TT : (XK → Hp → VK → Prop) → Hp → VK → Prop} {x a q : Str} {g c P : Addr} {fd : FuncData} {k : Nat} {st : Stmt} {Ng : List Str} {params : Arguments} {body : Expr} {scope : Scope} {t : XK → TE} {p lpos pos : Pos}
    (TB : TabB X.base X.mg c P) (hcode : X.env.code = .ref c) (hqq : q = X.env.qual ++ "<lambda>") (hg : Gl X x) (hm : X.mg x = some (.ref g)) (F : Fun X.K x x st g fd) (hbb : Binds X.K fd [a] []) (Sg : FnScope Ng [a] (defScope st)) (hNg : Ng[0]? = some a) (hva : Vis (defScope st) a)
    (hG : GivesP X.prog X.w X.K X.mg X.base (k + 1) Ng x (defScope st) g (defBody st) a TT) (hrm : Room (k + 2) X.A) (L : LamS X.env.scope scope) (hdef : defaultsOf params X.env = ([], []))
    (hbind : ∀ (q : Str) (cl : List (Str × Addr)) (pm cv ctv : Value), bindArgs (PySem.W.kla_fn "<lambda>" q params body scope cl pm cv ctv) ⟨[], []⟩ = pure [])
    (hbody : ∀ (A : Around) (outer : List Env) (s : Shared) (H : Hp) (E : XK) (f c' : Addr), Room k (A.deeper (LamX.lamEnv X scope s.heap.objs.size f c')) → PE (lamCx X A outer s H E scope f c') body (t E))
    (hdb : (x == ("__debug__" : Str)) = false) (hdd : (a == ("__debug__" : Str)) = false) (hcd : (a == ("__classdict__" : Str)) = false) :
    PE X (.Call (.Name x p) [.Lambda params body scope lpos] [] pos) (tLamP P q TT t) := by
  obtain ⟨oc, od, kV, doc, pm0, an, cdv, ct, osl, rfl, lk, hcg⟩ := F.ex
  refine ⟨fun pnz s σ H Q I h => ?_⟩
  obtain ⟨hT, h⟩ := h
  refine wpAny_Call_Name_kw (ld_glob I hg hm ?_ hdb)
  refine PySem.W.callWith_K (h₀ := X.base) I.ok.mod.kin F.kp ?_ (by rfl) (by rfl)
  show wpAny _ _ (spliced ((false, eval (.Lambda params body scope lpos) X.env) :: backTo pos (starEach [] X.env))) _ _ s
  refine Calls.spliced_cons (lam_make3 I TB hcode hqq hT hdef (L.has I.ok) fun f c' pm' ctv G1 s' In1 eN T1 hf hfn hfr hco => ?_)
  refine Calls.spliced_nil ⟨In1.kIn, ?_⟩
  have rc : codeAny (model X.prog X.w) X.A (.call (.ref g) ⟨[.ref f], []⟩) (CR CX0 X.stack X.prog X.w G1 s' Q E0) s' := by
    refine LamX.run_ofS (N := Ng) (ps := [a]) (us := [.ref f]) (vs := [.ref f]) lk hcg Sg hrm In1.env0 (hbb s' [.ref f] In1.kIn rfl) (.cons rfl .nil) rfl fun hr' => ?_
    exact hG cdv X.A X.stack f c' q s' G1 Q (fun E H' Q' => t E σ H' Q') hr' (fun pn xe E p1 p2 hxx => pe_actP In1 L hqq hf hfn hfr (hbind _ _ _ _ _) hxx hr' (fun A outer s H E hr2 => hbody A outer s H E f c' hr2) hNg hva hdd hcd) hco (h G1 c' eN T1 hco)
  refine wpAny_call (codeAny_mono rc fun r s2 hqq => ?_)
  cases r with
  | error e => exact (show False from hqq).elim
  | ok fl =>
    cases fl with
    | ret u => exact In1.after hqq
    | next => exact False.elim hqq
    | brk => exact False.elim hqq
    | cont => exact False.elim hqq
end
/-! the same for data -/
/-- what the lambda does, where F0 stays, N is others' and M is owned -/
def CloD (K : PySem.W.Frag) (F0 : Hp) (N M : Ms) (tl : XK → Hp → VK → Prop) (Rc : DV → Ms → Prop) (REc : RER) : Prop := ∀ (E : XK) (F' H' : Hp) (Q' : VK), Ex F0 F' → Wd K F' (N ++ M) H' → (∀ v d M2 F2 H2, Ex F' F2 → Rc d M2 → Wd K F2 (N ++ M2) H2 → Rp K F2 v d → Q' v H2) → Wish K E REc N F' → tl E H' Q'
/-- what a def makes of a lambda: of its value, of its error -/
abbrev SpecL := (DV → Ms → Prop) → RER → Ms → (DV → Ms → Prop) → Prop
def TTd (K : PySem.W.Frag) (S : SpecL) : (XK → Hp → VK → Prop) → Hp → VK → Prop := fun tl H Q => ∃ (F : Hp) (N M : Ms) (Rc : DV → Ms → Prop) (REc : RER) (R : DV → Ms → Prop), Wd K F (N ++ M) H ∧ CloD K F N M tl Rc REc ∧ S Rc REc M R ∧ ∀ v d M' F' H', Ex F F' → R d M' → Wd K F' (N ++ M') H' → Rp K F' v d → Q v H'
open Classical in
/-- the code objects stay -/
noncomputable def withCodes (F G1 : Hp) : Hp := fun a => match F a with
  | some o => some o
  | none => if ∃ c q, G1 a = some (CodeO c q) then G1 a else none
theorem withCodes_some {F G1 : Hp} {a : Addr} {o : HO} (h : F a = some o) : withCodes F G1 a = some o := by unfold withCodes; rw [h]
theorem withCodes_code {F G1 : Hp} {a c : Addr} {q : Str} (h : F a = none) (e : G1 a = some (CodeO c q)) : withCodes F G1 a = some (CodeO c q) := by unfold withCodes; rw [h]; exact (if_pos ⟨c, q, e⟩).trans e
theorem withCodes_none {F G1 : Hp} {a : Addr} (h : F a = none) (e : ∀ c q, G1 a ≠ some (CodeO c q)) : withCodes F G1 a = none := by unfold withCodes; rw [h]; exact if_neg fun ⟨c, q, z⟩ => e c q z
/-- a dict is no code object -/
theorem dno_code {P : Program} {w : World} {b c : Addr} {xs : List (NestedKey × Addr × Value)} {q : Str} (e : DNO P w b xs = CodeO c q) : False := by
  have e' : HO.ext _ = HO.ext _ := e
  injection e' with e'
  let ob : Obj := { cls := .none, data := .fields #[.none, .str q 0] }
  let hh : Heap := ⟨Array.replicate (c + 1) ob, {}⟩
  have hg : ∀ a o, hh.get? a = some o → o = ob := fun a o h => by
    unfold Heap.get? at h
    by_cases hl : a < c + 1
    · have q1 : hh.objs[a]? = some ob := by show (Array.replicate (c + 1) ob)[a]? = _; rw [Array.getElem?_replicate, if_pos hl]
      rw [q1] at h
      exact (Option.some.inj h).symm
    · have q1 : hh.objs[a]? = none := by show (Array.replicate (c + 1) ob)[a]? = _; rw [Array.getElem?_replicate, if_neg hl]
      rw [q1] at h; cases h
  have hc : hh.get? c = some ob := by
    unfold Heap.get?
    have q1 : hh.objs[c]? = some ob := by show (Array.replicate (c + 1) ob)[c]? = _; rw [Array.getElem?_replicate, if_pos (Nat.lt_succ_self c)]
    rw [q1]
  have z : (∃ (oc : Obj) (vs : Array Value) (t : Tok), hh.get? c = some oc ∧ oc.data = .fields vs ∧ vs[1]? = some (.str q t)) := ⟨ob, _, 0, hc, rfl, rfl⟩
  have y := (congrFun e' hh).mpr z
  obtain ⟨_, o, es, ep, h1, _, h2, _⟩ := y
  rw [hg b o h1] at h2
  cases h2
theorem wd_codes {K : PySem.W.Frag} {F H G1 : Hp} {L : Ms} {P : Addr} {q : Str} (w : Wd K F L H) (hP : (P, MO.tab q) ∈ L) (eN : ∀ b o, b ≠ P → H b = some o → G1 b = some o) (hT : LamX.TabS G1 P q) : Ex F (withCodes F G1) ∧ Wd K (withCodes F G1) L G1 := by
  have e : Ex F (withCodes F G1) := fun b o h => withCodes_some h
  have fP := (w.ce P _ hP).1
  have fr : Ex F G1 := fun b o h => eN b o (fun z => by rw [z, fP] at h; cases h) (w.fr b o h)
  refine ⟨e, ⟨fun b o h => ?_, fun b u hbb => ?_, w.nd⟩⟩
  · cases hF : F b with
    | some o' => rw [withCodes_some hF] at h; cases h; exact fr b _ hF
    | none =>
      by_cases hc : ∃ c q, G1 b = some (CodeO c q)
      · obtain ⟨c, q', hc⟩ := hc
        rw [withCodes_code hF hc] at h
        rw [hc]; exact h
      · rw [withCodes_none hF fun c q z => hc ⟨c, q, z⟩] at h; cases h
  · obtain ⟨hnn, hat⟩ := w.ce b u hbb
    by_cases hbP : b = P
    · subst hbP
      have hu : u = MO.tab q := by
        obtain ⟨i, hi⟩ := List.mem_iff_getElem?.mp hbb
        obtain ⟨j, hj⟩ := List.mem_iff_getElem?.mp hP
        have := nodup_ix w.nd (i := i) (j := j) (x := b) (by rw [List.getElem?_map, hi]; rfl) (by rw [List.getElem?_map, hj]; rfl)
        subst this
        rw [hi] at hj; cases hj; rfl
      subst hu
      obtain ⟨ps, h1, h2, h3⟩ := hT
      refine ⟨withCodes_none hnn (fun c q z => by rw [h1] at z; cases z), ps, h1, h2, fun pos cv hc => ?_⟩
      obtain ⟨c, e1, e2⟩ := h3 pos cv hc
      refine ⟨c, e1, ?_⟩
      cases hF : F c with
      | some o => rw [withCodes_some hF]; exact (fr c o hF).symm.trans e2
      | none => exact withCodes_code hF e2
    · obtain ⟨o, hob⟩ := hat.ex
      have hH1 : G1 b = some o := eN b o hbP hob
      refine ⟨withCodes_none hnn fun c q z => ?_, hat.mono e (by rw [hH1, hob])⟩
      rw [hH1] at z
      cases z
      cases u with
      | lst ds => obtain ⟨vz, h1, _⟩ := hat; rw [h1] at hob; cases hob
      | lstP p => obtain ⟨vz, ds, h1, _⟩ := hat; rw [h1] at hob; cases hob
      | ins C ds => obtain ⟨dz, fs, h1, _⟩ := hat; rw [h1] at hob; cases hob
      | dK kvs => obtain ⟨ws, h1, _⟩ := hat; rw [h1] at hob; cases hob
      | dT kvs => obtain ⟨ws, h1, _⟩ := hat; rw [h1] at hob; cases hob
      | dN P w kvs => obtain ⟨ws, h1, _⟩ := hat; rw [h1] at hob; exact dno_code (Option.some.inj hob)
      | tab q => obtain ⟨ps, h1, _⟩ := hat; rw [h1] at hob; cases hob
section
variable {K : PySem.W.Frag} {ρ : Rho} {M : Ms} {R : DV → Ms → Prop}
theorem evr_lam {P : Addr} {q : Str} {S : SpecL} {t : XK → TE} (Rc : DV → Ms → Prop) (REc : RER) (hm : (P, MO.tab q) ∈ M) (h : ∀ E, EvR (KX K E REc) (t E) ρ M Rc) (hst : S Rc REc M R) : EvR (KB.pure K) (tLamP P q (TTd K S) t) ρ M R := fun N F σ H Z Q qq => by
  obtain ⟨hnn, ps, h1, h2, h3⟩ := Z.w.ce P _ (List.mem_append_right N hm)
  refine ⟨⟨ps, h1, h2, fun pos cv hc => let ⟨c, e1, e2⟩ := h3 pos cv hc; ⟨c, e1, Z.w.fr _ _ e2⟩⟩, fun G1 c' eN T1 hc => ?_⟩
  obtain ⟨e, w⟩ := wd_codes Z.w (List.mem_append_right N hm) eN T1
  exact ⟨_, N, M, Rc, REc, R, w, fun E F' H' Q' e1 w1 q1 wish => h E N F' σ H' ⟨w1, (Z.e.mono e).mono e1, wish⟩ Q' q1, hst, fun v d M' F' H' e1 hrm w1 r1 => qq v d M' F' H' (e.trans e1) hrm w1 r1⟩
/-- try: x = a() / except ..: .. ; then u: x in slot i -/
theorem gives_core {n i : Nat} {l : List EX.Cls1} {u : TS} {tl : XK → Hp → VK → Prop} {F H : Hp} {N : Ms} {Q : VK} {f c' : Addr} {q : Str} {Rc : DV → Ms → Prop} {REc : RER} {σ : L2.St} (hσ : σ.length = n) (h0 : σ[0]? = some (some (.ref f))) (hco : H c' = some (CodeO c' q)) (w : Wd K F (N ++ M) H) (hc : CloD K F N M tl Rc REc)
    (hv : ∀ d M2, Rc d M2 → XS (KB.pure K) u ((List.replicate n none).set i (some d)) M2 { nx := fun _ M' => R .non M', rt := R })
    (hge : ∀ C fs M2, REc C fs M2 → HX K n { nx := fun ρ' M' => XS (KB.pure K) u ρ' M' { nx := fun _ M' => R .non M', rt := R }, rt := R } noX l C fs M2)
    (hqq : ∀ v d M' F' H', Ex F F' → R d M' → Wd K F' (N ++ M') H' → Rp K F' v d → Q v H') :
    tSeq (fun D σ H => tAsg (tAct f c' q tl (wE (EX.wX K (fun _ _ _ _ => False) D l) n)) (gName i) D σ H) u { nx := fun _ H' => Q .non H', rt := Q } σ H := by
  have en : EnvD K F σ (List.replicate n none) := by
    have := EnvD.any (K := K) (F := F) σ
    rw [hσ] at this; exact this
  have eok : EOk (KB.pure K) F N { nx := fun ρ' M' => XS (KB.pure K) u ρ' M' { nx := fun _ M' => R .non M', rt := R }, rt := R } { nx := fun σ' H' => u { nx := fun _ H' => Q .non H', rt := Q } σ' H', rt := Q } :=
    ⟨fun F' σ' H' ρ' M' e1 h1 S1 => h1 N F' σ' H' _ S1 ⟨fun F2 σ2 H2 ρ2 M2 e2 h2 S2 => hqq .non .non M2 F2 H2 (e1.trans e2) h2 S2.w .non, fun v F2 H2 d M2 e2 h2 w2 r2 => hqq v d M2 F2 H2 (e1.trans e2) h2 w2 r2, fun _ _ _ _ _ _ z => z.elim, fun _ _ _ _ _ _ z => z.elim⟩,
      fun v F2 H2 d M2 e2 h2 w2 r2 => hqq v d M2 F2 H2 e2 h2 w2 r2, fun _ _ _ _ _ _ z => z.elim, fun _ _ _ _ _ _ z => z.elim⟩
  refine ⟨h0, hco, hc _ F H _ (Evl.Ex.refl F) w (fun v d M2 F2 H2 e2 h2 w2 r2 => ?_) fun C dz fs M2 F2 H2 e2 h2 w2 r2 σ' hl => ?_⟩
  · exact eok.nx F2 _ H2 _ M2 e2 (hv d M2 h2) ⟨w2, (en.mono e2).set r2 i, True.intro⟩
  · exact hx_wish eok True.intro (fun _ _ _ _ _ _ _ z _ _ _ _ => z.elim) l C dz fs M2 F2 H2 e2 (hge C fs M2 h2) w2 r2 σ' hl
end
end DD
namespace DD
open PySem PySem.Spec PyProof.Rows L2
/-! ### defs whose code object is known; the end of a law with tables -/
section
variable {P : Program} {w : World} {K : PySem.W.Frag} {mg : Str → Option Value} {base : Heap} {k : Nat} {f : Addr} {fd : FuncData} {N ps : List Str} {x qual : Str} {st : Stmt} {Sp : SpecD}
theorem fnDc (F : Fun K x qual st f fd) (S : FnScope N ps (defScope st)) (len : ∀ ds M R, Sp ds M R → ds.length = ps.length)
    (hb : ∀ (cdv : Value) (A : Around) (up : List Env) (z : Shared) (H : Hp) (E : XK), cdv = fd.code → Room k (A.deeper (envOfC qual (defScope st) z.heap.objs.size f cdv)) → ∀ ds M R, Sp ds M R →
      ∃ t, PSs (cxOf CX0 P w K mg base N qual (defScope st) f cdv A up z H E).nox (defBody st) t ∧ XS K t (rho0 N ds) M { nx := fun _ M' => R .non M', rt := R }) : FnOk P w K mg base CX0 (k + 1) f fd ps (spD K Sp) := by
  obtain ⟨oc, od, kV, doc, pm, an, cdv, ct, osl, rfl, lk, hcd⟩ := F.ex
  refine fn_of lk hcd S (spD_len len) fun A up z H vs Q E hr h => ?_
  obtain ⟨t, ht, hq⟩ := fnD_core h fun ds M R hs => hb cdv A up z H E rfl hr ds M R hs
  exact ⟨t, ht.nox, hq⟩
theorem fnDGc (F : Fun K x qual st f fd) (S : FnScope N ps (defScope st)) (len : ∀ ds M R, Sp ds M R → ds.length = ps.length)
    (hb : ∀ (cdv : Value) (A : Around) (up : List Env) (z : Shared) (H : Hp) (E : XK), cdv = fd.code → (A.deeper (envOfC qual (defScope st) z.heap.objs.size f cdv)).guards = some [] → Room k (A.deeper (envOfC qual (defScope st) z.heap.objs.size f cdv)) → ∀ ds M R, Sp ds M R →
      ∃ t, PSs (cxOf CX0 P w K mg base N qual (defScope st) f cdv A up z H E).nox (defBody st) t ∧ XS K t (rho0 N ds) M { nx := fun _ M' => R .non M', rt := R }) : FnG P w K mg base CX0 (k + 1) f fd ps (spD K Sp) := by
  obtain ⟨oc, od, kV, doc, pm, an, cdv, ct, osl, rfl, lk, hcd⟩ := F.ex
  refine fnG_of lk hcd S (spD_len len) fun A up z H vs Q E hg hr h => ?_
  obtain ⟨t, ht, hq⟩ := fnD_core h fun ds M R hs => hb cdv A up z H E rfl hg hr ds M R hs
  exact ⟨t, ht.nox, hq⟩
end
/-- in the law's heap nothing stands but the script and the tables -/
def OnlyT (ts : List Addr) (H : Hp) : Prop := (∀ b ∈ ts, H b = some (.tbl #[])) ∧ ∀ b, H b = none ∨ b ∈ ts ∨ ∃ o xs, H b = some (.frz o (.lst xs))
theorem lawGT {P : Program} {w : World} {K : PySem.W.Frag} {mg mb : Str → Option Value} {CX : CXT} {k : Nat} {fa a : Addr} {cs : List (Addr × Addr)} {fd : FuncData} {x : Str} {sp : Sp} {z : Shared} {vs : List Value} {ns : List Int} (KX : K.In z.heap) (hns : z.heap.Ns mainGlobals mg) (hb : z.heap.Ns builtinsNs mb)
    (hbb : ∀ x : Str, x ≠ "__name__" → mb x = bootBuiltins x) (hlim : z.heap.NoLimit) (hg : z.gens = #[]) (hT : ∀ p ∈ cs, z.heap.get? p.2 = some { cls := .none, data := .fields #[] }) (nT : ∀ p ∈ cs, K.lookup p.2 = none) (C : ∀ p ∈ cs, PySem.W.CodeHd z.heap p.1 p.2)
    (hbm : ∃ (bm : Addr) (ob : Obj), mg "__builtins__" = some (.ref bm) ∧ bm ≠ builtinsNs ∧ z.heap.get? bm = some ob ∧ ob.cls = .type "module" ∧ ob.dict = some builtinsNs ∧ ob.data = .plain)
    (ha : z.heap.get? a = some { cls := .type "list", data := .seq vs.toArray }) (hi : IntsAre vs ns) (hl : ns.length ≤ sizeLine) (hr : Room k callerA)
    (F : ∀ base : Heap, K.In base → base.Ns mainGlobals mg → (∀ p ∈ cs, LamX.TabB base mg p.1 p.2) → FnG P w K mg base CX k fa fd [x] sp) (hbind : ∀ (s : Shared) (u : Value), BindsTo s fd ⟨[u], []⟩ [(x, u)])
    (hsp : ∀ H : Hp, OnlyT (cs.map (·.2)) H → SqL K H a (ns.map V.int) → sp [.ref a] H (fun v _ => v = .bl true) fun _ _ _ => False)
    (hCX : ∀ H e s', CX [] H z (fun _ _ _ => False) e s' → False) : codeAny (model P w) callerA (.call (.ref fa) ⟨[.ref a], []⟩) (fun r s' => r = .ok (.ret (.bool true)) ∧ OldK z.heap s'.heap ∧ s'.os = z.os ∧ AllBare s'.gens) z := by
  have rv := vals_ints hi
  have lv := hi.length
  obtain ⟨tl, htl⟩ : ∃ tl, tl = cs.map (·.2) := ⟨_, rfl⟩
  have tb : ∀ b, b ∈ tl → z.heap.get? b = some { cls := .none, data := .fields #[] } ∧ K.lookup b = none ∧ ∃ c, (c, b) ∈ cs := fun b hb => by
    rw [htl] at hb
    obtain ⟨p, hp, e⟩ := List.mem_map.mp hb
    rw [← e]
    exact ⟨hT p hp, nT p hp, p.1, hp⟩
  have aT : a ∉ tl := fun y => by
    have e := (tb a y).1
    rw [ha] at e
    cases congrArg Obj.data (Option.some.inj e)
  have main : ∀ H : Hp, OnlyT tl H → SqL K H a (ns.map V.int) → HOk P w H z.heap → (∀ b, H b ≠ none → b = a ∨ b ∈ tl) → (H a ≠ none → K.lookup a = none) → codeAny (model P w) callerA (.call (.ref fa) ⟨[.ref a], []⟩) (fun r s' => r = .ok (.ret (.bool true)) ∧ OldK z.heap s'.heap ∧ s'.os = z.os ∧ AllBare s'.gens) z := by
    intro H hO hS hok hA hK
    have free : ∀ {b : Addr} {o : Obj}, z.heap.get? b = some o → (∀ us n, o.data ≠ .seq us n) → o.data ≠ .fields #[] → H b = none := fun {b o} e h1 h2 => by
      cases hq : H b with
      | none => rfl
      | some u =>
        rcases hA b (by rw [hq]; simp) with y | y
        · rw [y, ha] at e; cases e
          exact absurd rfl (h1 _ _)
        · rw [(tb b y).1] at e; cases e
          exact absurd rfl h2
    have notA : ∀ {b : Addr} {o : Obj} {es : Array DictEntry} {ep : Nat}, z.heap.get? b = some o → o.data = .dict es ep → H b = none := fun {b o es ep} e d => free e (fun us n y => by rw [d] at y; cases y) fun y => by rw [d] at y; cases y
    have carry : ∀ {b : Addr} {m : Str → Option Value}, z.heap.Ns b m → (hidT z.heap H).Ns b m := fun {b m} ⟨o, es, ep, e, d, r⟩ => ⟨o, es, ep, hidT_get e (notA e d), d, r⟩
    have inB : K.In (hidT z.heap H) := fun b o e => hidT_get (KX b o e) (by
      cases hq : H b with
      | none => rfl
      | some u =>
        rcases hA b (by rw [hq]; simp) with y | y
        · rw [y] at e hq
          rw [hK (by rw [hq]; simp)] at e; cases e
        · rw [(tb b y).2.1] at e; cases e)
    have md : Mod K mg (hidT z.heap H) := ⟨inB, carry hns, ⟨mb, carry hb, hbb⟩, let ⟨mc, h1, h2⟩ := hlim; ⟨mc, carry h1, h2⟩⟩
    have ev : Env0 P w K mg (hidT z.heap H) callerA [] z H := ⟨rfl, md, fun b o e => of_hidT e, Nat.le_of_eq (hidT_size _ _), trivial, fun b hb => absurd (show b ∈ ([] : List Addr) from hb) (by simp), hok, .of_eq hg⟩
    have TB : ∀ p ∈ cs, LamX.TabB (hidT z.heap H) mg p.1 p.2 := fun p hp => by
      have e0 := hT p hp
      refine ⟨?_, ?_, fun y => ?_⟩
      · obtain ⟨o, us, fl, tf, fg, tg, iF, tx, tt, e1, r1, r2, r3, r⟩ := C p hp
        refine ⟨o, us, fl, tf, fg, tg, iF, tx, tt, hidT_get e1 (free e1 (fun ws n y => ?_) fun y => ?_), r1, r2, r3, r⟩
        · rw [r2] at y; cases y
        · rw [r2] at y; cases y; simp at r3
      · obtain ⟨bm, ob, b1, b2, b3, b4, b5, b6⟩ := hbm
        refine ⟨bm, ob, b1, b2, fun q => ?_, fun q => ?_, hidT_get b3 (free b3 (fun ws n y => ?_) fun y => ?_), b4, b5, b6⟩
        · obtain ⟨o, es, ep, e, d, _⟩ := hns
          rw [q, e] at b3; cases b3
          rw [d] at b6; cases b6
        · rw [q, e0] at b3; cases b3; cases b6
        · rw [b6] at y; cases y
        · rw [b6] at y; cases y
      · obtain ⟨o, es, ep, e, d, _⟩ := hns
        rw [y, e0] at e; cases e; cases d
    refine codeAny_mono ((F _ inB (carry hns) TB).run callerA [] z H ⟨[.ref a], []⟩ [.ref a] [.ref a] _ _ rfl hr ev (hbind z (.ref a)) (.cons rfl .nil) (hsp H (htl ▸ hO) hS)) fun r s' h => ?_
    cases r with
    | error e => exact (hCX H e s' h).elim
    | ok fl => cases fl with
      | next => exact h.elim
      | brk => exact h.elim
      | cont => exact h.elim
      | ret u =>
        obtain ⟨v, H', osy, bare, un, hok', r', q⟩ := h
        cases (show v = .bl true from q)
        cases (show u = Value.bool true from r')
        have grown : ∀ b ∈ tl, ∃ more : Array Value, s'.heap.get? b = some { cls := .none, data := .fields more } := fun b hb => by
          obtain ⟨more, y⟩ := un.tbls b #[] (hO.1 b hb)
          exact ⟨_, hok' b _ y⟩
        have key : ∀ b o, b ∉ tl → z.heap.get? b = some o → s'.heap.get? b = some o := fun b o nb e => by
          cases hq : H b with
          | none => exact un.keep b o e hq (fun y => absurd (show b ∈ ([] : List Addr) from y) (by simp)) (by simp)
          | some u => rcases hO.2 b with y | y | ⟨ob, xs, y⟩
                      · rw [hq] at y; cases y
                      · exact absurd y nb
                      · obtain ⟨e1, _⟩ := hok b _ y
                        obtain ⟨e2, _⟩ := hok' b _ (un.frzs b ob _ y)
                        rw [e] at e1; cases e1
                        exact e2
        refine ⟨rfl, ⟨fun b o e => ?_, fun b o e => ?_⟩, osy, bare⟩
        · by_cases hb : b ∈ tl
          · obtain ⟨more, hm⟩ := grown b hb
            obtain ⟨e0, _, c, hc⟩ := tb b hb
            rw [e0] at e; cases e
            exact .inr (.inl ⟨((C _ hc).tab e0).isCodeTable, rfl, #[], more, rfl, by rw [Array.empty_append]; exact hm⟩)
          · exact .inl (key b o hb e)
        · by_cases hb : b ∈ tl
          · obtain ⟨more, hm⟩ := grown b hb
            exact ⟨_, hm⟩
          · exact ⟨o, key b o hb e⟩
  cases hk : K.lookup a with
  | some o =>
    have e := KX a o hk
    rw [ha] at e
    cases e
    refine main (fun b => if b ∈ tl then some (.tbl #[]) else none) ⟨fun b hb => if_pos hb, fun b => ?_⟩ (.inr ⟨_, vs.toArray, _, hk, rfl, rfl, rfl, by rw [List.size_toArray, lv]; exact hl, by simpa using rv⟩) (fun b u y => ?_) (fun b y => ?_) fun y => absurd (if_neg aT) y
    all_goals by_cases hb : b ∈ tl
    · exact .inr (.inl hb)
    · exact .inl (if_neg hb)
    · cases (if_pos hb).symm.trans y
      exact (tb b hb).1
    · cases (if_neg hb).symm.trans y
    · exact .inr hb
    · exact absurd (if_neg hb) y
  | none =>
    refine main (fun b => if b = a then some (.frz { cls := .type "list", data := .seq vs.toArray } (.lst (ns.map V.int))) else if b ∈ tl then some (.tbl #[]) else none) ⟨fun b hb => (if_neg (show ¬ b = a from fun y => aT (by rw [← y]; exact hb))).trans (if_pos hb), fun b => ?_⟩ (.inl (.inr ⟨{ cls := .type "list", data := .seq vs.toArray }, if_pos rfl⟩)) (fun b u y => ?_) (fun b y => ?_) fun _ => hk
    all_goals by_cases hb : b = a
    · exact .inr (.inr ⟨_, _, if_pos hb⟩)
    · by_cases hb2 : b ∈ tl
      · exact .inr (.inl hb2)
      · exact .inl ((if_neg hb).trans (if_neg hb2))
    · cases (if_pos hb).symm.trans y
      subst hb
      exact ⟨ha, by rw [List.length_map]; exact hl, vs, _, rv, ha⟩
    · have y := (if_neg hb).symm.trans y
      by_cases hb2 : b ∈ tl
      · cases (if_pos hb2).symm.trans y
        exact (tb b hb2).1
      · cases (if_neg hb2).symm.trans y
    · exact .inl hb
    · by_cases hb2 : b ∈ tl
      · exact .inr hb2
      · exact absurd ((if_neg hb).trans (if_neg hb2)) y
theorem walkGT {l : PySem.W.OpenLaw} {n k : Nat} {q : Program} {loose : List Str} {XP : (Str → Option Value) → Heap → Prop} {YP : World → Heap → Prop} {d : DefRec} {K : Params → PySem.W.Frag} {CX : World → CXT} {sp : World → Sp} {x : Str} {cs : List (Addr × Addr)} (hn : l.most = some n) (hn2 : n ≤ sizeLine) (hdf : d.params.defaults = [])
    (hr : Room k callerA) (hY : ∀ (w : World) (h : Heap), YP w h → (K w.params).In h) (hT : ∀ (w : World) (h : Heap), YP w h → ∀ p ∈ cs, h.get? p.2 = some { cls := .none, data := .fields #[] }) (nT : ∀ (w : World), ∀ p ∈ cs, (K w.params).lookup p.2 = none) (hC : ∀ (w : World), ∀ p ∈ cs, PySem.W.codeHdIn (K w.params) p.1 p.2 = true)
    (F : ∀ (w : World) (mg : Str → Option Value) (fa : Addr) (h : Heap), (K w.params).In h → h.Ns mainGlobals mg → mg d.name = some (.ref fa) → ∃ fd : FuncData, (∀ (s : Shared) (u : Value), BindsTo s fd ⟨[u], []⟩ [(x, u)]) ∧ ∀ base : Heap, (K w.params).In base → base.Ns mainGlobals mg → (∀ p ∈ cs, LamX.TabB base mg p.1 p.2) → FnG l.prog w (K w.params) mg base (CX w) k fa fd [x] (sp w))
    (hsp : ∀ (w : World) (H : Hp) (a : Addr) (ns : List Int), ns.length ≤ n → OnlyT (cs.map (·.2)) H → SqL (K w.params) H a (ns.map V.int) → sp w [.ref a] H (fun v _ => v = .bl true) fun _ _ _ => False) (hCX : ∀ (w : World) (H : Hp) (s : Shared) (e : Value) (s' : Shared), CX w [] H s (fun _ _ _ => False) e s' → False) :
    PySem.W.WalkO q loose XP YP l.row.toRowW d [] (fun f vs => PySem.call f vs) := by
  refine Att.attach_call hn hdf fun w s0 s1 mg mb fa o pm cd doc a vs ns G Y ho hd hcd hmg hobj hints hlen hg => ?_
  obtain ⟨fd, hb, hF⟩ := F w mg fa _ (hY w _ Y) G.T.g hmg
  exact lawGT (hY w _ Y) G.T.g G.T.b G.T.builtins G.T.nolimit hg (hT w _ Y) (nT w) (fun p hp => PySem.W.codeHd_of_K (hY w _ Y) (hC w p hp)) G.T.bmain hobj hints (Nat.le_trans hlen hn2) hr hF hb (fun H hO hS => hsp w H a ns hlen hO hS) fun H e s' => hCX w H s1 e s'
end DD

set_option Elab.async false
set_option linter.all false
set_option maxRecDepth 100000
set_option maxHeartbeats 4000000
/-! ### repr of data with empty dicts in it -/
namespace DD
open PySem PySem.Spec PyProof.Rows L2
mutual
inductive Rz (h : Heap) : Value → PyData → Prop
  | non : Rz h .none .none
  | bl (b : Bool) : Rz h (.bool b) (.bool b)
  | int (i : Int) (t : Tok) : Rz h (.int i t) (.int i)
  | str (x : Str) (t : Tok) : Rz h (.str x t) (.str x)
  | lst {a : Addr} {o : Obj} {vs : Array Value} {n : Nat} {xs : List PyData} (h1 : h.get? a = some o) (h2 : o.cls = .type "list") (h3 : o.data = .seq vs n) (h4 : RzA h vs.toList xs) : Rz h (.ref a) (.list xs)
  | tup {a : Addr} {o : Obj} {vs : Array Value} {n : Nat} {xs : List PyData} (h1 : h.get? a = some o) (h2 : o.cls = .type "tuple") (h3 : o.data = .seq vs n) (h4 : RzA h vs.toList xs) : Rz h (.ref a) (.tuple xs)
  | dic {a : Addr} {o : Obj} {n : Nat} (h1 : h.get? a = some o) (h2 : o.cls = .type "dict") (h3 : o.data = .dict #[] n) (h4 : (a == sysModules) = false) : Rz h (.ref a) (.dict [])
inductive RzA (h : Heap) : List Value → List PyData → Prop
  | nil : RzA h [] []
  | cons {v : Value} {vs : List Value} {d : PyData} {ds : List PyData} (r : Rz h v d) (t : RzA h vs ds) : RzA h (v :: vs) (d :: ds)
end
section
variable {h : Heap}
mutual
theorem Rz.rd : ∀ {v : Value} {d : PyData}, Rz h v d → ∃ as, Reads h v d as
  | _, _, .non => ⟨_, .none⟩
  | _, _, .bl b => ⟨_, .bool b⟩
  | _, _, .int i t => ⟨_, .int i t⟩
  | _, _, .str x t => ⟨_, .str x t⟩
  | _, _, .lst h1 h2 h3 h4 => let ⟨_, r⟩ := RzA.rd h4; ⟨_, .list h1 h2 h3 r⟩
  | _, _, .tup h1 h2 h3 h4 => let ⟨_, r⟩ := RzA.rd h4; ⟨_, .tuple h1 h2 h3 r⟩
  | _, _, .dic h1 h2 h3 h4 => ⟨_, .dict h1 h2 h3 .nil .nil⟩
theorem RzA.rd : ∀ {v : List Value} {d : List PyData}, RzA h v d → ∃ as, ReadsAll h v d as
  | _, _, .nil => ⟨_, .nil⟩
  | _, _, .cons r t => let ⟨_, a⟩ := Rz.rd r; let ⟨_, b⟩ := RzA.rd t; ⟨_, .cons a b⟩
end
variable {prog : Program} {w : World}
theorem rz_deeper {a : Addr} {d : PyData} {n : Nat} {bs : List Addr} (r : Rz h (.ref a) d) (hn : n < d.depth) (hb : ReadAtMost h n bs) : a ∉ bs := let ⟨_, q⟩ := r.rd; not_mem_of_deeper q hn hb
theorem rz_more {a : Addr} {d : PyData} {n : Nat} {bs : List Addr} (r : Rz h (.ref a) d) (hn : n ≤ d.depth) (hb : ReadAtMost h n bs) : ReadAtMost h d.depth (a :: bs) := let ⟨_, q⟩ := r.rd; ReadAtMost.cons q hn hb
mutual
theorem Rz.shown : ∀ {v : Value} {d : PyData}, Rz h v d → d.showable = true → d.shown.length ≤ sizeLine → ∃ bs, ReadAtMost h d.depth bs ∧ ReprK prog w bs h d.depth v d.shown
  | _, _, .non, _, _ => ⟨[], (fun _ z => nomatch z), by simp only [PyData.shown]; exact .of_is ReprIs.none _ _ _⟩
  | _, _, .bl b, _, _ => ⟨[], (fun _ z => nomatch z), by simp only [PyData.shown]; exact .of_is (ReprIs.bool b) _ _ _⟩
  | _, _, .int i t, hs, _ => ⟨[], (fun _ z => nomatch z), by simp only [PyData.shown]; exact .of_is (ReprIs.int t (by simpa [PyData.showable] using hs)) _ _ _⟩
  | _, _, .str x t, _, hz => ⟨[], (fun _ z => nomatch z), by simp only [PyData.shown]; exact .of_is (ReprIs.str x t (by simpa only [PyData.shown] using hz)) _ _ _⟩
  | _, _, .lst (a := a) (vs := vs) (xs := xs) h1 h2 h3 h4, hs, hz => by
    have z : (listText (PyData.shownAll xs)).length ≤ sizeLine := by simpa only [PyData.shown] using hz
    obtain ⟨bs, hb, hk⟩ := RzA.shown h4 (by simpa [PyData.showable] using hs) fun t ht => Nat.le_trans (listText_mem_le ht) z
    have r : Rz h (.ref a) (.list xs) := .lst h1 h2 h3 h4
    have na := rz_deeper r (by simp only [PyData.depth]; omega) hb
    refine ⟨a :: bs, rz_more r (by simp only [PyData.depth]; omega) hb, ?_⟩
    simp only [PyData.depth, PyData.shown]
    obtain ⟨l⟩ := vs
    cases l with
    | nil =>
      cases (show RzA h [] xs from h4)
      simp only [PyData.shownAll, listText_nil]
      exact ReprK.listEmpty h1 h2 h3
    | cons x l => exact ReprK.list h1 h2 h3 na (by simpa using hk.length_eq) fun i y e => hk.item i y (by simpa using e)
  | _, _, .tup (a := a) (xs := xs) h1 h2 h3 h4, hs, hz => by
    have z : (tupleText (PyData.shownAll xs)).length ≤ sizeLine := by simpa only [PyData.shown] using hz
    obtain ⟨bs, hb, hk⟩ := RzA.shown h4 (by simpa [PyData.showable] using hs) fun t ht => Nat.le_trans (tupleText_mem_le ht) z
    have r : Rz h (.ref a) (.tuple xs) := .tup h1 h2 h3 h4
    refine ⟨a :: bs, rz_more r (by simp only [PyData.depth]; omega) hb, ?_⟩
    simp only [PyData.depth, PyData.shown]
    exact ReprK.tuple h1 h2 h3 (rz_deeper r (by simp only [PyData.depth]; omega) hb) hk
  | _, _, .dic (a := a) h1 h2 h3 h4, hs, hz => by
    have r : Rz h (.ref a) (.dict []) := .dic h1 h2 h3 h4
    have hb : ReadAtMost h (PyData.depthKv []) [] := fun _ z => nomatch z
    refine ⟨[a], rz_more r (by simp only [PyData.depth]; omega) hb, ?_⟩
    simp only [PyData.depth, PyData.shown, PyData.shownKv_eq]
    exact ReprK.dict h1 h2 h3 h4 (fun z => nomatch z) .nil
theorem RzA.shown : ∀ {vs : List Value} {ds : List PyData}, RzA h vs ds → PyData.showableAll ds = true → (∀ t ∈ PyData.shownAll ds, t.length ≤ sizeLine) → ∃ bs, ReadAtMost h (PyData.depthAll ds) bs ∧ ReprAllK prog w bs h (PyData.depthAll ds) vs (PyData.shownAll ds)
  | _, _, .nil, _, _ => ⟨[], (fun _ z => nomatch z), by simp only [PyData.shownAll]; exact .nil⟩
  | _, _, .cons (d := d) (ds := ds) r t, hs, hz => by
    have hs' : d.showable = true ∧ PyData.showableAll ds = true := by simpa [PyData.showableAll] using hs
    obtain ⟨b1, g1, k1⟩ := Rz.shown r hs'.1 (hz _ (by simp only [PyData.shownAll]; exact List.mem_cons_self ..))
    obtain ⟨b2, g2, k2⟩ := RzA.shown t hs'.2 fun t ht => hz t (by simp only [PyData.shownAll]; exact List.mem_cons_of_mem _ ht)
    refine ⟨b1 ++ b2, (g1.mono (by simp only [PyData.depthAll]; exact Nat.le_max_left _ _)).append (g2.mono (by simp only [PyData.depthAll]; exact Nat.le_max_right _ _)), ?_⟩
    simp only [PyData.depthAll, PyData.shownAll]
    exact .cons ((k1.more fun b hb => List.mem_append_left _ hb).level_le (Nat.le_max_left _ _)) (k2.more_le (fun b hb => List.mem_append_right _ hb) (Nat.le_max_right _ _))
end
theorem rz_call {A : Around} {E : Value → Shared → Prop} {z : Shared} {Q : Value → Shared → Prop} {a : Addr} {d : PyData} (r : Rz z.heap (.ref a) d) (hs : d.showable = true) (hg : A.guards = some []) (hu : A.units + (d.depth + 1) < cLine)
    (hQ : ∀ h' u tk, (∀ b o, z.heap.get? b = some o → h'.get? b = some o) → Q (.str d.shown u) { z with heap := h', toks := tk }) (hz : d.shown.length ≤ sizeLine) : wpAny (model prog w) A (call (.builtin "repr") [.ref a]) Q E z := by
  cases r with
  | lst h1 h2 h3 h4 =>
    rename_i o vs n xs
    have r : Rz z.heap (.ref a) (.list xs) := .lst h1 h2 h3 h4
    have hz' : (listText (PyData.shownAll xs)).length ≤ sizeLine := by simpa only [PyData.shown] using hz
    obtain ⟨bs, hb, hk⟩ := RzA.shown (prog := prog) (w := w) h4 (by simpa [PyData.showable] using hs) fun t ht => Nat.le_trans (listText_mem_le ht) hz'
    have na := rz_deeper r (by simp only [PyData.depth]; omega) hb
    simp only [PyData.depth] at hu
    simp only [PyData.shown] at hQ
    refine call_repr_slot (by omega) ⟨o, h1, h2⟩ F.slot_list_repr.toG ?_
    obtain ⟨l⟩ := vs
    cases l with
    | nil =>
      cases (show RzA z.heap [] xs from h4)
      simp only [PyData.shownAll, listText_nil] at hQ
      exact call_list_repr_empty ⟨o, h1, h2⟩ h1 h3 ⟨_, _, rfl, hQ z.heap _ _ fun _ _ e => e⟩
    | cons x l => exact call_list_reprK h1 h2 h3 na (by simpa using hk.length_eq) (fun i y e => hk.item i y (by simpa using e)) hg (fun b _ => Clear.nil b) (show A.units + 1 + _ < cLine by omega) (fun _ _ e => e) (fun h' u tk hk => ⟨_, _, rfl, hQ h' u tk hk⟩) hz'
  | tup h1 h2 h3 h4 =>
    rename_i o vs n xs
    have r : Rz z.heap (.ref a) (.tuple xs) := .tup h1 h2 h3 h4
    have hz' : (tupleText (PyData.shownAll xs)).length ≤ sizeLine := by simpa only [PyData.shown] using hz
    obtain ⟨bs, hb, hk⟩ := RzA.shown (prog := prog) (w := w) h4 (by simpa [PyData.showable] using hs) fun t ht => Nat.le_trans (tupleText_mem_le ht) hz'
    simp only [PyData.depth] at hu
    simp only [PyData.shown] at hQ
    exact call_repr_slot (by omega) ⟨o, h1, h2⟩ F.slot_tuple_repr (call_tuple_reprK h1 h2 h3 (rz_deeper r (by simp only [PyData.depth]; omega) hb) hk hg (fun b _ => Clear.nil b) (show A.units + 1 + _ < cLine by omega) (fun _ _ e => e) (fun h' u tk hk => ⟨_, _, rfl, hQ h' u tk hk⟩) hz')
  | dic h1 h2 h3 h4 =>
    rename_i o n
    have rd : Reads z.heap (.ref a) (.dict []) (a :: [] ++ []) := .dict h1 h2 h3 .nil .nil
    exact PySem.repr_of_reads' rd hs (fun _ hm => by
      have e : sysModules = a := by simpa using hm
      rw [e] at h4
      simp at h4) hg hu (fun _ _ e => e) hQ hz
end
/-! data that may be shown so -/
mutual
def toPyQ : DV → Option PyData
  | .non => some .none
  | .bl b => some (.bool b)
  | .int i => some (.int i)
  | .str s => some (.str s)
  | .tup xs => (toPyQA xs).map .tuple
  | .lst xs => (toPyQA xs).map .list
  | .dic => some (.dict [])
  | .ins _ _ => none
  | .rd _ => none
  | .raw _ => none
  | .exn _ _ => none
  | .dki _ => none
  | .tx _ => none
def toPyQA : List DV → Option (List PyData)
  | [] => some []
  | x :: xs => match toPyQ x, toPyQA xs with
    | some y, some ys => some (y :: ys)
    | _, _ => none
end
mutual
/-- at an address or not: v is d -/
inductive Dq (K : PySem.W.Frag) (H : Hp) : V → PyData → Prop
  | non : Dq K H .non .none
  | bl (b : Bool) : Dq K H (.bl b) (.bool b)
  | int (i : Int) : Dq K H (.int i) (.int i)
  | str (x : Str) : Dq K H (.str x) (.str x)
  | lst {a : Addr} {xs : List V} {ds : List PyData} (h : SqL K H a xs) (r : DqA K H xs ds) : Dq K H (.ref a) (.list ds)
  | tup {a : Addr} {xs : List V} {ds : List PyData} (h : SqT K H a xs) (r : DqA K H xs ds) : Dq K H (.ref a) (.tuple ds)
  | dic {a : Addr} (h : H a = some (.dK [])) : Dq K H (.ref a) (.dict [])
inductive DqA (K : PySem.W.Frag) (H : Hp) : List V → List PyData → Prop
  | nil : DqA K H [] []
  | cons {v : V} {vs : List V} {d : PyData} {ds : List PyData} (h : Dq K H v d) (t : DqA K H vs ds) : DqA K H (v :: vs) (d :: ds)
end
mutual
theorem Rp.dq {K : PySem.W.Frag} {F H : Hp} (e : Ex F H) : ∀ {v : V} {d : DV} {p : PyData}, Rp K F v d → toPyQ d = some p → Dq K H v p
  | _, _, _, .non, h => by cases h; exact .non
  | _, _, _, .bl b, h => by cases h; exact .bl b
  | _, _, _, .int i, h => by cases h; exact .int i
  | _, _, _, .str s, h => by cases h; exact .str s
  | _, _, _, .raw v, h => by cases h
  | _, _, _, .ins _ _, h => by cases h
  | _, _, _, .rd _ _, h => by cases h
  | _, _, _, .exn _ _ _, h => by cases h
  | _, _, _, .dki _, h => by cases h
  | _, _, _, .tx _ _ _, h => by cases h
  | _, _, _, .dic q, h => by cases h; exact .dic (e _ _ q)
  | _, _, p, .tup (ds := ds) hs r, h => by
    unfold toPyQ at h
    cases hq : toPyQA ds with
    | none => rw [hq] at h; cases h
    | some ps => rw [hq] at h; cases h; exact .tup (Evl.ex_t e hs) (RpA.dq e r hq)
  | _, _, p, .lst (ds := ds) hs r, h => by
    unfold toPyQ at h
    cases hq : toPyQA ds with
    | none => rw [hq] at h; cases h
    | some ps => rw [hq] at h; cases h; exact .lst (SqL.of (e _ _ hs)) (RpA.dq e r hq)
theorem RpA.dq {K : PySem.W.Frag} {F H : Hp} (e : Ex F H) : ∀ {vs : List V} {ds : List DV} {ps : List PyData}, RpA K F vs ds → toPyQA ds = some ps → DqA K H vs ps
  | _, _, _, .nil, h => by cases h; exact .nil
  | _, _, ps, .cons (d := d) (ds := ds) h1 t, h => by
    unfold toPyQA at h
    cases hq : toPyQ d with
    | none => rw [hq] at h; cases h
    | some y => cases hq2 : toPyQA ds with
      | none => rw [hq, hq2] at h; cases h
      | some ys => rw [hq, hq2] at h; cases h; exact .cons (Rp.dq e h1 hq) (RpA.dq e t hq2)
end
section
variable {X : Cx} {pins : List (Addr × Obj)} {σ : L2.St} {H : Hp} {z : Shared}
mutual
theorem Dq.rz (I : Inv X pins σ H z) : ∀ {v : V} {d : PyData} {u : Value}, Dq X.K H v d → RelV v u → Rz z.heap u d
  | _, _, _, .non, r => by cases r; exact .non
  | _, _, _, .bl b, r => by cases r; exact .bl b
  | _, _, _, .int i, r => by obtain ⟨t, rfl⟩ := r; exact .int i t
  | _, _, _, .str x, r => by obtain ⟨t, rfl⟩ := r; exact .str x t
  | _, _, _, .lst (a := a) h q, r => by
    cases r
    obtain ⟨its, rv, ⟨o, n, ho, hc, _, hd⟩, _⟩ := I.list h
    exact .lst ho hc hd (by simpa using DqA.rz I q rv)
  | _, _, _, .tup h q, r => by
    cases r
    obtain ⟨its, rv, ⟨o, ho, hc, n, hd⟩, _⟩ := I.tuple h
    exact .tup ho hc hd (by simpa using DqA.rz I q rv)
  | _, _, _, .dic h, r => by
    cases r
    obtain ⟨_, hsm, vs, rel, o, es, ep, ho, hx, hd, _, hpr, _⟩ := dk_of I.hok h
    cases rel
    have he : es = #[] := by
      have : es.toList = [] := by
        generalize es.toList = l at hpr ⊢
        cases hpr; rfl
      exact Array.toList_inj.mp this
    subst he
    exact .dic ho hx.1 hd hsm
theorem DqA.rz (I : Inv X pins σ H z) : ∀ {vs : List V} {ds : List PyData} {us : List Value}, DqA X.K H vs ds → Vals vs us → RzA z.heap us ds
  | _, _, _, .nil, .nil => .nil
  | _, _, _, .cons h t, .cons r s => .cons (Dq.rz I h r) (DqA.rz I t s)
end
end
def rReprQ (K : PySem.W.Frag) : List V → Hp → VK → Prop := fun xs H Q => ∃ (x : V) (d : PyData), xs = [x] ∧ Dq K H x d ∧ d.showable = true ∧ d.depth ≤ 100 ∧ d.shown.length ≤ sizeLine ∧ Q (.str d.shown) H
theorem call_reprQ {X : Cx} {k : Nat} (hG : X.A.guards = some []) (hr : Room k X.A) : CallR X (.builtin "repr") (rReprQ X.K) := by
  intro pins z σ H xs us Q I r h
  obtain ⟨x, d, rfl, hd, hs, hdp, hl, q⟩ := h
  obtain ⟨u, rfl, ru⟩ := vals1 r
  have rz := hd.rz I ru
  have hu : X.A.units + (d.depth + 1) < cLine := by have := hr.un; omega
  have fin : ∀ {a : Addr}, u = .ref a → wpAny (model X.prog X.w) X.A (call (.builtin "repr") [u]) (EP X pins σ Q) X.xe z := fun {a} e => by
    subst e
    exact rz_call rz hs hG hu (fun g tk tk2 hk => ⟨.str _, H, I.kept hk, ⟨_, rfl⟩, q⟩) hl
  cases rz with
  | non => exact PySem.P.repr_of_none ⟨.str _, H, I.tok _, ⟨_, rfl⟩, q⟩
  | bl b => exact PySem.P.repr_of_bool ⟨.str _, H, I.tok _, ⟨_, rfl⟩, q⟩
  | int i t => exact PySem.P.repr_of_int (of_decide_eq_true hs) ⟨.str _, H, I.tok _, ⟨_, rfl⟩, q⟩
  | str y t => exact PySem.P.repr_of_str ⟨.str _, H, I.tok _, ⟨_, rfl⟩, q⟩
  | lst h1 h2 h3 h4 => exact fin rfl
  | tup h1 h2 h3 h4 => exact fin rfl
  | dic h1 h2 h3 h4 => exact fin rfl
theorem wReprQ {X : Cx} (K : PySem.W.Frag) (hK : X.K = K) {k : Nat} (hG : X.A.guards = some []) (hr : Room k X.A) : CallR X (.builtin "repr") (rReprQ K) := hK ▸ call_reprQ hG hr
end DD
namespace DD
open PySem PySem.Spec PyProof.Rows L2
mutual
def fitQ : DV → Bool
  | .non => true
  | .bl _ => true
  | .int i => decide (i.natAbs < 10 ^ 40)
  | .str s => s.cps.toList.all fun c => decide (c < 16 ^ 8)
  | .tup xs => fitQA xs
  | .lst xs => fitQA xs
  | .dic => true
  | .ins _ _ => false
  | .rd _ => false
  | .raw _ => false
  | .exn _ _ => false
  | .dki _ => false
  | .tx _ => false
def fitQA : List DV → Bool
  | [] => true
  | x :: xs => fitQ x && fitQA xs
end
mutual
def depQ : DV → Nat
  | .tup xs => depQA xs + 1
  | .lst xs => depQA xs + 1
  | .dic => 1
  | _ => 0
def depQA : List DV → Nat
  | [] => 0
  | x :: xs => max (depQ x) (depQA xs)
end
mutual
theorem fitQ_py : ∀ (d : DV), fitQ d = true → ∃ p, toPyQ d = some p ∧ p.showable = true ∧ p.depth = depQ d ∧ p.leavesShort 41 = true ∧ p.bulk = blk d
  | .non, _ => ⟨.none, rfl, rfl, rfl, rfl, rfl⟩
  | .bl b, _ => ⟨.bool b, rfl, rfl, rfl, rfl, rfl⟩
  | .int i, h => by
    have hi := int_short (of_decide_eq_true h)
    exact ⟨.int i, rfl, decide_eq_true hi.2, rfl, decide_eq_true hi.1, rfl⟩
  | .str s, h => ⟨.str s, rfl, rfl, rfl, h, rfl⟩
  | .dic, _ => ⟨.dict [], rfl, rfl, rfl, rfl, rfl⟩
  | .tup xs, h => by
    obtain ⟨ps, h1, h2, h4, h5, h6⟩ := fitQA_py xs h
    refine ⟨.tuple ps, by unfold toPyQ; rw [h1]; rfl, h2, ?_, h5, h6⟩
    show PyData.depthAll ps + 1 = depQA xs + 1
    rw [h4]
  | .lst xs, h => by
    obtain ⟨ps, h1, h2, h4, h5, h6⟩ := fitQA_py xs h
    refine ⟨.list ps, by unfold toPyQ; rw [h1]; rfl, h2, ?_, h5, h6⟩
    show PyData.depthAll ps + 1 = depQA xs + 1
    rw [h4]
  | .ins _ _, h => by cases h
  | .rd _, h => by cases h
  | .raw _, h => by cases h
  | .exn _ _, h => by cases h
  | .dki _, h => by cases h
  | .tx _, h => by cases h
theorem fitQA_py : ∀ (xs : List DV), fitQA xs = true → ∃ ps, toPyQA xs = some ps ∧ PyData.showableAll ps = true ∧ PyData.depthAll ps = depQA xs ∧ PyData.leavesShortAll 41 ps = true ∧ PyData.bulkAll ps = blkA xs
  | [], _ => ⟨[], rfl, rfl, rfl, rfl, rfl⟩
  | x :: xs, h => by
    have h' := Bool.and_eq_true_iff.mp h
    obtain ⟨p, a1, a2, a4, a5, a6⟩ := fitQ_py x h'.1
    obtain ⟨ps, b1, b2, b4, b5, b6⟩ := fitQA_py xs h'.2
    refine ⟨p :: ps, by unfold toPyQA; rw [a1, b1], ?_, ?_, ?_, ?_⟩
    · show (p.showable && PyData.showableAll ps) = true; rw [a2, b2]; rfl
    · show max p.depth (PyData.depthAll ps) = max (depQ x) (depQA xs); rw [a4, b4]
    · show (p.leavesShort 41 && PyData.leavesShortAll 41 ps) = true; rw [a5, b5]; rfl
    · show p.bulk + 1 + PyData.bulkAll ps = blk x + 1 + blkA xs; rw [a6, b6]
end
/-- what may be shown: how deep, how much -/
structure Fq (d : DV) (p b : Nat) : Prop where
  f : fitQ d = true
  dp : depQ d ≤ p
  b : blk d ≤ b
structure FqA (ds : List DV) (p b : Nat) : Prop where
  f : fitQA ds = true
  dp : depQA ds ≤ p
  b : blkA ds ≤ b
def showQ (d : DV) : Str := match toPyQ d with
  | some p => p.shown
  | none => Str.empty
section
variable {K : PySem.W.Frag} {M : Ms} {d x : DV} {ds : List DV} {p q b c : Nat}
theorem Fq.non : Fq .non 0 0 := ⟨rfl, Nat.le_refl _, Nat.le_refl _⟩
theorem Fq.bl {x : Bool} : Fq (.bl x) 0 0 := ⟨rfl, Nat.le_refl _, Nat.le_refl _⟩
theorem Fq.dic : Fq .dic 1 0 := ⟨rfl, Nat.le_refl _, Nat.le_refl _⟩
theorem Fq.int {i : Int} (h : -1000000000000000000000000000000 < i ∧ i < 1000000000000000000000000000000) : Fq (.int i) 0 0 := ⟨decide_eq_true (Nat.lt_of_lt_of_le (show i.natAbs < 1000000000000000000000000000000 by omega) (by decide)), Nat.le_refl _, Nat.le_refl _⟩
theorem Fq.str {s : Str} (h : fitQ (.str s) = true) (hl : s.cps.size ≤ 1000) : Fq (.str s) 0 1000 := ⟨h, Nat.le_refl _, hl⟩
theorem Fq.tup (h : FqA ds p b) : Fq (.tup ds) (p + 1) b := ⟨h.f, Nat.succ_le_succ h.dp, h.b⟩
theorem Fq.lst (h : FqA ds p b) : Fq (.lst ds) (p + 1) b := ⟨h.f, Nat.succ_le_succ h.dp, h.b⟩
theorem FqA.nil : FqA [] 0 0 := ⟨rfl, Nat.le_refl _, Nat.le_refl _⟩
theorem FqA.cons (h : Fq d p b) (t : FqA ds q c) : FqA (d :: ds) (max p q) (b + 1 + c) := ⟨by show (fitQ d && fitQA ds) = true; rw [h.f, t.f]; rfl, by show max (depQ d) (depQA ds) ≤ _; have := h.dp; have := t.dp; omega, by show blk d + 1 + blkA ds ≤ _; have := h.b; have := t.b; omega⟩
theorem FqA.all : ∀ {ds : List DV} {n : Nat}, (∀ d, d ∈ ds → Fq d p b) → ds.length ≤ n → FqA ds p (n * (b + 1))
  | [], _, _, _ => ⟨rfl, Nat.zero_le _, Nat.zero_le _⟩
  | d :: ds, n, h, hl => by
    have h1 := h d List.mem_cons_self
    have h2 := FqA.all (n := n - 1) (fun e he => h e (List.mem_cons_of_mem _ he)) (by simp at hl; omega)
    have hn : 1 ≤ n := by simp at hl; omega
    refine ⟨by show (fitQ d && fitQA ds) = true; rw [h1.f, h2.f]; rfl, by show max (depQ d) (depQA ds) ≤ _; have := h1.dp; have := h2.dp; omega, ?_⟩
    show blk d + 1 + blkA ds ≤ _
    have := h1.b; have := h2.b
    obtain ⟨m, rfl⟩ : ∃ m, n = m + 1 := ⟨n - 1, by omega⟩
    rw [Nat.add_sub_cancel] at this
    rw [Nat.add_mul, Nat.one_mul]
    omega
theorem Fq.le (h : Fq d p b) (h1 : p ≤ q) (h2 : b ≤ c) : Fq d q c := ⟨h.f, Nat.le_trans h.dp h1, Nat.le_trans h.b h2⟩
theorem rc_showQ (h : Fq x p b) (h1 : p ≤ 60) (h2 : b ≤ 100000) : RC K (rReprQ K) [x] M (.str (showQ x)) := fun N F us H w hr Q k => by
  obtain ⟨u, rfl, r1⟩ := rpa1 hr
  obtain ⟨y, e1, e2, e3, e4, e5⟩ := fitQ_py x h.f
  have hs := PyData.shown_le_bulk 41 (by decide) y e4
  have hd := h.dp
  have hb := h.b
  rw [e5] at hs
  refine ⟨u, y, rfl, r1.dq w.fr e1, e2, by omega, by rw [sizeLine_eq]; omega, ?_⟩
  have e : showQ x = y.shown := by unfold showQ; rw [e1]
  rw [e] at k
  exact k _ _ M F H (Evl.Ex.refl F) ⟨rfl, rfl⟩ w (.str _)
end
mutual
theorem fit_Q : ∀ (d : DV), fit d = true → fitQ d = true ∧ depQ d = dep d
  | .non, _ => ⟨rfl, rfl⟩
  | .bl b, _ => ⟨rfl, rfl⟩
  | .int i, h => ⟨h, rfl⟩
  | .str s, h => ⟨(Bool.and_eq_true_iff.mp h).2, rfl⟩
  | .tup xs, h => let ⟨a, b⟩ := fitA_Q xs h; ⟨a, by show depQA xs + 1 = depA xs + 1; rw [b]⟩
  | .lst xs, h => let ⟨a, b⟩ := fitA_Q xs h; ⟨a, by show depQA xs + 1 = depA xs + 1; rw [b]⟩
  | .dic, h => by cases h
  | .ins _ _, h => by cases h
  | .rd _, h => by cases h
  | .raw _, h => by cases h
  | .exn _ _, h => by cases h
  | .dki _, h => by cases h
  | .tx _, h => by cases h
theorem fitA_Q : ∀ (xs : List DV), fitA xs = true → fitQA xs = true ∧ depQA xs = depA xs
  | [], _ => ⟨rfl, rfl⟩
  | x :: xs, h => by
    have h' := Bool.and_eq_true_iff.mp h
    obtain ⟨a1, a2⟩ := fit_Q x h'.1
    obtain ⟨b1, b2⟩ := fitA_Q xs h'.2
    exact ⟨by show (fitQ x && fitQA xs) = true; rw [a1, b1]; rfl, by show max (depQ x) (depQA xs) = max (dep x) (depA xs); rw [a2, b2]⟩
end
theorem Fs.q {d : DV} {p b : Nat} (h : Fs d p b) : Fq d p b := ⟨(fit_Q d h.f).1, by rw [(fit_Q d h.f).2]; exact h.dp, h.b⟩
theorem FsA.q {ds : List DV} {p b : Nat} (h : FsA ds p b) : FqA ds p b := ⟨(fitA_Q ds h.f).1, by rw [(fitA_Q ds h.f).2]; exact h.dp, h.b⟩
end DD

set_option Elab.async false
set_option linter.all false
set_option maxRecDepth 100000
set_option maxHeartbeats 4000000
/-! sets made of lists of ints, and sorted -/
namespace DS
open PySem PySem.Spec PyProof.Rows L2
/-- a set with nothing in it -/
abbrev emp (w : World) : Obj := { cls := .type "set", dict := none, data := .set #[] 0 (.fresh 0 0 (!w.params.followText "set-order")) }
/-- what the filling leaves -/
def Filled (w : World) (ns : List Int) (s s2 : Shared) : Prop := ∃ h' tk c, s2 = { s with heap := h', toks := tk } ∧ SetR w h' s.heap.objs.size (fun j => decide (j ∈ ns)) c ∧ c ≤ ns.length ∧ ∀ b o, s.heap.get? b = some o → h'.get? b = some o
section
variable {P : Program} {w : World} {A : Around} {E : Value → Shared → Prop} {s : Shared} {l : Addr} {items : Array Value} {ns : List Int}
theorem ints_val (hi : IntsAre items.toList ns) (hz : items.size = ns.length) (i : Nat) (v : Value) (hv : items[i]? = some v) : ∃ k t, ns[i]? = some k ∧ v = .int k t := by
  have hlt : i < ns.length := by rw [← hz]; exact (Array.getElem?_eq_some_iff.mp hv).1
  obtain ⟨t, e⟩ := PyProof.Rows.IntsAre.int_at hi i v (by rw [Array.getElem?_toList]; exact hv)
  refine ⟨ns[i], t, List.getElem?_eq_getElem hlt, ?_⟩
  rw [e, List.getD_eq_getElem?_getD, List.getElem?_eq_getElem hlt] <;> rfl
/-- set(xs) -/
theorem call_set {Q : Value → Shared → Prop} (hh : A.handled = none) (hl : s.heap.IsList l items) (hi : IntsAre items.toList ns) (hb : ns.length + 1 < scanBound) (k : ∀ s2, Filled w ns s s2 → Q (.ref s.heap.objs.size) s2) :
    wpAny (model P w) A (call (.type "set") [.ref l]) Q E s := by
  have hz : items.size = ns.length := by have q := IntsAre.length hi; rw [Array.length_toList] at q; exact q
  obtain ⟨cc, tl, hmro⟩ := F.called_set.mro
  have m0 := F.called_set.made; have m1 := F.called_set.sub; have m2 := F.called_set.notType; have m3 := F.called_set.canCreate; have m4 := F.typeCall_set_1 (.ref l)
  refine wpAny_call (codeAny_of_tree (show wpAny _ _ (callAny (.type "set") _) _ _ _ from wpAny_pure ⟨Code.quiet_builtin _ (by decide +kernel), codeAny_builtin F.entry_type_call ?_⟩))
  rw [Around.under_plain (weight_type_call_type "set" [.ref l] []) rfl]
  repeat (any_goals (first | assumption | wp_step))
  refine codeAny_mono (code_set_led1 (.ref l) (E := E) (Q₁ := fun ob t => ob = .ref s.heap.objs.size ∧ t = { s with heap := s.heap.push (emp w) }) ⟨rfl, rfl⟩) fun r s1 hr => ?_
  rcases r with e | fl
  · exact hr
  cases fl with
  | next => exact hr.elim
  | brk => exact hr.elim
  | cont => exact hr.elim
  | ret ob =>
    obtain ⟨rfl, rfl⟩ := hr
    have gS : (s.heap.push (emp w)).get? s.heap.objs.size = some (emp w) := Heap.get?_push_size _ rfl
    have tS : Shared.TypeIs { s with heap := s.heap.push (emp w) } (.ref s.heap.objs.size) "set" := ⟨_, gS, rfl⟩
    have b1 := F.called_set.init.lookup
    have b2 := F.called_set.init.bind (.ref s.heap.objs.size)
    repeat (any_goals (first | assumption | wp_step))
    refine codeAny_mono (codeAny_call_builtin (R := wants (fun r t => r = .none ∧ Filled w ns s t) E) F.called_set.init.plain F.entry_set_init (check_set_init_1 tS ?_)) fun r2 s2 hr2 => ?_
    · obtain ⟨ol, gl, c1, nl, c2⟩ := hl
      obtain ⟨oc, od, dat, osl⟩ := ol
      simp only at c1 c2
      subst c1 c2
      have gl2 : (s.heap.push (emp w)).get? l = some { cls := .type "list", dict := od, data := .seq items nl, slots := osl } := Heap.get?_push_of_some _ gl
      have il : (s.heap.push (emp w)).IsList l items := ⟨_, gl2, rfl, nl, rfl⟩
      have n1 := F.sub_list_set; have n2 := F.sub_list_frozenset
      have n3 : (Value.type "list" == Value.type "dict") = false := by decide
      unfold Builtin.«set.__init__» noKeywords Builtin.Frozenset.updateFrom
      generalize hit : pyIter = it
      wp_walk
      subst hit
      refine wpAny_pyIter_list il (wpAny_bind (wpAny_runValue ?_))
      have lt : l < s.heap.objs.size := Heap.lt_size gl
      have z1 : (s.heap.push (emp w)).objs.size = s.heap.objs.size + 1 := Heap.size_push ..
      have nI : l ≠ (s.heap.push (emp w)).objs.size := by rw [z1]; exact Nat.ne_of_lt (Nat.lt_succ_of_lt lt)
      have nS : s.heap.objs.size ∉ [(s.heap.push (emp w)).objs.size, l] := by
        rw [z1]
        intro hm
        rcases List.mem_cons.mp hm with e | hm
        · exact Nat.ne_of_lt (Nat.lt_succ_self _) e
        · exact Nat.ne_of_gt lt (List.mem_singleton.mp hm)
      refine set_update_ints ((Walks.list (show A.in1.in1.in1.handled = none by simp [hh]) _ l nI items).toS) s.heap.objs.size nS ns hz hb (ints_val hi hz) (items.size - 0) 0 _ (by omega) (Nat.zero_le _) ⟨⟨_, Heap.get?_push_size _ rfl, rfl, rfl⟩, il.push _⟩ ⟨0, Nat.le_refl 0, setR_new_at (Heap.get?_push_of_some _ gS)⟩ fun s' c hm hc hS => ?_
      obtain ⟨h', g2, d', tk', os'⟩ := s'
      have e1 : g2 = s.gens := hm.gens
      have e2 : d' = s.drawn := hm.drawn
      have e3 : os' = s.os := hm.os
      subst e1 e2 e3
      show wpAny _ _ _ _ _ _
      refine wpAny_pure (show wpAny _ _ (ret Value.none) _ _ _ from ?_)
      rw [hz] at hc
      refine wpAny_pure ⟨rfl, h', tk', c, rfl, hS, hc, fun b o e => ?_⟩
      have lb : b < s.heap.objs.size := Heap.lt_size e
      refine hm.heap b o (fun hmm => ?_) (Heap.get?_push_of_some _ (Heap.get?_push_of_some _ e))
      rcases List.mem_cons.mp hmm with q | q
      · exact Nat.ne_of_lt lb q
      · have q := List.mem_singleton.mp q
        rw [z1] at q
        exact absurd q (Nat.ne_of_lt (Nat.lt_succ_of_lt lb))
    · rcases r2 with e | fl2
      · exact hr2
      cases fl2 with
      | next => exact hr2.elim
      | brk => exact hr2.elim
      | cont => exact hr2.elim
      | ret r =>
        obtain ⟨rfl, hf⟩ := hr2
        repeat (any_goals (first | assumption | wp_step))
        exact k _ hf
end
end DS
namespace DD
open PySem PySem.Spec PyProof.Rows L2
/-- set(xs) of a list of ints -/
def rSetI (K : PySem.W.Frag) (w : World) : List V → Hp → VK → Prop := fun vs H Q => ∃ (l : Addr) (ns : List Int), vs = [.ref l] ∧ SqL K H l (ns.map V.int) ∧ ns.length ≤ 1000 ∧ ∀ p c, H p = none → (∀ m : List Int, (∀ k ∈ ns, k ∈ m) → c ≤ m.length) → Q (.ref p) (upd H p (SetO w p (fun j => decide (j ∈ ns)) c))
theorem nd_leI : ∀ {l m : List Int}, l.Nodup → (∀ k ∈ l, k ∈ m) → l.length ≤ m.length
  | [], m, _, _ => Nat.zero_le _
  | x :: l, m, hn, hs => by
    obtain ⟨h1, h2⟩ := List.nodup_cons.mp hn
    have hx := hs x List.mem_cons_self
    have := nd_leI (m := m.erase x) h2 fun y hy => (List.mem_erase_of_ne fun z : y = x => h1 (by rw [← z]; exact hy)).mpr (hs y (List.mem_cons_of_mem _ hy))
    rw [List.length_erase_of_mem hx] at this
    have := List.length_pos_of_mem hx
    show l.length + 1 ≤ _
    omega
theorem setR_le {w : World} {h : Heap} {a : Addr} {S : Int → Bool} {n : Nat} {m : List Int} (R : SetR w h a S n) (hm : ∀ k, S k = true → k ∈ m) : n ≤ m.length := by
  obtain ⟨o, es, ep, t, _, _, _, _, hn, hk, _, _, hs, _⟩ := R
  have := nd_leI hn fun k hk' => hm k ((hk k).mpr hk')
  rw [List.length_map, Array.length_toList] at this
  omega
theorem cr_setI {X : Cx} (hc : X.calm = true) : CallR X (.type "set") (rSetI X.K X.w) := by
  intro pins s σ H vs us Q I r h
  obtain ⟨l, ns, rfl, hs, hl, q⟩ := h
  obtain ⟨its, rv, pl, hz⟩ := I.list hs
  rw [Vals.ref1 r]
  refine DS.call_set (I.ok.hd hc) pl.isList (by simpa using rv.ints) (Nat.lt_of_le_of_lt (show ns.length + 1 ≤ 1001 by omega) (by decide)) fun s2 hf => ?_
  obtain ⟨h', tk, c, rfl, hS, hcl, hk⟩ := hf
  have nw : H s.heap.objs.size = none := I.hok.fresh (Nat.le_refl _)
  exact ⟨.ref _, upd H s.heap.objs.size (SetO X.w s.heap.objs.size (fun j => decide (j ∈ ns)) c), I.laid (t' := tk) hk (Nat.le_refl _) (setO_new hS), rfl, q _ c nw fun m hm => setR_le hS fun k hk => hm k (of_decide_eq_true hk)⟩
end DD
namespace DD
open PySem PySem.Spec PyProof.Rows L2
section
variable {X : Cx} (K : PySem.W.Frag) (hK : X.K = K)
include hK
theorem wSetI (hc : X.calm = true) : CallR X (.type "set") (rSetI K X.w) := hK ▸ cr_setI hc
end
theorem wSortedSet {X : Cx} (hc : X.calm = true) : CallR X (.builtin "sorted") (rSortedSet X.w) := cr_sortedSet hc
section
variable {K : PySem.W.Frag} {ρ : Rho} {M : Ms} {R : DV → Ms → Prop} {te : TE}
/-- sorted(set(xs)): the unlike ones, ascending; m has them all -/
theorem w_sortedSetM {K : KB} {w : World} (h : EvR K te ρ M fun d M1 => ∃ ns m : List Int, d = .lst (ns.map .int) ∧ ns.length ≤ 1000 ∧ m.length ≤ 60 ∧ (∀ k ∈ ns, k ∈ m) ∧ ∀ ms : List Int, ms.Pairwise (· < ·) → (∀ k, k ∈ ms ↔ k ∈ ns) → R (.lst (ms.map .int)) M1) :
    EvR K (tCB (rSortedSet w) (tCons (tCB (rSetI K w) (tCons te tNil)) tNil)) ρ M R := fun N F σ H S Q q => h N F σ H S _ fun v d M1 F1 H1 e1 ⟨ns, m, hd, hl, hm, hsub, hr⟩ w1 r1 => by
  subst hd
  obtain ⟨a, xs, rfl, ha, ra⟩ := r1.lst_of
  have hx := ra.ints_of
  subst hx
  refine ⟨a, ns, rfl, SqL.of (w1.fr _ _ ha), hl, fun p c hp hc => ?_⟩
  have hcm := hc m hsub
  have hn := w1.fresh hp
  have w2 := w1.new hp (SetO w p (fun j => decide (j ∈ ns)) c)
  refine ⟨p, _, c, rfl, upd_same, by omega, fun ms p2 h1 h2 h3 hp2 => ?_⟩
  have hn2 := w2.fresh hp2
  have hmem : ∀ k, k ∈ ms ↔ k ∈ ns := fun k => by rw [h2 k]; exact decide_eq_true_iff
  exact q _ _ M1 _ _ ((e1.trans (ex_new hn)).trans (ex_new hn2)) (hr ms h1 hmem) (w2.new hp2 _) (.lst upd_same (RpA.ints ms))
theorem w_sortedSet {K : KB} {w : World} (h : EvR K te ρ M fun d M1 => ∃ ns : List Int, d = .lst (ns.map .int) ∧ ns.length ≤ 60 ∧ ∀ ms : List Int, ms.Pairwise (· < ·) → (∀ k, k ∈ ms ↔ k ∈ ns) → R (.lst (ms.map .int)) M1) :
    EvR K (tCB (rSortedSet w) (tCons (tCB (rSetI K w) (tCons te tNil)) tNil)) ρ M R := w_sortedSetM (h.mono fun d M1 ⟨ns, h1, h2, h3⟩ => ⟨ns, ns, h1, by omega, h2, fun _ h => h, h3⟩)
/-! comprehensions with any target; over lists that are told -/
theorem w_lcTp {K : KB} {α : Type} {xs : List α} {f : α → DV} {g : TG} {vs : List Nat} {te0 : TE} (F : α → DV) (hn : xs.length ≤ 100000) (hI : EvR K te0 ρ M fun d M' => d = .tup (xs.map f) ∧ M' = M) (hb : BdW g vs)
    (hs : ∀ x, x ∈ xs → BdG K g (wipeD ρ vs) M (f x) fun ρ2 M2 => EvR K te ρ2 M2 fun d' M' => d' = F x ∧ M' = M) (kk : R (.lst (xs.map F)) M) : EvR K (tLc (iTup K te0) g tYes te vs) ρ M R := by
  have e : ∀ i, i < (xs.map f).length → ∃ x, xs[i]? = some x ∧ nth (xs.map f) i = f x := fun i hi => by
    rw [List.length_map] at hi
    exact ⟨xs[i], List.getElem?_eq_getElem hi, nth_of (by rw [List.getElem?_map, List.getElem?_eq_getElem hi]; rfl)⟩
  refine evr_lc (ei_tup hI) (by rw [List.length_map]; exact hn) (fun i acc M' => M' = M ∧ acc = (xs.take i).map F) (fun M' e => ⟨e, rfl⟩) (fun _ _ _ _ _ => nil_sub) hb (fun i acc M' hi ⟨hM, ha⟩ => ?_) fun acc M' _ ⟨hM, ha⟩ => ?_
  · subst hM ha
    obtain ⟨x, h1, h2⟩ := e i hi
    rw [h2]
    intro N F' σ H v Q S r q
    refine hs x (List.mem_of_getElem? h1) N F' σ H v Q S r fun σ' F2 H' ρ' M2 e1 he S1 => q σ' F2 H' ρ' M2 e1 (etr_yes ?_) S1
    refine he.mono fun d M3 ⟨h3, h4⟩ => ⟨h4, ?_⟩
    have hlt := (List.getElem?_eq_some_iff.mp h1)
    rw [List.take_succ_eq_append_getElem hlt.1, List.map_append, h3, hlt.2]; rfl
  · subst hM ha
    rw [List.length_map, List.take_length]
    exact kk
theorem w_lcLp {K : KB} {α : Type} {xs : List α} {f : α → DV} {g : TG} {vs : List Nat} {te0 : TE} (F : α → DV) (hn : xs.length ≤ 100000) (hI : EvR K te0 ρ M fun d M' => d = .lst (xs.map f) ∧ M' = M) (hb : BdW g vs)
    (hs : ∀ x, x ∈ xs → BdG K g (wipeD ρ vs) M (f x) fun ρ2 M2 => EvR K te ρ2 M2 fun d' M' => d' = F x ∧ M' = M) (kk : R (.lst (xs.map F)) M) : EvR K (tLc (iList K te0) g tYes te vs) ρ M R := by
  have e : ∀ i, i < (xs.map f).length → ∃ x, xs[i]? = some x ∧ nth (xs.map f) i = f x := fun i hi => by
    rw [List.length_map] at hi
    exact ⟨xs[i], List.getElem?_eq_getElem hi, nth_of (by rw [List.getElem?_map, List.getElem?_eq_getElem hi]; rfl)⟩
  refine evr_lc (ei_lst hI) (by rw [List.length_map]; exact hn) (fun i acc M' => M' = M ∧ acc = (xs.take i).map F) (fun M' e => ⟨e, rfl⟩) (fun _ _ _ _ _ => nil_sub) hb (fun i acc M' hi ⟨hM, ha⟩ => ?_) fun acc M' _ ⟨hM, ha⟩ => ?_
  · subst hM ha
    obtain ⟨x, h1, h2⟩ := e i hi
    rw [h2]
    intro N F' σ H v Q S r q
    refine hs x (List.mem_of_getElem? h1) N F' σ H v Q S r fun σ' F2 H' ρ' M2 e1 he S1 => q σ' F2 H' ρ' M2 e1 (etr_yes ?_) S1
    refine he.mono fun d M3 ⟨h3, h4⟩ => ⟨h4, ?_⟩
    have hlt := (List.getElem?_eq_some_iff.mp h1)
    rw [List.take_succ_eq_append_getElem hlt.1, List.map_append, h3, hlt.2]; rfl
  · subst hM ha
    rw [List.length_map, List.take_length]
    exact kk
end
end DD

set_option Elab.async false
set_option linter.all false
set_option maxRecDepth 100000
set_option maxHeartbeats 4000000
namespace DD
open PySem PySem.Spec PyProof.Rows L2
/-! xs.index(pair); comprehensions and loops with draws -/
def pairPy (x : Int × Int) : PyData := .tuple [.int x.1, .int x.2]
abbrev pairI (x : Int × Int) : DV := .tup [.int x.1, .int x.2]
theorem toPyA_pairs : ∀ ps : List (Int × Int), toPyA (ps.map pairI) = some (ps.map pairPy)
  | [] => rfl
  | p :: r => by
    show (match toPy (pairI p), toPyA (r.map pairI) with | some y, some ys => some (y :: ys) | _, _ => none) = _
    rw [toPyA_pairs r]; rfl
theorem eqv_pair (x y : Int × Int) : PyData.eqv (pairPy x) (pairPy y) = decide (x = y) := by
  obtain ⟨a, b⟩ := x
  obtain ⟨c, d⟩ := y
  show ((a == c) && ((b == d) && true)) = _
  by_cases h1 : a = c
  · by_cases h2 : b = d
    · subst h1 h2; simp
    · have : ¬ (a, b) = (c, d) := fun e => h2 (congrArg Prod.snd e)
      rw [decide_eq_false this, beq_false_of_ne h2]; simp
  · have : ¬ (a, b) = (c, d) := fun e => h1 (congrArg Prod.fst e)
    rw [decide_eq_false this, beq_false_of_ne h1]; simp
section
variable {K : PySem.W.Frag} {ρ : Rho} {M : Ms} {R : DV → Ms → Prop} {te to : TE} {ta : TA} {tt : TT} {wi : TI} {g : TG} {vs : List Nat} {tb : TS} {P : Post}
theorem w_indexP {K : KB} (h : EvR K to ρ M fun o M1 => ∃ ps : List (Int × Int), o = .lst (ps.map pairI) ∧ Fit (.lst (ps.map pairI)) ∧ EvAR K ta ρ M1 fun ds M2 => ∃ (x : Int × Int) (j : Nat), ds = [pairI x] ∧ Fit (pairI x) ∧ ps[j]? = some x ∧ (∀ m, m < j → ps[m]? ≠ some x) ∧ R (.int j) M2) :
    EvR K (tBM K "list" (rIndexD K) to ta) ρ M R := fun N F σ H S Q q => h N F σ H S _ fun v o M1 F1 H1 e1 ⟨ps, ho, hf, h1⟩ w1 r1 => by
  subst ho
  obtain ⟨a, xs, rfl, ha, ra⟩ := id r1.lst_of
  refine ⟨ty_list (F := F1) (w1.fr _ _ ha), h1 N F1 σ H1 ⟨w1, S.e.mono e1, S.bm e1⟩ _ fun us ds M2 F2 H2 e2 ⟨x, j, hd, hx, hj, h0, hr⟩ w2 r2 => ?_⟩
  subst hd
  obtain ⟨u, rfl, ru⟩ := rpa1 r2
  obtain ⟨p, p1, _, _, _, _, p6⟩ := hf.py
  obtain ⟨p', p1', _, _, _, _, p6'⟩ := hx.py
  have e3 : toPy (.lst (ps.map pairI)) = some (.list (ps.map pairPy)) := by
    show (toPyA (ps.map pairI)).map PyData.list = _
    rw [toPyA_pairs]; rfl
  rw [e3] at p1
  cases p1
  have e4 : toPy (pairI x) = some (pairPy x) := rfl
  rw [e4] at p1'
  cases p1'
  refine ⟨a, u, pairPy x, ps.map pairPy, j, pairPy x, rfl, rfl, (r1.mono e2).dp w2.fr e3, ru.dp w2.fr e4, p6, p6', by rw [List.getElem?_map, hj]; rfl, by rw [eqv_pair]; exact decide_eq_true rfl, fun m z hm hz => ?_, q _ _ _ F2 H2 (e1.trans e2) hr w2 (.int _)⟩
  rw [List.getElem?_map] at hz
  cases e : ps[m]? with
  | none => rw [e] at hz; cases hz
  | some y =>
    rw [e] at hz
    cases hz
    rw [eqv_pair]
    exact decide_eq_false fun z => h0 m hm (by rw [e, z])
/-- a comprehension whose elements are drawn -/
theorem w_lcR {K : KB} {α : Type} {n : Nat} {y : Nat → DV} {f : α → DV} {ok : α → Prop} (hI : EvI K wi ρ M [] n y fun M' => M' = M) (hn : n ≤ 100000) (hb : BdW g vs)
    (hs : ∀ i, i < n → BdG K g (wipeD ρ vs) M (y i) fun ρ2 M2 => EvR K te ρ2 M2 fun d M' => M' = M ∧ ∃ x, d = f x ∧ ok x) (kk : ∀ xs : List α, xs.length = n → (∀ x ∈ xs, ok x) → R (.lst (xs.map f)) M) : EvR K (tLc wi g tYes te vs) ρ M R := by
  refine evr_lc hI hn (fun i acc M' => M' = M ∧ ∃ xs : List α, acc = xs.map f ∧ xs.length = i ∧ ∀ x ∈ xs, ok x) (fun M' e => ⟨e, [], rfl, rfl, fun x h => nomatch h⟩) (fun _ _ _ _ _ => nil_sub) hb (fun i acc M' hi ⟨hM, xs, ha, hl, hk⟩ => ?_) fun acc M' _ ⟨hM, xs, ha, hl, hk⟩ => ?_
  · subst hM ha
    intro N F' σ H v Q S r q
    refine hs i hi N F' σ H v Q S r fun σ' F2 H' ρ' M2 e1 he S1 => q σ' F2 H' ρ' M2 e1 (etr_yes ?_) S1
    refine he.mono fun d M3 ⟨h4, x, h3, hx⟩ => ⟨h4, xs ++ [x], by rw [List.map_append, h3]; rfl, by rw [List.length_append, hl]; rfl, fun z hz => ?_⟩
    rcases List.mem_append.mp hz with hz | hz
    · exact hk z hz
    · rw [List.mem_singleton.mp hz]; exact hx
  · subst hM ha
    exact kk xs hl hk
/-- .. the list is owned -/
theorem w_lcRC {K : KB} {α : Type} {n : Nat} {y : Nat → DV} {f : α → DV} {ok : α → Prop} (hI : EvI K wi ρ M [] n y fun M' => M' = M) (hn : n ≤ 100000) (hb : BdW g vs)
    (hs : ∀ i, i < n → BdG K g (wipeD ρ vs) M (y i) fun ρ2 M2 => EvR K te ρ2 M2 fun d M' => M' = M ∧ ∃ x, d = f x ∧ ok x) (kk : ∀ (D : Addr) (xs : List α), xs.length = n → (∀ x ∈ xs, ok x) → R (.raw (.ref D)) ((D, .lst (xs.map f)) :: M)) : EvR K (tLc wi g tYes te vs) ρ M R := by
  refine evr_lcC hI hn (fun i acc M' => M' = M ∧ ∃ xs : List α, acc = xs.map f ∧ xs.length = i ∧ ∀ x ∈ xs, ok x) (fun M' e => ⟨e, [], rfl, rfl, fun x h => nomatch h⟩) (fun _ _ _ _ _ => nil_sub) hb (fun i acc M' hi ⟨hM, xs, ha, hl, hk⟩ => ?_) fun D acc M' _ ⟨hM, xs, ha, hl, hk⟩ => ?_
  · subst hM ha
    intro N F' σ H v Q S r q
    refine hs i hi N F' σ H v Q S r fun σ' F2 H' ρ' M2 e1 he S1 => q σ' F2 H' ρ' M2 e1 (etr_yes ?_) S1
    refine he.mono fun d M3 ⟨h4, x, h3, hx⟩ => ⟨h4, xs ++ [x], by rw [List.map_append, h3]; rfl, by rw [List.length_append, hl]; rfl, fun z hz => ?_⟩
    rcases List.mem_append.mp hz with hz | hz
    · exact hk z hz
    · rw [List.mem_singleton.mp hz]; exact hx
  · subst hM ha
    exact kk D xs hl hk
/-- range(n), n drawn -/
theorem ei_rng1X {K : KB} {Φ : Nat → Ms → Prop} (h : EvAR K ta ρ M fun ds M' => ∃ n : Nat, ds = [.int n] ∧ n ≤ 1000000 ∧ Φ n M') : EvIX K (iRng1 ta) ρ M fun n y G M' => y = (fun i => .int (i : Nat)) ∧ G = [] ∧ Φ n M' := fun N F σ H S Q q =>
  h N F σ H S _ fun vs ds M1 F1 H1 e1 ⟨n, hd, hn, hr⟩ w1 r1 => by
    subst hd
    obtain ⟨u, rfl, ru⟩ := rpa1 r1
    cases ru.int_of
    refine ⟨n, rfl, by omega, by omega, q _ n _ _ M1 F1 H1 e1 ⟨rfl, rfl, hr⟩ w1 ⟨fun i _ _ _ hi _ _ _ => by show i < ((n : Int)).toNat; omega, fun _ _ _ _ _ _ => by show ((n : Int)).toNat ≤ n; omega, fun i F2 M2 H2 x H3 hi _ w2 _ hy => ?_⟩⟩
    obtain ⟨rfl, rfl⟩ := hy
    exact ⟨F2, Evl.Ex.refl _, w2, by rw [Int.zero_add]; exact .int _⟩
theorem w_for1X {K : KB} {k : Nat} (h : EvAR K ta ρ M fun ds M' => ∃ n : Nat, ds = [.int n] ∧ n ≤ 1000000 ∧ ∃ inv : Nat → Rho → Ms → Prop, inv 0 ρ M' ∧ (∀ i ρ' M', i < n → inv i ρ' M' → XS K tb (ρ'.set k (some (.int (i : Nat)))) M' { P with nx := inv (i + 1), ct := inv (i + 1), bk := P.nx }) ∧ (∀ ρ' M', inv n ρ' M' → P.nx ρ' M')) : XS K (tFor (iRng1 ta) (gName k) tb) ρ M P :=
  xs_forX (ei_rng1X h) fun n y G M' ⟨hy, hG, inv, h0, hs, hd⟩ => by
    subst hy hG
    exact ⟨inv, h0, fun _ _ _ _ _ => nil_sub, fun i ρ' M'' hi hv => bd_name (hs i ρ' M'' hi hv), hd⟩
/-- a comprehension over range(n), n and the elements drawn -/
theorem w_lc1X {K : KB} {α : Type} {f : α → DV} {ok : α → Prop} {k : Nat} (B : Nat) (hB : B ≤ 100000) (h : EvAR K ta ρ M fun ds M' => M' = M ∧ ∃ n : Nat, ds = [.int n] ∧ n ≤ B)
    (hs : ∀ i : Nat, i < B → EvR K te ((wipeD ρ vs).set k (some (.int i))) M fun d M' => M' = M ∧ ∃ x, d = f x ∧ ok x) (hk : k ∈ vs) (kk : ∀ xs : List α, xs.length ≤ B → (∀ x ∈ xs, ok x) → R (.lst (xs.map f)) M) : EvR K (tLc (iRng1 ta) (gName k) tYes te vs) ρ M R := fun N F σ H S Q q =>
  h N F σ H S _ fun us ds M1 F1 H1 e1 ⟨hM, n, hd, hn⟩ w1 r1 => by
    subst hd hM
    obtain ⟨u, rfl, ru⟩ := rpa1 r1
    cases ru.int_of
    have hI : EvI K (iRng1 (fun σ H (Q : List V → Hp → Prop) => Q [V.int (n : Nat)] H)) ρ M1 [] n (fun i => .int (i : Nat)) fun M' => M' = M1 := by
      have h2 : EvAR K (fun σ H (Q : List V → Hp → Prop) => Q [V.int (n : Nat)] H) ρ M1 fun ds M' => ds = [.int (n : Nat)] ∧ M' = M1 := fun N F σ H S Q q => q _ _ M1 F H (Evl.Ex.refl F) ⟨rfl, rfl⟩ S.w (.cons (.int _) .nil)
      have := ei_rng1 h2 (show -(2 ^ 62) ≤ (n : Int) ∧ (n : Int) < 2 ^ 62 by omega)
      rw [Int.toNat_natCast] at this
      exact this
    have := w_lcR (R := R) hI (by omega) (bdw_name hk) (fun i hi => bd_name (hs i (by omega))) (fun xs hl hx => kk xs (by omega) hx)
    exact this N F1 σ H1 ⟨w1, S.e.mono e1, S.bm e1⟩ Q fun v d M' F' H' e2 => q v d M' F' H' (e1.trans e2)
end
end DD

set_option Elab.async false
set_option linter.all false
set_option maxRecDepth 100000
set_option maxHeartbeats 4000000
/-! ### what the written part says of the own errors, by few facts -/
namespace EX
open PySem PySem.Spec PyProof.Rows L2 L2H
/-- a class of errors that is asked for -/
structure Bs (K : PySem.W.Frag) (D : Addr) : Prop where
  hd : PySem.W.hasDictIn K D = true
  ty : PySem.W.typeIn K (.ref D) = some (.type "type")
  ex : PySem.W.subIn K (.ref D) (.type "BaseException") = some true
/-- a class whose caught errors are looked at -/
structure Kn (K : PySem.W.Frag) (C : Addr) : Prop where
  xf : XfC K C
  ec : ExcC K C
section
variable {K : PySem.W.Frag} {C D : Addr} {b : Bool}
theorem Bs.cls (s : Bs K D) : (PySem.W.clsIn K D).isSome = true := by
  obtain ⟨cd, h, _⟩ := PySem.W.any_some s.hd
  rw [h]; rfl
theorem kcl_ref (s : Bs K D) (m : PySem.W.mroIn K C (.ref D) = some b) : PySem.W.kitCls K (.ref C) (.ref D) = some b := by
  show (if ((PySem.W.clsIn K D).isSome && PySem.W.typeIn K (.ref D) == some (.type "type")) = true then PySem.W.subIn K (.ref C) (.ref D) else none) = _
  rw [s.cls, s.ty, if_pos (by rw [beq_self_eq_true]; rfl)]
  exact m
theorem exm_ref (s : Bs K D) (m : PySem.W.mroIn K C (.ref D) = some b) : PySem.W.exmAny K (.ref C) [.ref D] = some b := by
  unfold PySem.W.exmAny PySem.W.exmOne PySem.W.exmAny
  rw [s.ex, if_pos (beq_self_eq_true _), kcl_ref s m]
  cases b <;> rfl
theorem exm_refs (s : Bs K D) (m : PySem.W.mroIn K C (.ref D) = some b) {r : List Value} {b2 : Bool} (h : PySem.W.exmAny K (.ref C) r = some b2) : PySem.W.exmAny K (.ref C) (.ref D :: r) = some (b || b2) := by
  unfold PySem.W.exmAny PySem.W.exmOne
  rw [s.ex, if_pos (beq_self_eq_true _), kcl_ref s m, h]
theorem kit_ref (s : Bs K D) (m : PySem.W.mroIn K C (.ref D) = some true) : PySem.W.kitOne K (.ref C) (.ref D) = some true := by
  unfold PySem.W.kitOne
  split
  · rfl
  · exact kcl_ref s m
theorem kit_ty {T : String} (hk : PySem.W.kitMeta T = true) (m : PySem.W.mroIn K C (.type T) = some b) : PySem.W.kitOne K (.ref C) (.type T) = some b := by
  unfold PySem.W.kitOne
  rw [if_neg (fun h => by cases beq_iff_eq.mp h)]
  show (if PySem.W.kitMeta T = true then PySem.W.subIn K (.ref C) (.type T) else none) = _
  rw [if_pos hk]
  exact m
theorem wXq {X : Cx} {e : Expr} {te : TE} {f : Str} {pos : Pos} (K : PySem.W.Frag) (hK : X.K = K) (hge : PE X e te) (hbb : attributeBase e f X.env (eval e X.env) = eval e X.env := by rfl) : PE X (.Attribute e f pos) (tXq K f te) := hK ▸ pe_xq hge hbb
end
end EX
namespace DD
open PySem PySem.Spec PyProof.Rows L2
section
variable {K : PySem.W.Frag} {n : Nat} {P : Post} {RO : RER} {c : EX.Cls1} {r : List EX.Cls1} {C : Addr} {fs : List (Str × DV)} {M : Ms}
theorem hx_no (m : PySem.W.exmAny K (.ref C) c.cs = some false) (h : HX K n P RO r C fs M) : HX K n P RO (c :: r) C fs M := ⟨false, m, (fun z => absurd z (by decide)), fun _ => h⟩
theorem hx_yes (m : PySem.W.exmAny K (.ref C) c.cs = some true) (h : XS (KB.pure K) c.ts (setD (List.replicate n none) c.i (some (.exn C fs))) M { nx := fun ρ' M' => P.nx (setD ρ' c.i none) M', rt := P.rt, bk := fun ρ' M' => P.bk (setD ρ' c.i none) M', ct := fun ρ' M' => P.ct (setD ρ' c.i none) M' }) : HX K n P RO (c :: r) C fs M := ⟨true, m, fun _ => h, fun z => absurd z (by decide)⟩
theorem w_xqE {f : Str} {ta : TE} {ρ : Rho} {R : DV → Ms → Prop} {d : DV} (kn : EX.Kn K C) (hno : PySem.W.findIn K (.ref C) f = some none) (hl : fs.lookup f = some d) {te : TE} (h : EvR (KB.pure K) te ρ M fun x M1 => x = .exn C fs ∧ R d M1) : EvR (KB.pure K) (EX.tXq K f te) ρ M R :=
  w_xq (KK := KB.pure K) (h.mono fun x M1 ⟨hx, hr⟩ => ⟨C, fs, d, hx, kn.xf, hno, hl, hr⟩)
end
/-! C(k = v, ..) -/
theorem kbn_mk {K : PySem.W.Frag} {x qual : Str} {st : Stmt} {f : Addr} {fd : FuncData} {ps ks : List Str} {n m : Nat} {perm : List Nat} (F : Fun K x qual st f fd) (hm : ks.length = m)
    (h : ∀ (kV doc pm : Value) (an : Option Addr) (cdv ct : Value) (us ws : List Value), us.length = n → ws.length = m → bindArgs (PySem.W.fnOf x qual (defArgs st) (defBody st) (defScope st) .none kV doc pm an cdv ct) ⟨us, ks.zip ws⟩ = pure (ps.zip (perm.filterMap (fun i => (us ++ ws)[i]?)))) :
    KBn K fd ps n ks (gpick n m perm) (gpick n m perm) := by
  obtain ⟨oc, od, kV, doc, pm, an, cdv, ct, osl, rfl, lk, hcd⟩ := F.ex
  refine ⟨fun z us ws _ h1 h2 => ?_, fun r rz => gpick_rel r rz⟩
  have h3 : us.length = n ∧ ws.length = m := ⟨h1, h2.trans hm⟩
  unfold gpick
  rw [if_pos h3]
  exact .of_eq (h kV doc pm an cdv ct us ws h3.1 h3.2)
section
variable {K : PySem.W.Frag} {KK : KB} {E E' : XK} {RE : RER} {ρ : Rho} {M : Ms} {t tk : TA} {S : SpecX} {S' : SpecD} {R : DV → Ms → Prop} {n m a b : Nat} {perm : List Nat}
theorem makeKX_core {C : Addr} {RE0 : RER} (hb : ∀ N F, KK.B N F → Wish KK.fr E' RE0 N F) (h : EvAR KK t ρ M fun ds M1 => EvAR KK tk ρ M1 fun es M2 => ds.length = n ∧ es.length = m ∧ ∀ x, S (gpick a b perm (.raw (.ref x) :: ds) es) ((x, .ins C []) :: M2) (fun d M3 => d = .non ∧ R (.raw (.ref x)) M3) fun C' fs M3 => ∃ c M4, M3 = c :: M4 ∧ RE0 C' fs M4) : EvR KK (tMakeK C n m (spX KK.fr S) (gpick a b perm) E' t tk) ρ M R := fun N F σ H Z Q q =>
  h N F σ H Z _ fun vs ds M1 F1 H1 e1 h1 w1 r1 => h1 N F1 σ H1 ⟨w1, Z.e.mono e1, Z.bm e1⟩ _ fun zs es M2 F2 H2 e2 ⟨l1, l2, h2⟩ w2 r2 => ⟨r1.length.trans l1, r2.length.trans l2, fun x dx hx hdx hne => by
    have hxd : x ≠ dx := hne.symm
    have w3 : Wd KK.fr F2 (N ++ M2) (upd H2 dx (.own x)) := by
      refine ⟨fun b u hb => ?_, fun b u hb => ?_, w2.nd⟩
      · rw [upd_ne (ne_of_none hb (w2.fresh hdx))]; exact w2.fr b u hb
      · exact ⟨(w2.ce b u hb).1, (w2.ce b u hb).2.mono (Evl.Ex.refl F2) (upd_ne (w2.mne hdx hb))⟩
    have w4 := (w3.cell (p := x) (mo := .ins C []) (o := .ins C dx []) (by rw [upd_ne hxd]; exact hx) ⟨dx, [], upd_same, .nil⟩).perm List.perm_middle
    refine ⟨F2, N, _, _, _, _, w4, gpick_rpa (.cons (.raw _) (r1.mono e2)) r2, h2 x, fun v d M3 F3 H3 e3 hr w5 r5 => ⟨by rw [hr.1] at r5; exact r5.non_of, q _ _ M3 F3 H3 ((e1.trans e2).trans e3) hr.2 w5 (.raw _)⟩, fun C' dx' fs M3 F3 H3 e3 ⟨c, M4, hm, hr⟩ w5 r5 => ?_⟩
    subst hm
    exact hb N F2 (Z.bm (e1.trans e2)) C' dx' fs M4 F3 H3 e3 hr (w5.perm (List.perm_middle.symm)).drop r5⟩
theorem evr_makeKX {C : Addr} (h : EvAR (KX K E RE) t ρ M fun ds M1 => EvAR (KX K E RE) tk ρ M1 fun es M2 => ds.length = n ∧ es.length = m ∧ ∀ x, S (gpick a b perm (.raw (.ref x) :: ds) es) ((x, .ins C []) :: M2) (fun d M3 => d = .non ∧ R (.raw (.ref x)) M3) fun C' fs M3 => ∃ c M4, M3 = c :: M4 ∧ RE C' fs M4) : EvR (KX K E RE) (tMakeK C n m (spX K S) (gpick a b perm) E t tk) ρ M R := makeKX_core (KK := KX K E RE) (fun _ _ b => b) h
theorem evr_makeKX0 {C : Addr} (h : EvAR KK t ρ M fun ds M1 => EvAR KK tk ρ M1 fun es M2 => ds.length = n ∧ es.length = m ∧ ∀ x, S (gpick a b perm (.raw (.ref x) :: ds) es) ((x, .ins C []) :: M2) (fun d M3 => d = .non ∧ R (.raw (.ref x)) M3) fun C' fs M3 => ∃ c M4, M3 = c :: M4 ∧ noX C' fs M4) : EvR KK (tMakeK C n m (spX KK.fr S) (gpick a b perm) E' t tk) ρ M R := makeKX_core (fun _ _ _ => wish_no) h
end
/-- a list of one's own stays from now on as it is -/
theorem xs_frzL {K : KB} {t : TS} {ρ : Rho} {M : Ms} {P : Post} {a : Addr} {ds : List DV} (i : Nat) (hi : ρ[i]? = some (some (.raw (.ref a)))) (h : XS K t (ρ.set i (some (.lst ds))) M P) : XS K t ρ ((a, .lst ds) :: M) P := fun N F σ H D Z e => by
  obtain ⟨F2, e2, w2, r2⟩ := (Z.w.perm (List.perm_middle.symm)).freeze
  obtain ⟨v, hv, rv⟩ := Z.e.get hi
  cases rv.raw_of
  have en := (Z.e.mono e2).set r2 i
  have hs : σ.set i (some (.ref a)) = σ := by
    refine List.ext_getElem? fun j => ?_
    rw [List.getElem?_set]
    split
    · rename_i hij; subst hij
      rw [if_pos (List.getElem?_eq_some_iff.mp hv).1, hv]
    · rfl
  rw [hs] at en
  exact h N F2 σ H D ⟨w2, en, K.mono e2 Z.b⟩ (e.mono e2)
/-- the script and the tables, as the law finds them -/
theorem askT {K : PySem.W.Frag} {H : Hp} {a : Addr} {ns : List Int} (ts : List (Addr × Str)) (nd : (ts.map (·.1)).Nodup) (ho : OnlyT (ts.map (·.1)) H) (hS : SqL K H a (ns.map V.int)) : ∃ F : Hp, Wd K F ([] ++ ts.map fun p => (p.1, MO.tab p.2)) H ∧ Rp K F (.ref a) (.rd (ns.map .int)) := by
  have tb : ∀ b ∈ ts.map (·.1), H b = some (.tbl #[]) := ho.1
  refine ⟨fun b => if b ∈ ts.map (·.1) then none else H b, ⟨fun b u hb => ?_, fun b u hb => ?_, ?_⟩, .rd ?_ (RpA.ints ns)⟩
  · by_cases h : b ∈ ts.map (·.1)
    · rw [if_pos h] at hb; cases hb
    · rw [if_neg h] at hb; exact hb
  · obtain ⟨p, hp, e⟩ := List.mem_map.mp hb
    cases e
    have hm : p.1 ∈ ts.map (·.1) := List.mem_map.mpr ⟨p, hp, rfl⟩
    exact ⟨if_pos hm, #[], tb _ hm, trivial, fun pos cv hc => by cases hc⟩
  · rw [List.nil_append, List.map_map]
    exact nd
  · rcases hS with h | h
    · have hat : ∀ u, H a = some u → (∀ ps, u ≠ .tbl ps) → (fun b => if b ∈ ts.map (·.1) then none else H b) a = some u := fun u hu hn => by
        show (if a ∈ ts.map (·.1) then none else H a) = some u
        rw [if_neg fun hm => by rw [tb a hm] at hu; cases hu; exact hn _ rfl]
        exact hu
      rcases h with h | ⟨o, h⟩
      · exact .inl (.inl (hat _ h fun _ z => nomatch z))
      · exact .inl (.inr ⟨o, hat _ h fun _ z => nomatch z⟩)
    · exact .inr h
end DD
namespace DD
open PySem PySem.Spec PyProof.Rows L2
theorem tabs_cs {cs : List (Addr × Addr)} {ps : List Addr} {h : Heap} {o : Obj} (e : ps = cs.map (·.2)) (hT : ∀ P ∈ ps, h.get? P = some o) : ∀ p ∈ cs, h.get? p.2 = some o := fun p hp => hT _ (e ▸ List.mem_map.mpr ⟨p, hp, rfl⟩)
/-! what is asked of the law, where lambdas are made -/
def S_lawT (ts : List (Addr × Str)) : SpecD := fun ds M R => ∃ ns : List Int, ds = [.rd (ns.map .int)] ∧ ns.length ≤ 63 ∧ (∀ t ∈ ts, (t.1, MO.tab t.2) ∈ M) ∧ R (.bl true) M
abbrev spLawT (K : PySem.W.Frag) (ts : List (Addr × Str)) : Sp := spD K (S_lawT ts)
theorem law_asksT {K : PySem.W.Frag} {H : Hp} {a : Addr} {ns : List Int} {E : XK} (ts : List (Addr × Str)) (nd : (ts.map (·.1)).Nodup) (hl : ns.length ≤ 63) (hO : OnlyT (ts.map (·.1)) H) (hS : SqL K H a (ns.map V.int)) : spLawT K ts [.ref a] H (fun v _ => v = .bl true) E := by
  obtain ⟨F, w, r⟩ := askT ts nd hO hS
  exact ⟨F, [], _, [.rd (ns.map .int)], fun d _ => d = .bl true, w, .cons r .nil, ⟨ns, rfl, hl, fun t ht => List.mem_map.mpr ⟨t, ht, rfl⟩, rfl⟩, fun v d M' F' H' _ h _ r => by subst h; exact r.bl_of⟩
section
variable {l : PySem.W.OpenLaw} {k : Nat} {q : Program} {loose : List Str} {XP : (Str → Option Value) → Heap → Prop} {YP : World → Heap → Prop} {d : DefRec} {K : Params → PySem.W.Frag} {x : Str} {c P c2 P2 : Addr} {nm nm2 : Str}
theorem walkG1 (hn : l.most = some 63) (hdf : d.params.defaults = []) (hr : Room k callerA) (hY : ∀ (w : World) (h : Heap), YP w h → (K w.params).In h) (hT : ∀ (w : World) (h : Heap), YP w h → ∀ b ∈ [P], h.get? b = some { cls := .none, data := .fields #[] })
    (nT : ∀ (w : World), (K w.params).lookup P = none) (hC : ∀ (w : World), PySem.W.codeHdIn (K w.params) c P = true)
    (F : ∀ (w : World) (mg : Str → Option Value) (fa : Addr) (h : Heap), (K w.params).In h → h.Ns mainGlobals mg → mg d.name = some (.ref fa) → ∃ fd : FuncData, (∀ (s : Shared) (u : Value), BindsTo s fd ⟨[u], []⟩ [(x, u)]) ∧ ∀ base : Heap, (K w.params).In base → base.Ns mainGlobals mg → (∀ p ∈ [(c, P)], LamX.TabB base mg p.1 p.2) → FnG l.prog w (K w.params) mg base CX0 k fa fd [x] (spLawT (K w.params) [(P, nm)])) :
    PySem.W.WalkO q loose XP YP l.row.toRowW d [] (fun f vs => PySem.call f vs) :=
  walkGT (cs := [(c, P)]) (CX := fun _ => CX0) (sp := fun w => spLawT (K w.params) [(P, nm)]) hn (by decide) hdf hr hY (fun w h y => tabs_cs rfl (hT w h y)) (fun w => List.forall_mem_singleton.mpr (nT w)) (fun w => List.forall_mem_singleton.mpr (hC w)) F
    (fun w H a ns hl hO hS => law_asksT [(P, nm)] (List.nodup_cons.mpr ⟨List.not_mem_nil, List.nodup_nil⟩) hl hO hS) fun _ _ _ _ _ h => h
theorem walkG2 (hn : l.most = some 63) (hdf : d.params.defaults = []) (hr : Room k callerA) (hY : ∀ (w : World) (h : Heap), YP w h → (K w.params).In h) (hne : P ≠ P2) (hT : ∀ (w : World) (h : Heap), YP w h → ∀ b ∈ [P, P2], h.get? b = some { cls := .none, data := .fields #[] })
    (nT : ∀ (w : World), (K w.params).lookup P = none) (nT2 : ∀ (w : World), (K w.params).lookup P2 = none) (hC : ∀ (w : World), PySem.W.codeHdIn (K w.params) c P = true) (hC2 : ∀ (w : World), PySem.W.codeHdIn (K w.params) c2 P2 = true)
    (F : ∀ (w : World) (mg : Str → Option Value) (fa : Addr) (h : Heap), (K w.params).In h → h.Ns mainGlobals mg → mg d.name = some (.ref fa) → ∃ fd : FuncData, (∀ (s : Shared) (u : Value), BindsTo s fd ⟨[u], []⟩ [(x, u)]) ∧ ∀ base : Heap, (K w.params).In base → base.Ns mainGlobals mg → (∀ p ∈ [(c, P), (c2, P2)], LamX.TabB base mg p.1 p.2) → FnG l.prog w (K w.params) mg base CX0 k fa fd [x] (spLawT (K w.params) [(P, nm), (P2, nm2)])) :
    PySem.W.WalkO q loose XP YP l.row.toRowW d [] (fun f vs => PySem.call f vs) :=
  walkGT (cs := [(c, P), (c2, P2)]) (CX := fun _ => CX0) (sp := fun w => spLawT (K w.params) [(P, nm), (P2, nm2)]) hn (by decide) hdf hr hY (fun w h y => tabs_cs rfl (hT w h y)) (fun w => List.forall_mem_cons.mpr ⟨nT w, List.forall_mem_singleton.mpr (nT2 w)⟩) (fun w => List.forall_mem_cons.mpr ⟨hC w, List.forall_mem_singleton.mpr (hC2 w)⟩) F
    (fun w H a ns hl hO hS => law_asksT [(P, nm), (P2, nm2)] (List.nodup_cons.mpr ⟨fun h => hne (List.mem_singleton.mp h), List.nodup_cons.mpr ⟨List.not_mem_nil, List.nodup_nil⟩⟩) hl hO hS) fun _ _ _ _ _ h => h
end
end DD

set_option Elab.async false
set_option linter.all false
set_option maxRecDepth 100000
set_option maxHeartbeats 4000000
/-! ### len, truth, repr, == and != of instances with defs of their own -/
namespace EX
open PySem PySem.Spec PySem.Calls PyProof.Rows Builtin PySem.W
section
variable {prog : Program} {w : World} {A : Around} {E : Value → Shared → Prop} {s : Shared} {K : Frag} {x C f : Addr} {ox : Obj} {od : Option Obj}
theorem lenO_body {Q : Value → Shared → Prop} (XK : K.In s.heap) (I : InstAt s.heap x ox C od) (hs : findIn K (.ref C) "__len__" = some (some (.ref f))) (hf : isFn K (.ref f) = true)
    (hc : wpAny (model prog w) A (call (.ref f) [.ref x]) (PySem.W.LenBack Q) E s) : wpAny (model prog w) A (Builtin.«len» ⟨[.ref x], []⟩) (fun fin s' => ∃ r, fin = .done (.ret r) ∧ Q r s') E s := by
  unfold Builtin.«len»
  refine wpAny_bind (m := oneArg "len" _) (wpAny_pure ?_)
  refine wpAny_bind (m := callSpecial? (.ref x) (Str.ofString "__len__")) (special_fn XK I hs (beq_iff_eq.mp hf) (wpAny_mono hc (fun r s' hr => ?_) fun _ _ z => z))
  cases r <;> first | exact hr.elim | skip
  rename_i i tk
  obtain ⟨⟨i0, i1⟩, q⟩ := hr
  refine wpAny_bind (wpAny_holding (wpAny_pure ?_))
  refine wpAny_bind (wpAny_letGo ?_)
  show wpAny _ _ (if i < 0 then _ else _) _ _ _
  rw [if_neg (by omega)]
  show wpAny _ _ (if i ≥ 2 ^ 63 then _ else _) _ _ _
  rw [if_neg (by omega)]
  exact wpAny_bind (wpAny_mkInt (wpAny_pure ⟨_, rfl, q⟩))
/-- the truth of an instance that has a length -/
theorem truthO {Q : Bool → Shared → Prop} (XK : K.In s.heap) (I : InstAt s.heap x ox C od) (hb : findIn K (.ref C) "__bool__" = some none) (hs : findIn K (.ref C) "__len__" = some (some (.ref f))) (hf : isFn K (.ref f) = true)
    (hc : wpAny (model prog w) A.in1 (call (.ref f) [.ref x]) (PySem.W.LenBack fun v s' => ∃ i t, v = .int i t ∧ Q (i != 0) s') E s) : wpAny (model prog w) A (truthy (.ref x)) Q E s := by
  have key : wpAny (model prog w) A (runValue (.builtin "len" ⟨[.ref x], []⟩)) (fun r s' => ∃ i t, r = .int i t ∧ Q (i != 0) s') E s := by
    refine wpAny_runValue (codeAny_builtin entry_len ?_)
    rw [Around.under_plainId plain_len _]
    exact wpAny_mono (lenO_body XK I hs hf hc) (fun fin s' h' => by obtain ⟨r, rfl, hq⟩ := h'; exact hq) fun _ _ e => e
  unfold truthy
  refine wpAny_bind (m := callSpecial? (.ref x) (Str.ofString "__bool__")) (wpAny_bind (wpAny_bind (I.type.here ((looks_findIn XK hb).here (wpAny_pure ?_)))))
  refine wpAny_bind (wpAny_bind (I.type.here ((looks_findIn XK hs).here ?_)))
  exact wpAny_bind (wpAny_mono key (fun r s' h' => by obtain ⟨i, t, rfl, hq⟩ := h'; exact wpAny_pure hq) fun _ _ e => e)
/-- bool(x) -/
theorem boolO {Q : Value → Shared → Prop} (XK : K.In s.heap) (I : InstAt s.heap x ox C od) (hb : findIn K (.ref C) "__bool__" = some none) (hs : findIn K (.ref C) "__len__" = some (some (.ref f))) (hf : isFn K (.ref f) = true)
    (hc : wpAny (model prog w) A.in1.in1.in1 (call (.ref f) [.ref x]) (PySem.W.LenBack fun v s' => ∃ i t, v = .int i t ∧ Q (.bool (i != 0)) s') E s) : wpAny (model prog w) A (call (.type "bool") [.ref x]) Q E s := by
  refine callType_codes (T := "bool") (Bi := Builtin.«object.__init__») (Q₁ := fun r s₁ => ∃ b, r = Value.bool b ∧ Q r s₁) PySem.F.called_bool (PySem.F.typeCall_bool_1 _) PySem.F.entry_object_init ?_ ?_
  · refine codeAny_of_tree ?_
    show wpAny _ A.in1.in1 (do checkBuiltinCall "bool.__new__" ⟨[.type "bool", .ref x], []⟩; again (.builtin "bool.__new__" ⟨[.type "bool", .ref x], []⟩)) _ _ s
    refine wpAny_bind (wpAny_of_eq (PySem.F.newCall_bool_1 _) (wpAny_pure ⟨plainId_quiet (by decide +kernel) _, codeAny_builtin PySem.F.entry_bool_new ?_⟩))
    rw [Around.under_plainId (by decide +kernel) _]
    unfold Builtin.«bool.__new__»
    refine wpAny_bind (wpAny_of_eq (a := true) (by rfl) ?_)
    refine PySem.W.KFB.if_not rfl ?_
    refine wpAny_bind (wpAny_of_eq (a := true) PySem.F.conv_sub_bool ?_)
    refine PySem.W.KFB.if_not rfl ?_
    refine wpAny_bind (wpAny_of_eq (a := [.ref x]) (by rfl) ?_)
    refine wpAny_bind (truthO XK I hb hs hf (wpAny_mono hc (fun r s₁ hr => ?_) fun _ _ z => z))
    cases r <;> first | exact hr.elim | skip
    obtain ⟨h1, i, t, e, q⟩ := hr
    exact ⟨h1, i, t, e, wpAny_pure ⟨_, rfl, q⟩⟩
  · rintro ob s₁ ⟨b, rfl, hq⟩
    exact ⟨rfl, PySem.F.args_object_init_2 _ _, object_init_meets PySem.F.called_bool.init.lookup PySem.F.called_bool.made (by decide) prog w A.in1 _ s₁ ⟨rfl, rfl, hq⟩⟩
/-- x != y by an own == -/
theorem neO_entry {y : Value} {Q : Fin → Shared → Prop} (XK : K.In s.heap) (I : InstAt s.heap x ox C od) (he : findIn K (.ref C) "__eq__" = some (some (.ref f))) (hf : isFn K (.ref f) = true) (hu : A.units < cLine)
    (hc : wpAny (model prog w) A (call (.ref f) [.ref x, y]) (fun v s' => ∃ b, v = .bool b ∧ Q (.done (.ret (.bool (!b)))) s') E s) : wpAny (model prog w) A (Builtin.«object.__ne__» ⟨[.ref x, y], []⟩) Q E s := by
  unfold Builtin.«object.__ne__»
  repeat (first
    | with_reducible refine wpAny_cRoomFor hu ?_
    | (refine wpAny_bind (m := callSpecialIfBound? (.ref x) (Str.ofString "__eq__") [y])
        (ifBound_K XK I he hf (wpAny_mono hc (fun r s' hr => by
          obtain ⟨b, rfl, hq⟩ := hr
          repeat (first | exact hq | exact wpAny_pure hq | exact wpAny_truthy_bool hq | (refine wpAny_bind (m := truthy (.bool _)) (wpAny_truthy_bool ?_)) | wp_step)) fun _ _ e => e)))
    | wp_step)
theorem ifBound_ne {M : Model} {args : List Value} {Q : Option Value → Shared → Prop} (XK : K.In s.heap) (I : InstAt s.heap x ox C od) (hs : findIn K (.ref C) "__ne__" = some (some (.builtin "object.__ne__")))
    (hc : wpAny M A (call (.builtin "object.__ne__") (.ref x :: args)) (fun v => Q (some v)) E s) : wpAny M A (callSpecialIfBound? (.ref x) "__ne__" args) Q E s := by
  simp only [callSpecialIfBound?, bindSpecialIfBound?]
  refine wpAny_holding (wpAny_bind (wpAny_bind (wpAny_bind (I.type.here ((looks_findIn XK hs).here ?_)))))
  refine wpAny_bind (wpAny_askSetting (wpAny_ite ?_))
  have fin : wpAny M A (call (.builtin "object.__ne__") ([.ref x] ++ args) >>= fun v => pure (some v)) Q E s := wpAny_bind (wpAny_mono hc (fun v s' h' => wpAny_pure h') fun _ _ h' => h')
  split
  · exact wpAny_bind (wpAny_of_eq (F.cmp_object.ne.bind _) (wpAny_pure (by exact fin)))
  · exact wpAny_tryCatch (wpAny_bind (wpAny_of_eq (F.cmp_object.ne.bind _) (wpAny_pure (by exact fin))))
theorem ne_K {y tb : Value} {Q : Value → Shared → Prop} (hu : A.in1.units < cLine) (hu0 : A.units < cLine) (XK : K.In s.heap) (I : InstAt s.heap x ox C od) (hb : Looks (model prog w) s.heap (typeOf y) tb) (hn : notFirst K C tb = true)
    (hm : mroIn K C (.type "object") = some true) (hs : findIn K (.ref C) "__ne__" = some (some (.builtin "object.__ne__"))) (he : findIn K (.ref C) "__eq__" = some (some (.ref f))) (hf : isFn K (.ref f) = true)
    (hc : wpAny (model prog w) A.in1 (call (.ref f) [.ref x, y]) (fun v s' => ∃ b, v = .bool b ∧ Q (.bool (!b)) s') E s) : wpAny (model prog w) A (richCompare .NotEq (.ref x) y) Q E s := by
  have one : wpAny (model prog w) A (tryCompare (.ref x) (cmpInfo .NotEq).2.1 y) (fun r s' => ∃ v, r = some v ∧ Q v s') E s := by
    unfold tryCompare
    refine wpAny_bind (ifBound_ne XK I hs (wpAny_call (codeAny_call_builtin F.cmp_object.ne.plain F.cmpEntry_ne (check_slot F.cmpKind_ne F.cmpSplit_ne (I.type.andThen (looks_mroIn XK hm)) (F.cmpArgs_ne _ _) ?_))))
    refine neO_entry XK I he hf hu (wpAny_mono hc (fun v s' hv => ?_) fun _ _ e => e)
    obtain ⟨b, rfl, hq⟩ := hv
    exact ⟨b, rfl, wpAny_pure ⟨_, rfl, hq⟩⟩
  unfold richCompare
  simp only [oneThing_ref]
  refine wpAny_holding (wpAny_bind (wpAny_cRoomFor hu0 ?_))
  refine wpAny_bind (I.type.here (wpAny_bind (hb.here ?_)))
  split
  · rename_i q
    have e : subIn K tb (.ref C) = some false := by
      rcases Bool.or_eq_true_iff.mp hn with e | e
      · rw [beq_iff_eq.mp e] at q; simp at q
      · exact beq_iff_eq.mp e
    refine wpAny_bind ((looks_subIn XK e).here ?_)
    simp only [Bool.false_eq_true, if_false]
    refine wpAny_bind (wpAny_mono one (fun r s' z => ?_) fun _ _ e => e)
    obtain ⟨v, rfl, hq⟩ := z
    exact wpAny_pure hq
  · refine wpAny_bind (wpAny_pure ?_)
    simp only [Bool.false_eq_true, if_false]
    refine wpAny_bind (wpAny_mono one (fun r s' z => ?_) fun _ _ e => e)
    obtain ⟨v, rfl, hq⟩ := z
    exact wpAny_pure hq
end
end EX

namespace EX
open PySem PySem.Spec PyProof.Rows L2
section
variable {X : Cx} {CX : CXT} {C f : Addr} {fd : FuncData} {n : Nat} {sp : Sp} {E : XK}
theorem raw1 {P : Program} {w : World} {K : PySem.W.Frag} {mg : Str → Option Value} {base : Heap} {ps : List Str} (F : FnOk P w K mg base CX n f fd ps sp) (hb : Binds K fd ps []) : FnR P w K mg base CX n f sp := (F.raw hb .nil).imp fun vz H Q E h => by rw [List.append_nil]; exact h
theorem insAt {pnz : List (Addr × Obj)} {σ : L2.St} {H : Hp} {s : Shared} {a dx : Addr} {fs : List (Str × V)} (I : Inv X pnz σ H s) (ha : H a = some (.ins C dx fs)) : ∃ od, PySem.W.InstAt s.heap a (PySem.W.instObj C dx) C (some od) := by
  obtain ⟨mA, J, _⟩ := ins_get I.hok ha
  obtain ⟨od, Iv, _⟩ := J.look
  exact ⟨od, Iv⟩
/-- len(x), bool(x), repr(x) of an instance with a def of its own -/
def rLenO (C : Addr) (sp : Sp) (E : XK) : List V → Hp → VK → Prop := fun xs H Q => ∃ a dx fs, xs = [.ref a] ∧ H a = some (.ins C dx fs) ∧ sp [.ref a] H (fun z H' => ∃ i : Int, z = .int i ∧ 0 ≤ i ∧ i < 2 ^ 63 ∧ Q z H') E
def rBoolO (C : Addr) (sp : Sp) (E : XK) : List V → Hp → VK → Prop := fun xs H Q => ∃ a dx fs, xs = [.ref a] ∧ H a = some (.ins C dx fs) ∧ sp [.ref a] H (fun z H' => ∃ i : Int, z = .int i ∧ 0 ≤ i ∧ i < 2 ^ 63 ∧ Q (.bl (i != 0)) H') E
def rReprO (C : Addr) (sp : Sp) (E : XK) : List V → Hp → VK → Prop := fun xs H Q => ∃ a dx fs, xs = [.ref a] ∧ H a = some (.ins C dx fs) ∧ sp [.ref a] H (fun z H' => ∃ t : Str, z = .str t ∧ Q z H') E
theorem call_lenO (hs : PySem.W.findIn X.K (.ref C) "__len__" = some (some (.ref f))) (hf : PySem.W.isFn X.K (.ref f) = true) (F : FnR X.prog X.w X.K X.mg X.base CX n f sp) (hrm : Room (n + 1) X.A) (hxx : Passes CX X E) : CallR X (.builtin "len") (rLenO C sp E) := by
  intro pnz s σ H xs us Q I r h
  obtain ⟨a, dx, fs, rfl, ha, q⟩ := h
  obtain ⟨u, rfl, ru⟩ := r.one
  cases (show u = Value.ref a from ru)
  obtain ⟨od, Iv⟩ := insAt I ha
  obtain ⟨m, hF⟩ := I.fr
  refine PySem.W.len_K hF I.ok.mod.kin Iv hs hf (wpAny_mono (wpAny_call (SlX.run_at (us := [.ref a]) (ws := [.ref a]) F hrm.in1 I.env0.in1 hxx I (.cons rfl .nil) q)) (fun w s' z => ?_) fun _ _ x => x)
  obtain ⟨z', H', I', rz, i, ei, i0, i1, qz⟩ := z
  subst ei
  obtain ⟨t, e⟩ := (show ∃ t, w = Value.int i t from rz)
  cases e
  exact ⟨⟨i0, i1⟩, .int i, H', I'.tok _, ⟨_, rfl⟩, qz⟩
theorem call_boolO (hbb : PySem.W.findIn X.K (.ref C) "__bool__" = some none) (hs : PySem.W.findIn X.K (.ref C) "__len__" = some (some (.ref f))) (hf : PySem.W.isFn X.K (.ref f) = true) (F : FnR X.prog X.w X.K X.mg X.base CX n f sp) (hrm : Room (n + 3) X.A) (hxx : Passes CX X E) : CallR X (.type "bool") (rBoolO C sp E) := by
  intro pnz s σ H xs us Q I r h
  obtain ⟨a, dx, fs, rfl, ha, q⟩ := h
  obtain ⟨u, rfl, ru⟩ := r.one
  cases (show u = Value.ref a from ru)
  obtain ⟨od, Iv⟩ := insAt I ha
  have r3 : Room n X.A.in1.in1.in1 := ((show Room (n + 2) X.A.in1 from Room.in1 hrm).in1).in1
  refine boolO I.kIn Iv hbb hs hf (wpAny_mono (wpAny_call (SlX.run_at (us := [.ref a]) (ws := [.ref a]) F r3 I.env0.in1.in1.in1 hxx I (.cons rfl .nil) q)) (fun w s' z => ?_) fun _ _ x => x)
  obtain ⟨z', H', I', rz, i, ei, i0, i1, qz⟩ := z
  subst ei
  obtain ⟨t, e⟩ := (show ∃ t, w = Value.int i t from rz)
  cases e
  exact ⟨⟨i0, i1⟩, i, _, rfl, .bl (i != 0), H', I'.tok _, rfl, qz⟩
theorem call_reprO (hs : PySem.W.findIn X.K (.ref C) "__repr__" = some (some (.ref f))) (hf : PySem.W.isFn X.K (.ref f) = true) (F : FnR X.prog X.w X.K X.mg X.base CX n f sp) (hrm : Room (n + 1) X.A) (hxx : Passes CX X E) : CallR X (.builtin "repr") (rReprO C sp E) := by
  intro pnz s σ H xs us Q I r h
  obtain ⟨a, dx, fs, rfl, ha, q⟩ := h
  obtain ⟨u, rfl, ru⟩ := r.one
  cases (show u = Value.ref a from ru)
  obtain ⟨od, Iv⟩ := insAt I ha
  obtain ⟨m, hF⟩ := I.fr
  refine PySem.W.repr_K (hrm.in1).units0 hF I.ok.mod.kin Iv hs hf (wpAny_mono (wpAny_call (SlX.run_at (us := [.ref a]) (ws := [.ref a]) F hrm.in1 I.env0.in1 hxx I (.cons rfl .nil) q)) (fun w s' z => ?_) fun _ _ x => x)
  obtain ⟨z', H', I', rz, t, et, qz⟩ := z
  subst et
  obtain ⟨tt, e⟩ := (show ∃ tt, w = Value.str t tt from rz)
  cases e
  exact ⟨.str t, H', I', ⟨_, rfl⟩, qz⟩
/-- x == y, x != y, x an instance with an == of its own -/
def rEqO (K : PySem.W.Frag) (C : Addr) (sp : Sp) (E : XK) : R2 := fun x y H Q => ∃ a dx fs tb, x = .ref a ∧ H a = some (.ins C dx fs) ∧ TyX K H y tb ∧ PySem.W.notFirst K C tb = true ∧ sp [x, y] H (fun z H' => ∃ b, z = .bl b ∧ Q z H') E
def rNeO (K : PySem.W.Frag) (C : Addr) (sp : Sp) (E : XK) : R2 := fun x y H Q => ∃ a dx fs tb, x = .ref a ∧ H a = some (.ins C dx fs) ∧ TyX K H y tb ∧ PySem.W.notFirst K C tb = true ∧ sp [x, y] H (fun z H' => ∃ b, z = .bl b ∧ Q (.bl (!b)) H') E
theorem looks_of {pnz : List (Addr × Obj)} {σ : L2.St} {H : Hp} {s : Shared} {y : V} {u tb : Value} (I : Inv X pnz σ H s) (ry : RelV y u) (ty : TyX X.K H y tb) : PySem.W.Looks (model X.prog X.w) s.heap (typeOf u) tb := by
  obtain ⟨P, Z, hp, _⟩ := kit_of I ry ty
  exact Z.ty _ _ I.kIn hp
theorem op_eqO (hs : PySem.W.findIn X.K (.ref C) "__eq__" = some (some (.ref f))) (hf : PySem.W.isFn X.K (.ref f) = true) (F : FnR X.prog X.w X.K X.mg X.base CX n f sp) (hrm : Room n X.A) (hxx : Passes CX X E) : OpR X (compareOp .Eq) (rEqO X.K C sp E) := by
  intro pnz s σ H x y v u Q I rx ry h
  obtain ⟨a, dx, fs, tb, rfl, ha, ht, hn, q⟩ := h
  cases (show v = Value.ref a from rx)
  obtain ⟨od, Iv⟩ := insAt I ha
  obtain ⟨m, hF⟩ := I.fr
  show wpAny (model X.prog X.w) X.A (richCompare .Eq (.ref a) u) _ _ s
  refine PySem.W.cmp_K (op := .Eq) (tb := tb) hrm.units0 hF I.ok.mod.kin Iv (looks_of I ry ht) hn hs hf ?_
  refine wpAny_mono (wpAny_call (run_fnR (us := [.ref a, u]) (vs := [.ref a, y]) F hrm hxx I (.cons rfl (.cons ry .nil)) q)) (fun w s' z => ?_) fun _ _ x => x
  obtain ⟨z', H', I', rz, b, eb, qz⟩ := z
  subst eb
  exact SlX.cmpback rz ⟨.bl b, H', I', rz, qz⟩
theorem op_neO (hm : PySem.W.mroIn X.K C (.type "object") = some true) (hne : PySem.W.findIn X.K (.ref C) "__ne__" = some (some (.builtin "object.__ne__"))) (hs : PySem.W.findIn X.K (.ref C) "__eq__" = some (some (.ref f))) (hf : PySem.W.isFn X.K (.ref f) = true) (F : FnR X.prog X.w X.K X.mg X.base CX n f sp) (hrm : Room (n + 1) X.A) (hxx : Passes CX X E) : OpR X (compareOp .NotEq) (rNeO X.K C sp E) := by
  intro pnz s σ H x y v u Q I rx ry h
  obtain ⟨a, dx, fs, tb, rfl, ha, ht, hn, q⟩ := h
  cases (show v = Value.ref a from rx)
  obtain ⟨od, Iv⟩ := insAt I ha
  show wpAny (model X.prog X.w) X.A (richCompare .NotEq (.ref a) u) _ _ s
  refine ne_K (tb := tb) hrm.in1.units0 hrm.units0 I.kIn Iv (looks_of I ry ht) hn hm hne hs hf ?_
  refine wpAny_mono (wpAny_call (SlX.run_at (us := [.ref a, u]) (ws := [.ref a, y]) F hrm.in1 I.env0.in1 hxx I (.cons rfl (.cons ry .nil)) q)) (fun w s' z => ?_) fun _ _ x => x
  obtain ⟨z', H', I', rz, b, eb, qz⟩ := z
  subst eb
  cases (show w = Value.bool b from rz)
  exact ⟨b, rfl, .bl (!b), H', I', rfl, qz⟩
theorem notFirst_ty {K : PySem.W.Frag} {T : String} (h : (fastBuiltinMro T).isSome = true) (h2 : ∀ l, fastBuiltinMro T = some l → l.all (fun v => match v with | .type _ => true | _ => false) = true) : PySem.W.notFirst K C (.type T) = true := by
  refine Bool.or_eq_true_iff.mpr (.inr (beq_iff_eq.mpr ?_))
  obtain ⟨l, hl⟩ := Option.isSome_iff_exists.mp h
  show (fastBuiltinMro T).map (·.contains (.ref C)) = some false
  rw [hl]
  have h3 := h2 l hl
  show some (l.contains (.ref C)) = some false
  congr 1
  clear hl h h2
  induction l with
  | nil => rfl
  | cons v l ih =>
    rw [List.all_cons, Bool.and_eq_true] at h3
    rw [List.contains_cons, ih h3.2, Bool.or_false]
    cases v <;> first | rfl | (exact absurd h3.1 (by simp))
theorem notFirst_same {K : PySem.W.Frag} : PySem.W.notFirst K C (.ref C) = true := Bool.or_eq_true_iff.mpr (.inl (beq_self_eq_true _))
end
end EX

set_option Elab.async false
set_option linter.all false
set_option maxRecDepth 100000
set_option maxHeartbeats 4000000
namespace DD
open PySem PySem.Spec PyProof.Rows L2
/-! ### len, bool, repr, == and != of instances that have defs for them -/
section
variable {X : Cx} {C f : Addr} {fd : FuncData} {n : Nat} {sp : Sp} {E : XK}
theorem wLenO (K : PySem.W.Frag) (hK : X.K = K) (hs : PySem.W.findIn X.K (.ref C) "__len__" = some (some (.ref f))) (hf : PySem.W.isFn X.K (.ref f) = true) (F : FnOk X.prog X.w X.K X.mg X.base CX0 n f fd ["self"] sp) (hbd : Binds X.K fd ["self"] []) (hrm : Room (n + 1) X.A) : CallR X (.builtin "len") (EX.rLenO C sp E0) := EX.call_lenO hs hf (EX.raw1 F hbd) hrm pass0
theorem wBoolO (K : PySem.W.Frag) (hK : X.K = K) (hbb : PySem.W.findIn X.K (.ref C) "__bool__" = some none) (hs : PySem.W.findIn X.K (.ref C) "__len__" = some (some (.ref f))) (hf : PySem.W.isFn X.K (.ref f) = true) (F : FnOk X.prog X.w X.K X.mg X.base CX0 n f fd ["self"] sp) (hbd : Binds X.K fd ["self"] []) (hrm : Room (n + 3) X.A) : CallR X (.type "bool") (EX.rBoolO C sp E0) := EX.call_boolO hbb hs hf (EX.raw1 F hbd) hrm pass0
theorem wReprO (K : PySem.W.Frag) (hK : X.K = K) (hs : PySem.W.findIn X.K (.ref C) "__repr__" = some (some (.ref f))) (hf : PySem.W.isFn X.K (.ref f) = true) (F : FnOk X.prog X.w X.K X.mg X.base CX0 n f fd ["self"] sp) (hbd : Binds X.K fd ["self"] []) (hrm : Room (n + 1) X.A) : CallR X (.builtin "repr") (EX.rReprO C sp E0) := EX.call_reprO hs hf (EX.raw1 F hbd) hrm pass0
theorem wEqO (K : PySem.W.Frag) (hK : X.K = K) (hs : PySem.W.findIn X.K (.ref C) "__eq__" = some (some (.ref f))) (hf : PySem.W.isFn X.K (.ref f) = true) (F : FnOk X.prog X.w X.K X.mg X.base CX0 n f fd ["self", "other"] sp) (hbd : Binds X.K fd ["self", "other"] []) (hrm : Room n X.A) : OpR X (compareOp .Eq) (EX.rEqO K C sp E0) := hK ▸ EX.op_eqO hs hf (EX.raw1 F hbd) hrm pass0
theorem wNeO (K : PySem.W.Frag) (hK : X.K = K) (hm : PySem.W.mroIn X.K C (.type "object") = some true) (hne : PySem.W.findIn X.K (.ref C) "__ne__" = some (some (.builtin "object.__ne__"))) (hs : PySem.W.findIn X.K (.ref C) "__eq__" = some (some (.ref f))) (hf : PySem.W.isFn X.K (.ref f) = true) (F : FnOk X.prog X.w X.K X.mg X.base CX0 n f fd ["self", "other"] sp) (hbd : Binds X.K fd ["self", "other"] []) (hrm : Room (n + 1) X.A) : OpR X (compareOp .NotEq) (EX.rNeO K C sp E0) := hK ▸ EX.op_neO hm hne hs hf (EX.raw1 F hbd) hrm pass0
end
section
variable {K : PySem.W.Frag} {C : Addr} {fs gs : List (Str × DV)} {M : Ms} {S : SpecD} {E : XK} {R : DV → Ms → Prop} {y : DV}
theorem own_core {RR : DV → Ms → Prop} {N : Ms} {F : Hp} {u : V} {us : List V} {ds : List DV} {H : Hp} {Q : VK} {Q' : VK} (w : Wd K F (N ++ M) H) (hr : RpA K F us ds) (h : S ds M RR) (q : ∀ v d M' F' H', Ex F F' → RR d M' → Wd K F' (N ++ M') H' → Rp K F' v d → Q' v H') : spD K S us H Q' E := ⟨F, N, M, ds, RR, w, hr, h, q⟩
theorem rc_lenO (h : S [.ins C fs] M fun d M' => ∃ i : Int, d = .int i ∧ 0 ≤ i ∧ i < 2 ^ 63 ∧ R (.int i) M') : RCR K (EX.rLenO C (spD K S) E) [.ins C fs] M R := fun N F us H w hr Q k => by
  obtain ⟨u, rfl, r1⟩ := rpa1 hr
  obtain ⟨a, dx, gs, rfl, ha, hf⟩ := id r1.ins_of
  refine ⟨a, dx, gs, rfl, w.fr _ _ ha, F, N, M, _, _, w, .cons r1 .nil, h, fun v d M' F' H' e1 ⟨i, hd, i0, i1, hR⟩ w1 r2 => ?_⟩
  subst hd
  exact ⟨i, r2.int_of, i0, i1, k v _ M' F' H' e1 hR w1 r2⟩
theorem rc_boolO (h : S [.ins C fs] M fun d M' => ∃ i : Int, d = .int i ∧ 0 ≤ i ∧ i < 2 ^ 63 ∧ R (.bl (i != 0)) M') : RCR K (EX.rBoolO C (spD K S) E) [.ins C fs] M R := fun N F us H w hr Q k => by
  obtain ⟨u, rfl, r1⟩ := rpa1 hr
  obtain ⟨a, dx, gs, rfl, ha, hf⟩ := id r1.ins_of
  refine ⟨a, dx, gs, rfl, w.fr _ _ ha, F, N, M, _, _, w, .cons r1 .nil, h, fun v d M' F' H' e1 ⟨i, hd, i0, i1, hR⟩ w1 r2 => ?_⟩
  subst hd
  exact ⟨i, r2.int_of, i0, i1, k _ _ M' F' H' e1 hR w1 (.bl _)⟩
theorem rc_reprO (h : S [.ins C fs] M fun d M' => ∃ t : Str, d = .str t ∧ R (.str t) M') : RCR K (EX.rReprO C (spD K S) E) [.ins C fs] M R := fun N F us H w hr Q k => by
  obtain ⟨u, rfl, r1⟩ := rpa1 hr
  obtain ⟨a, dx, gs, rfl, ha, hf⟩ := id r1.ins_of
  refine ⟨a, dx, gs, rfl, w.fr _ _ ha, F, N, M, _, _, w, .cons r1 .nil, h, fun v d M' F' H' e1 ⟨t, hd, hR⟩ w1 r2 => ?_⟩
  subst hd
  exact ⟨t, r2.str_of, k v _ M' F' H' e1 hR w1 r2⟩
abbrev TyI (K : PySem.W.Frag) (C : Addr) : Prop := PySem.W.findIn K (.ref C) "__class__" = some (some (.builtin "object.__class__")) ∧ PySem.W.specialIn K (.builtin "object.__class__") "__get__" = some (some (.builtin "getset_descriptor.__get__")) ∧ PySem.W.takesIn K (.builtin "object.__class__") = some true ∧ PySem.W.mroIn K C (.type "object") = some true ∧ PySem.W.kitOne K (.ref C) (.ref C) = some true
/-- what == asks of the type of the other side -/
def Oth (K : PySem.W.Frag) (C : Addr) (y : DV) : Prop := ∀ (F H : Hp) (v : V), Ex F H → Rp K F v y → ∃ tb, TyX K H v tb ∧ PySem.W.notFirst K C tb = true
theorem oth_ty (h : (tyN y).isSome = true) : Oth K C y := fun F H v e r => by
  obtain ⟨T, hT⟩ := Option.isSome_iff_exists.mp h
  refine ⟨_, r.tyX e hT, ?_⟩
  cases y <;> first
    | (cases hT; exact EX.notFirst_ty (by decide +kernel) (fun l hl => by
        revert l
        rw [show ∀ p : List Value → Prop, (∀ l, fastBuiltinMro _ = some l → p l) = (∀ l ∈ fastBuiltinMro _, p l) from fun p => rfl]
        decide +kernel))
    | cases h
theorem oth_ins (cl : Cls K C) (ty : TyI K C) : Oth K C (.ins C gs) := fun F H v e r => by
  obtain ⟨b, dy, hs, rfl, hb, hg⟩ := id r.ins_of
  exact ⟨_, .base (.ins (e _ _ hb) cl ty.1 ty.2.1 ty.2.2.1 ty.2.2.2.1), EX.notFirst_same⟩
theorem rv_eqO (ho : Oth K C y) (h : S [.ins C fs, y] M fun d M' => ∃ b, d = .bl b ∧ R (.bl b) M') : RVR K (EX.rEqO K C (spD K S) E) (.ins C fs) y M R := fun N F u v H w r1 r2 Q k => by
  obtain ⟨a, dx, gs, rfl, ha, hf⟩ := id r1.ins_of
  obtain ⟨tb, h1, h2⟩ := ho F H v w.fr r2
  refine ⟨a, dx, gs, tb, rfl, w.fr _ _ ha, h1, h2, F, N, M, _, _, w, .cons r1 (.cons r2 .nil), h, fun v d M' F' H' e1 ⟨b, hd, hR⟩ w1 r3 => ?_⟩
  subst hd
  exact ⟨b, r3.bl_of, k v _ M' F' H' e1 hR w1 r3⟩
theorem rv_neO (ho : Oth K C y) (h : S [.ins C fs, y] M fun d M' => ∃ b, d = .bl b ∧ R (.bl (!b)) M') : RVR K (EX.rNeO K C (spD K S) E) (.ins C fs) y M R := fun N F u v H w r1 r2 Q k => by
  obtain ⟨a, dx, gs, rfl, ha, hf⟩ := id r1.ins_of
  obtain ⟨tb, h1, h2⟩ := ho F H v w.fr r2
  refine ⟨a, dx, gs, tb, rfl, w.fr _ _ ha, h1, h2, F, N, M, _, _, w, .cons r1 (.cons r2 .nil), h, fun v d M' F' H' e1 ⟨b, hd, hR⟩ w1 r3 => ?_⟩
  subst hd
  exact ⟨b, r3.bl_of, k _ _ M' F' H' e1 hR w1 (.bl _)⟩
/-- isinstance of what is no instance -/
theorem rc_isiNot {x : DV} (h : (tyN x).isSome = true) (hd : PySem.W.hasDictIn K C = true) (tt : PySem.W.typeIn K (.ref C) = some (.type "type")) : RC K (rIsi K) [x, .raw (.ref C)] M (.bl false) := fun N F us H w hr Q k => by
  obtain ⟨u, v, rfl, r1, r2⟩ := rpa2 hr
  cases r2.raw_of
  obtain ⟨T, hT⟩ := Option.isSome_iff_exists.mp h
  have sub : PySem.W.subIn K (.type T) (.ref C) = some false := by
    obtain ⟨tb, h1, h2⟩ := oth_ty (C := C) h F H u w.fr r1
    have e : PySem.W.notFirst K C (.type T) = true := by
      cases x <;> first
        | (cases hT; exact EX.notFirst_ty (by decide +kernel) (fun l hl => by
            revert l
            rw [show ∀ p : List Value → Prop, (∀ l, fastBuiltinMro _ = some l → p l) = (∀ l ∈ fastBuiltinMro _, p l) from fun p => rfl]
            decide +kernel))
        | cases h
    rcases Bool.or_eq_true_iff.mp e with e | e
    · cases beq_iff_eq.mp e
    · exact beq_iff_eq.mp e
  have hk : PySem.W.kitOne K (.type T) (.ref C) = some false := by
    unfold PySem.W.kitOne
    rw [if_neg (fun z => by cases beq_iff_eq.mp z)]
    obtain ⟨cd, hc, _⟩ := PySem.W.any_some hd
    show (if ((PySem.W.clsIn K C).isSome && PySem.W.typeIn K (.ref C) == some (.type "type")) = true then _ else none) = _
    rw [hc, tt, if_pos (by rw [beq_self_eq_true]; rfl)]
    exact sub
  exact ⟨_, _, _, _, false, rfl, .own C, r1.tyX w.fr hT, hk, k _ _ M F H (Evl.Ex.refl F) ⟨rfl, rfl⟩ w (.bl false)⟩
end
/-! ### texts: f-strings, str -/
def EvJs (K : KB) (ts : List TE) (acc : Str) (ρ : Rho) (M : Ms) (R : Str → Ms → Prop) : Prop := ∀ (N : Ms) (F : Hp) (σ : L2.St) (H : Hp), Sb K N F M ρ σ H → ∀ Q : Str → Hp → Prop, (∀ y M' F' H', Ex F F' → R y M' → Wd K.fr F' (N ++ M') H' → Q y H') → tJs ts acc σ H Q
def tJoin (ts : List TE) : TE := fun σ H Q => tJs ts Str.empty σ H fun out H1 => Q (.str out) H1
theorem pe_joinD {X : Cx} {v1 v2 : Expr} {rest : List Expr} {ts : List TE} {pos : Pos} (h : PJ X (v1 :: v2 :: rest) ts) : PE X (.JoinedStr (v1 :: v2 :: rest) pos) (tJoin ts) := pe_joined h
section
variable {K : KB} {ρ : Rho} {M : Ms} {t te : TE} {ts : List TE} {acc : Str} {R : DV → Ms → Prop} {RS : Str → Ms → Prop}
theorem ejs_nil (h : RS acc M) : EvJs K [] acc ρ M RS := fun N F σ H Z Q q => q acc M F H (Evl.Ex.refl F) h Z.w
theorem ejs_cons (h : EvR K t ρ M fun x M1 => ∃ y, x = .str y ∧ (acc ++ y).length ≤ 100000 ∧ EvJs K ts (acc ++ y) ρ M1 RS) : EvJs K (t :: ts) acc ρ M RS := fun N F σ H Z Q q =>
  h N F σ H Z _ fun v d M1 F1 H1 e1 ⟨y, hd, hl, hj⟩ w1 r1 => by
    subst hd
    exact ⟨y, r1.str_of, Evl.sz_of hl, hj N F1 σ H1 ⟨w1, Z.e.mono e1, Z.bm e1⟩ Q fun y M' F' H' e2 => q y M' F' H' (e1.trans e2)⟩
theorem evr_join (h : EvJs K ts Str.empty ρ M fun y M' => R (.str y) M') : EvR K (tJoin ts) ρ M R := fun N F σ H Z Q q => h N F σ H Z _ fun y M' F' H' e hR w => q _ _ M' F' H' e hR w (.str y)
theorem evr_fmtI (h : EvR K te ρ M fun x M1 => ∃ i : Int, x = .int i ∧ i.natAbs < 10 ^ 40 ∧ R (.str (toString i)) M1) : EvR K (tFmt te) ρ M R := fun N F σ H Z Q q => h N F σ H Z _ fun v d M1 F1 H1 e1 ⟨i, hd, hl, hR⟩ w1 r1 => by
  subst hd
  exact .inr ⟨i, r1.int_of, (int_short hl).2, q _ _ M1 F1 H1 e1 hR w1 (.str _)⟩
end
def rStrI : List V → Hp → VK → Prop := fun xs H Q => ∃ i : Int, xs = [.int i] ∧ i.natAbs.log2 < 1920 ∧ Q (.str (toString i)) H
theorem wStrI {X : Cx} : CallR X (.type "str") rStrI := call_str_int
section
variable {K : PySem.W.Frag} {M : Ms} {p b c : Nat}
theorem rc_strI {i : Int} (h : i.natAbs < 10 ^ 40) : RC K rStrI [.int i] M (.str (toString i)) := fun N F us H w hr Q k => by
  obtain ⟨u, rfl, r1⟩ := rpa1 hr
  exact ⟨i, by rw [r1.int_of], (int_short h).2, k _ _ M F H (Evl.Ex.refl F) ⟨rfl, rfl⟩ w (.str _)⟩
theorem Fq.txt {i : Int} (h : i.natAbs < 10 ^ 40) : Fq (.str (toString i)) 0 41 := by
  refine ⟨?_, Nat.le_refl _, (int_short h).1⟩
  show (Str.ofString (toString i)).cps.toList.all (fun c => decide (c < 16 ^ 8)) = true
  rw [signs_ofString, List.all_map, List.all_eq_true]
  intro ch _
  refine decide_eq_true ?_
  rcases ch.valid with h | h
  · show ch.val.toNat < _; omega
  · show ch.val.toNat < _; omega
theorem Fq.cat {a d : Str} {p2 : Nat} (h1 : Fq (.str a) p b) (h2 : Fq (.str d) p2 c) : Fq (.str (a ++ d)) 0 (b + c) := by
  refine ⟨?_, Nat.le_refl _, ?_⟩
  · have f1 : a.cps.toList.all (fun c => decide (c < 16 ^ 8)) = true := h1.f
    have f2 : d.cps.toList.all (fun c => decide (c < 16 ^ 8)) = true := h2.f
    show (a ++ d).cps.toList.all _ = true
    rw [Str.cps_append, Array.toList_append, List.all_append, f1, f2]; rfl
  · have g1 : a.cps.size ≤ b := h1.b
    have g2 : d.cps.size ≤ c := h2.b
    show (a ++ d).cps.size ≤ _
    rw [Str.cps_append, Array.size_append]; omega
theorem Fq.len {a : Str} (h : Fq (.str a) p b) : a.length ≤ b := h.b
end
end DD

/-! the same by names, for walks by word -/
namespace DD
open PySem PySem.Spec PyProof.Rows L2
def LenK (R : DV → Ms → Prop) (d : DV) (M : Ms) : Prop := ∃ i : Int, d = .int i ∧ 0 ≤ i ∧ i < 2 ^ 63 ∧ R (.int i) M
def BoolK (R : DV → Ms → Prop) (d : DV) (M : Ms) : Prop := ∃ i : Int, d = .int i ∧ 0 ≤ i ∧ i < 2 ^ 63 ∧ R (.bl (i != 0)) M
def ReprK (R : DV → Ms → Prop) (d : DV) (M : Ms) : Prop := ∃ t : Str, d = .str t ∧ R (.str t) M
def EqK (R : DV → Ms → Prop) (d : DV) (M : Ms) : Prop := ∃ b, d = .bl b ∧ R (.bl b) M
def NeK (R : DV → Ms → Prop) (d : DV) (M : Ms) : Prop := ∃ b, d = .bl b ∧ R (.bl (!b)) M
def JsK (K : KB) (ts : List TE) (acc : Str) (ρ : Rho) (RS : Str → Ms → Prop) (x : DV) (M : Ms) : Prop := ∃ y, x = .str y ∧ (acc ++ y).length ≤ 100000 ∧ EvJs K ts (acc ++ y) ρ M RS
def FmtK (R : DV → Ms → Prop) (x : DV) (M : Ms) : Prop := ∃ i : Int, x = .int i ∧ i.natAbs < 10 ^ 40 ∧ R (.str (toString i)) M
section
variable {K : PySem.W.Frag} {KK : KB} {C : Addr} {fs : List (Str × DV)} {M : Ms} {S : SpecD} {E : XK} {R : DV → Ms → Prop} {RS : Str → Ms → Prop} {y : DV} {ρ : Rho} {t te : TE} {ts : List TE} {acc : Str}
theorem rc_lenK (h : S [.ins C fs] M (LenK R)) : RCR K (EX.rLenO C (spD K S) E) [.ins C fs] M R := rc_lenO h
theorem rc_boolK (h : S [.ins C fs] M (BoolK R)) : RCR K (EX.rBoolO C (spD K S) E) [.ins C fs] M R := rc_boolO h
theorem rc_reprK (h : S [.ins C fs] M (ReprK R)) : RCR K (EX.rReprO C (spD K S) E) [.ins C fs] M R := rc_reprO h
theorem rv_eqK (ho : Oth K C y) (h : S [.ins C fs, y] M (EqK R)) : RVR K (EX.rEqO K C (spD K S) E) (.ins C fs) y M R := rv_eqO ho h
theorem rv_neK (ho : Oth K C y) (h : S [.ins C fs, y] M (NeK R)) : RVR K (EX.rNeO K C (spD K S) E) (.ins C fs) y M R := rv_neO ho h
theorem ejs_consK (h : EvR KK t ρ M (JsK KK ts acc ρ RS)) : EvJs KK (t :: ts) acc ρ M RS := ejs_cons h
theorem evr_fmtK (h : EvR KK te ρ M (FmtK R)) : EvR KK (tFmt te) ρ M R := evr_fmtI h
theorem LenK.mk {i : Int} (h0 : 0 ≤ i) (h1 : i < 2 ^ 63) (k : R (.int i) M) : LenK R (.int i) M := ⟨i, rfl, h0, h1, k⟩
theorem BoolK.mk {i : Int} (h0 : 0 ≤ i) (h1 : i < 2 ^ 63) (k : R (.bl (i != 0)) M) : BoolK R (.int i) M := ⟨i, rfl, h0, h1, k⟩
theorem ReprK.mk {t : Str} (k : R (.str t) M) : ReprK R (.str t) M := ⟨t, rfl, k⟩
theorem EqK.mk {b : Bool} (k : R (.bl b) M) : EqK R (.bl b) M := ⟨b, rfl, k⟩
theorem NeK.mk {b : Bool} (k : R (.bl (!b)) M) : NeK R (.bl b) M := ⟨b, rfl, k⟩
theorem JsK.mk {y : Str} (hl : (acc ++ y).length ≤ 100000) (k : EvJs KK ts (acc ++ y) ρ M RS) : JsK KK ts acc ρ RS (.str y) M := ⟨y, rfl, hl, k⟩
theorem FmtK.mk {i : Int} (hl : i.natAbs < 10 ^ 40) (k : R (.str (toString i)) M) : FmtK R (.int i) M := ⟨i, rfl, hl, k⟩
end
end DD

set_option Elab.async false
set_option linter.all false
set_option maxRecDepth 100000
set_option maxHeartbeats 4000000
/-! ### objects that change: attributes as targets, methods by keyword, own len and repr of what is owned; stars in displays; dicts with keys that are tuples -/
namespace DD
open PySem PySem.Spec PyProof.Rows L2
/-! attributes as targets -/
def gFld (K : PySem.W.Frag) (to : TE) (f : Str) : TG := fun v σ H Q => to σ H fun x H1 => ∃ a C dx fs, x = .ref a ∧ H1 a = some (.ins C dx fs) ∧ Cls K C ∧ NoAttr K C f ∧ fs.length < 1000 ∧ Q σ (upd H1 a (.ins C dx (putF f v fs)))
theorem pg_fld {X : Cx} {o : Expr} {to : TE} {f : Str} {pos : Pos} (ho : PE X o to) : PG X (.Attribute o f pos) (gFld X.K to f) := by
  refine ⟨fun pins s σ H v u Q I r h => ?_⟩
  rw [arm_assign_Attribute]
  refine wpAny_bind (wpAny_holding (thn (ho.run pins s σ H _ I h) fun ov s1 ⟨x, H1, I1, r1, a, C, dx, fs, ex, ea, c, n, l, q⟩ => ?_))
  subst ex
  obtain rfl : ov = Value.ref a := r1
  exact wpAny_bind (wpAny_standAt (wpAny_bind (wpAny_holding (setattr_ok I1 ea c n l r fun s3 I3 => wpAny_release ⟨σ, _, I3, q⟩))))
theorem wFldG {X : Cx} (K : PySem.W.Frag) (hK : X.K = K) {o : Expr} {to : TE} {f : Str} {pos : Pos} (ho : PE X o to) : PG X (.Attribute o f pos) (gFld K to f) := hK ▸ pg_fld ho
section
variable {K : KB} {ρ : Rho} {M : Ms} {R : Rho → Ms → Prop} {to ta te : TE} {tk t : TA} {d : DV} {f : Str}
theorem bd_fld (h : EvR K to ρ M fun o M1 => PutR K f d o M1 (R ρ)) : BdG K (gFld K to f) ρ M d R := fun N F σ H v Q S r q =>
  h N F σ H S _ fun u o M2 F2 H2 e2 ⟨i, a, C, fs, ho, hi, c, n, hl, k⟩ w2 r2 => by
    subst ho
    cases r2.raw_of
    obtain ⟨_, dx, gs, hg, hf⟩ := w2.ce a _ (List.mem_append_right N (List.mem_of_getElem? hi))
    refine ⟨a, C, dx, gs, rfl, hg, c, n, by rw [hf.length]; exact hl, ?_⟩
    have hp : ∀ {gs : List (Str × V)} {fs : List (Str × DV)}, RpF K F2 gs fs → RpF K F2 (putF f v gs) (putD f d fs) := by
      intro gs fs hf
      induction fs generalizing gs with
      | nil => cases hf; exact .cons (r.mono e2) .nil
      | cons q fs ih =>
        cases hf with
        | cons hq ht =>
          unfold putF putD
          split
          · exact .cons (r.mono e2) ht
          · exact .cons hq (ih ht)
    have w3 := w2.put (i := N.length + i) (by rw [List.getElem?_append_right (Nat.le_add_right _ _), Nat.add_sub_cancel_left]; exact hi) (mo' := .ins C (putD f d fs)) (o := .ins C dx (putF f v gs)) ⟨dx, _, upd_same, hp hf⟩
    rw [List.set_append_right _ _ (Nat.le_add_right _ _), Nat.add_sub_cancel_left] at w3
    exact q _ F2 _ _ _ e2 k ⟨w3, S.e.mono e2, S.bm e2⟩
end
/-! stars in displays -/
theorem wStar {X : Cx} (K : PySem.W.Frag) (hK : X.K = K) {e : Expr} {es : List Expr} {p : Pos} {te : TE} {t : TA} (he : PE X e te) (hr : PA X es t) (hs : starEach (.Starred e p :: es) X.env = (true, eval e X.env) :: starEach es X.env := by rfl) : PA X (.Starred e p :: es) (StX.tStar K te t) := hK ▸ StX.pa_star he hr hs
section
variable {K : KB} {ρ : Rho} {M : Ms} {te : TE} {t : TA}
def StarR (K : KB) (t : TA) (ρ : Rho) (RA : List DV → Ms → Prop) (d : DV) (M : Ms) : Prop := ∃ xs, (d = .tup xs ∨ d = .lst xs) ∧ EvAR K t ρ M fun ys M2 => RA (xs ++ ys) M2
theorem ear_star {RA : List DV → Ms → Prop} (h : EvR K te ρ M (StarR K t ρ RA)) : EvAR K (StX.tStar K te t) ρ M RA := fun N F σ H S Q q =>
  h N F σ H S _ fun v d M1 F1 H1 e1 ⟨xs, hd, h1⟩ w1 r1 => by
    rcases hd with hd | hd
    · subst hd
      obtain ⟨a, vs, rfl, ha, hr⟩ := r1.tup_of
      refine ⟨a, vs, rfl, .inl (Evl.ex_t w1.fr ha), h1 N F1 σ H1 ⟨w1, S.e.mono e1, S.bm e1⟩ _ fun us ys M2 F2 H2 e2 h2 w2 r2 => q _ _ M2 F2 H2 (e1.trans e2) h2 w2 ((hr.mono e2).append r2)⟩
    · subst hd
      obtain ⟨a, vs, rfl, ha, hr⟩ := r1.lst_of
      refine ⟨a, vs, rfl, .inr (SqL.of (w1.fr _ _ ha)), h1 N F1 σ H1 ⟨w1, S.e.mono e1, S.bm e1⟩ _ fun us ys M2 F2 H2 e2 h2 w2 r2 => q _ _ M2 F2 H2 (e1.trans e2) h2 w2 ((hr.mono e2).append r2)⟩
theorem StarR.tup {RA : List DV → Ms → Prop} {xs : List DV} (h : EvAR K t ρ M fun ys M2 => RA (xs ++ ys) M2) : StarR K t ρ RA (.tup xs) M := ⟨xs, .inl rfl, h⟩
end
/-! methods by keyword -/
section
variable {X : Cx} {CX : CXT} {k : Nat} {C fa : Addr} {fd : FuncData} {ps ks : List Str} {sp : Sp} {E : XK} {m : Str} {o : Expr} {apos pos : Pos} {kws : List Keyword} {ta : TE} {tk : TA} {g : List Value → List Value → List Value} {gV : List V → List V → List V}
def tMethK (C : Addr) (m : Str) (sp : Sp) (gV : List V → List V → List V) (E : XK) (ta : TE) (tk : TA) : TE := fun σ H Q => ta σ H fun x H1 => ∃ a dx fs, x = .ref a ∧ H1 a = some (.ins C dx fs) ∧ fs.lookup m = none ∧ tk σ H1 fun zs H2 => sp (gV [.ref a] zs) H2 Q E
/-- o.m(k = v, ..) -/
theorem pe_methK {pl : Sem Bool} (he : PE X o ta) (c : Cls X.K C) (hm : Meth X.K C m fa) (F : FnOk X.prog X.w X.K X.mg X.base CX k fa fd ps sp) (hr : Room k X.A) (hb : KBinds X.K fd ps ks g gV) (hx : Passes CX X E) (hkw : PK X kws tk)
    (hall : (backToKw pos (keywordEach kws X.env)).all (·.1.isSome) = true := by rfl) (hks : (backToKw pos (keywordEach kws X.env)).filterMap (·.1) = ks := by rfl)
    (hpl : ((backTo pos (starEach [] X.env)).any (·.1) || (backToKw pos (keywordEach kws X.env)).any (·.1.isNone)) = false := by rfl)
    (ht : eval (.Call (.Attribute o m apos) [] kws pos) X.env = (do
      let ov ← eval o X.env
      standAt apos.atName
      let (f, first) ← holding [ov] (getMethod ov m pl)
      callWith pos f first (backTo pos (starEach [] X.env)) (backToKw pos (keywordEach kws X.env))) := by rfl) :
    PE X (.Call (.Attribute o m apos) [] kws pos) (tMethK C m sp gV E ta tk) := by
  refine ⟨fun pins s σ H Q I h => ?_⟩
  refine PySem.W.methodCall_KW (pl := pl) (thn (he.run pins s σ H _ I h) fun u s1 ⟨x, H1, I1, rx, a, dx, fs, ex, ea, l, q⟩ => ?_) ht
  subst ex
  obtain rfl : u = Value.ref a := rx
  refine getmeth_ok I1 ea c hm l ?_
  refine PySem.W.callWith_KW0 (first := [.ref a]) (h₀ := X.base) I.ok.mod.kin hm.kp hall (thn (hkw.run pos pins s1 σ H1 _ I1 q) fun ws s2 ⟨zs, H2, I2, rz, q2⟩ => ⟨I2.kIn, ?_⟩) hpl
  rw [hks]
  exact run_fnk (us := [.ref a]) (vs := [.ref a]) F hr hb hx I2 (.cons rfl .nil) rz q2
end
section
variable {K : PySem.W.Frag} {KK : KB} {E E' : XK} {RE : RER} {ρ : Rho} {M : Ms} {ta : TE} {tk : TA} {S : SpecX} {SD : SpecD} {R : DV → Ms → Prop} {n : Nat} {perm : List Nat}
/-- o.m(k = v, ..), o owned -/
def MethK (K : KB) (C : Addr) (m : Str) (n : Nat) (perm : List Nat) (S : SpecX) (t : TA) (ρ : Rho) (x : DV) (M : Ms) (R : DV → Ms → Prop) (RE : RER) : Prop :=
  ∃ a fs, x = .raw (.ref a) ∧ (a, MO.ins C fs) ∈ M ∧ fs.lookup m = none ∧ EvAR K t ρ M fun es M2 => S (gpick 1 n perm [.raw (.ref a)] es) M2 R RE
theorem MethK.own {C a : Addr} {m : Str} {fs : List (Str × DV)} (hm : (a, MO.ins C fs) ∈ M) (hl : fs.lookup m = none) (k : EvAR KK tk ρ M fun es M2 => S (gpick 1 n perm [.raw (.ref a)] es) M2 R RE) : MethK KK C m n perm S tk ρ (.raw (.ref a)) M R RE := ⟨_, _, rfl, hm, hl, k⟩
theorem methK_core {C : Addr} {m : Str} {RE : RER} (hb : ∀ N F, KK.B N F → Wish KK.fr E' RE N F) (h : EvR KK ta ρ M fun x M1 => MethK KK C m n perm S tk ρ x M1 R RE) : EvR KK (tMethK C m (spX KK.fr S) (gpick 1 n perm) E' ta tk) ρ M R := fun N F σ H Z Q q =>
  h N F σ H Z _ fun v x M1 F1 H1 e1 ⟨a, fs, hx, hm, hl, h1⟩ w1 r1 => by
    subst hx
    cases r1.raw_of
    obtain ⟨_, dx, gs, ha, hf⟩ := w1.ce a _ (List.mem_append_right N hm)
    refine ⟨a, dx, gs, rfl, ha, hf.lookup_none hl, ?_⟩
    refine h1 N F1 σ H1 ⟨w1, Z.e.mono e1, Z.bm e1⟩ _ fun zs es M2 F2 H2 e2 h2 w2 r2 => ?_
    exact ⟨F2, N, M2, _, R, RE, w2, gpick_rpa (.cons (.raw _) .nil) r2, h2, fun v d M3 F3 H3 e3 hr w3 r3 => q v d M3 F3 H3 ((e1.trans e2).trans e3) hr w3 r3, hb _ _ (Z.bm (e1.trans e2))⟩
theorem w_methKX {C : Addr} {m : Str} (h : EvR (KX K E RE) ta ρ M fun x M1 => MethK (KX K E RE) C m n perm S tk ρ x M1 R RE) : EvR (KX K E RE) (tMethK C m (spX K S) (gpick 1 n perm) E ta tk) ρ M R := methK_core (KK := KX K E RE) (fun _ _ b => b) h
theorem w_methKX0 {C : Addr} {m : Str} (h : EvR KK ta ρ M fun x M1 => MethK KK C m n perm S tk ρ x M1 R noX) : EvR KK (tMethK C m (spX KK.fr S) (gpick 1 n perm) E' ta tk) ρ M R := methK_core (fun _ _ _ => wish_no) h
/-! own len, bool, repr of what is owned -/
theorem rc_lenC2 {a C : Addr} {fs : List (Str × DV)} (hm : (a, MO.ins C fs) ∈ M) (h : SD [.raw (.ref a)] M (LenK R)) : RCR K (EX.rLenO C (spD K SD) E) [.raw (.ref a)] M R := fun N F us H w hr Q k => by
  obtain ⟨u, rfl, r1⟩ := rpa1 hr
  cases r1.raw_of
  obtain ⟨_, dx, gs, ha, hf⟩ := w.ce a _ (List.mem_append_right N hm)
  refine ⟨a, dx, gs, rfl, ha, F, N, M, _, _, w, .cons (.raw _) .nil, h, fun v d M' F' H' e1 ⟨i, hd, i0, i1, hR⟩ w1 r2 => ?_⟩
  subst hd
  exact ⟨i, r2.int_of, i0, i1, k v _ M' F' H' e1 hR w1 r2⟩
theorem rc_boolC {a C : Addr} {fs : List (Str × DV)} (hm : (a, MO.ins C fs) ∈ M) (h : SD [.raw (.ref a)] M (BoolK R)) : RCR K (EX.rBoolO C (spD K SD) E) [.raw (.ref a)] M R := fun N F us H w hr Q k => by
  obtain ⟨u, rfl, r1⟩ := rpa1 hr
  cases r1.raw_of
  obtain ⟨_, dx, gs, ha, hf⟩ := w.ce a _ (List.mem_append_right N hm)
  refine ⟨a, dx, gs, rfl, ha, F, N, M, _, _, w, .cons (.raw _) .nil, h, fun v d M' F' H' e1 ⟨i, hd, i0, i1, hR⟩ w1 r2 => ?_⟩
  subst hd
  exact ⟨i, r2.int_of, i0, i1, k _ _ M' F' H' e1 hR w1 (.bl _)⟩
theorem rc_reprC {a C : Addr} {fs : List (Str × DV)} (hm : (a, MO.ins C fs) ∈ M) (h : SD [.raw (.ref a)] M (ReprK R)) : RCR K (EX.rReprO C (spD K SD) E) [.raw (.ref a)] M R := fun N F us H w hr Q k => by
  obtain ⟨u, rfl, r1⟩ := rpa1 hr
  cases r1.raw_of
  obtain ⟨_, dx, gs, ha, hf⟩ := w.ce a _ (List.mem_append_right N hm)
  refine ⟨a, dx, gs, rfl, ha, F, N, M, _, _, w, .cons (.raw _) .nil, h, fun v d M' F' H' e1 ⟨t, hd, hR⟩ w1 r2 => ?_⟩
  subst hd
  exact ⟨t, r2.str_of, k v _ M' F' H' e1 hR w1 r2⟩
end
/-! isinstance of known errors: also classes that they are not of -/
theorem _root_.EX.kit_refF {K : PySem.W.Frag} {C D : Addr} (s : EX.Bs K D) (mc : PySem.W.mroIn K C (.ref C) = some true) (m : PySem.W.mroIn K C (.ref D) = some false) : PySem.W.kitOne K (.ref C) (.ref D) = some false := by
  unfold PySem.W.kitOne
  rw [if_neg fun h => by
    have e : C = D := Value.ref.inj (beq_iff_eq.mp h)
    subst e
    rw [mc] at m; cases m]
  exact EX.kcl_ref s m
/-! small ones -/
section
variable {K : PySem.W.Frag} {M : Ms}
theorem rc_intB {b : Bool} : RC K rInt1 [.bl b] M (.int (if b then 1 else 0)) := fun N F us H w hr Q k => by
  obtain ⟨u, rfl, r1⟩ := rpa1 hr
  cases r1.bl_of
  exact .inr ⟨b, rfl, k _ _ M F H (Evl.Ex.refl F) ⟨rfl, rfl⟩ w (.int _)⟩
theorem rv_isBl {c d : Bool} : RV K L2.rIsB (.bl c) (.bl d) M (.bl (decide (c = d))) := fun N F u v H w h1 h2 Q k => ⟨c, d, h1.bl_of, h2.bl_of, k _ _ M F H (Evl.Ex.refl F) ⟨rfl, rfl⟩ w (.bl _)⟩
/-- range(a, b, -1) -/
theorem w_forDown {K : KB} {ta : TA} {ρ : Rho} {M : Ms} {tb : TS} {P : Post} {k : Nat} (hi lo : Int) (n : Nat) (hn : hi - lo = n ∨ (hi < lo ∧ n = 0)) (hb : -1000000 ≤ lo ∧ lo ≤ 1000000 ∧ -1000000 ≤ hi ∧ hi ≤ 1000000) (hI : EvAR K ta ρ M fun ds M' => ds = [.int hi, .int lo, .int (-1)] ∧ M' = M) (inv : Nat → Rho → Ms → Prop) (h0 : inv 0 ρ M)
    (hs : ∀ i ρ' M', i < n → inv i ρ' M' → XS K tb (ρ'.set k (some (.int (hi - i)))) M' { P with nx := inv (i + 1), ct := inv (i + 1), bk := P.nx })
    (hd : ∀ ρ' M', inv n ρ' M' → P.nx ρ' M') : XS K (tFor (iRng3 ta) (gName k) tb) ρ M P := by
  refine xs_for (n := n) (y := fun i => .int (hi - i)) (G := []) (RM := fun M' => M' = M) ?_ inv (fun M' e => by rw [e]; exact h0) (fun _ _ _ _ _ c hc => nomatch hc) (fun i ρ' M' h1 h2 => bd_name (hs i ρ' M' h1 h2)) hd
  intro N F σ H S Q q
  refine hI N F σ H S _ fun vs ds M1 F1 H1 e1 ⟨hd', hr⟩ w1 r1 => ?_
  subst hd'
  cases r1 with
  | cons h1 t => cases t with
    | cons h2 t => cases t with
      | cons h3 t =>
        cases t
        cases h1.int_of; cases h2.int_of; cases h3.int_of
        refine ⟨hi, lo, -1, n, rfl, ?_, q _ M1 F1 H1 e1 hr w1 ⟨fun i _ _ _ h _ _ _ => h, fun _ _ _ _ _ _ => Nat.le_refl _, fun i F2 M2 H2 x H3 hi' _ w2 _ hy => ?_⟩⟩
        · have := RgC.neg (i := hi) (j := lo) (by omega) (by omega) (by omega) (by omega)
          rw [show (hi - lo).toNat = n by omega] at this
          exact this
        · obtain ⟨rfl, rfl⟩ := hy
          refine ⟨F2, Evl.Ex.refl _, w2, ?_⟩
          rw [show hi + ((i : Nat) : Int) * -1 = hi - (i : Int) by omega]
          exact .int _
end
/-! ### dicts with keys that are tuples -/
section
variable {κ : Type} [DecidableEq κ]
def valD (kvs : List (κ × DV)) (k : κ) : Option DV := (kvs.find? fun kv => decide (kv.1 = k)).map (·.2)
def putKD (kvs : List (κ × DV)) (k : κ) (v : DV) : List (κ × DV) := if (kvs.any fun kv => decide (kv.1 = k)) = true then kvs.map (fun kv => if kv.1 = k then (kv.1, v) else kv) else kvs ++ [(k, v)]
theorem valD_nil {k : κ} : valD ([] : List (κ × DV)) k = none := rfl
theorem valD_pos {p : κ × DV} {r : List (κ × DV)} {k : κ} (e : p.1 = k) : valD (p :: r) k = some p.2 := by simp [valD, List.find?_cons, e]
theorem valD_neg {p : κ × DV} {r : List (κ × DV)} {k : κ} (e : ¬ p.1 = k) : valD (p :: r) k = valD r k := by simp [valD, List.find?_cons, e]
theorem valD_any (k : κ) : ∀ kvs : List (κ × DV), (kvs.any fun kv => decide (kv.1 = k)) = (valD kvs k).isSome
  | [] => rfl
  | p :: r => by
    rw [List.any_cons]
    by_cases e : p.1 = k
    · simp only [valD_pos e, decide_eq_true e, Bool.true_or, Option.isSome_some]
    · rw [valD_neg e, decide_eq_false e, Bool.false_or]; exact valD_any k r
theorem valD_map (k j : κ) (y : DV) : ∀ kvs : List (κ × DV), valD (kvs.map fun kv => if kv.1 = k then (kv.1, y) else kv) j = (valD kvs j).map fun x => if j = k then y else x
  | [] => rfl
  | p :: r => by
    have ih := valD_map k j y r
    rw [List.map_cons]
    by_cases h : p.1 = k
    · rw [if_pos h]
      by_cases e : p.1 = j
      · rw [valD_pos (p := (p.1, y)) e, valD_pos e, Option.map_some, if_pos (e.symm.trans h)]
      · rw [valD_neg (p := (p.1, y)) e, valD_neg e, ih]
    · rw [if_neg h]
      by_cases e : p.1 = j
      · rw [valD_pos (p := p) e, valD_pos e, Option.map_some, if_neg (fun z => h (e.trans z))]
      · rw [valD_neg (p := p) e, valD_neg e, ih]
theorem valD_snoc (k j : κ) (y : DV) : ∀ kvs : List (κ × DV), valD kvs k = none → valD (kvs ++ [(k, y)]) j = if j = k then some y else valD kvs j
  | [], _ => by
    by_cases e : k = j
    · rw [if_pos e.symm]; exact valD_pos (p := (k, y)) e
    · rw [if_neg (fun z => e z.symm)]; exact valD_neg (p := (k, y)) e
  | p :: r, hn => by
    rw [List.cons_append]
    have hk : ¬ p.1 = k := fun z => by rw [valD_pos z] at hn; cases hn
    rw [valD_neg hk] at hn
    have ih := valD_snoc k j y r hn
    by_cases e : p.1 = j
    · rw [valD_pos e, valD_pos e, if_neg (fun z => hk (e.trans z))]
    · rw [valD_neg e, valD_neg e, ih]
theorem valD_put (kvs : List (κ × DV)) (k j : κ) (y : DV) : valD (putKD kvs k y) j = if j = k then some y else valD kvs j := by
  unfold putKD
  by_cases a : (kvs.any fun kv => decide (kv.1 = k)) = true
  · rw [if_pos a, valD_map]
    rw [valD_any] at a
    by_cases e : j = k
    · obtain ⟨x, hx⟩ := Option.isSome_iff_exists.mp a
      rw [if_pos e, e, hx, Option.map_some, if_pos rfl]
    · rw [if_neg e]
      cases valD kvs j with
      | none => rfl
      | some x => rw [Option.map_some, if_neg e]
  · rw [if_neg a]
    refine valD_snoc k j y kvs ?_
    rw [valD_any] at a
    cases q : valD kvs k with
    | none => rfl
    | some x => rw [q] at a; exact (a rfl).elim
theorem length_putKD (kvs : List (κ × DV)) (k : κ) (v : DV) : (putKD kvs k v).length ≤ kvs.length + 1 := by
  unfold putKD
  split
  · rw [List.length_map]; omega
  · rw [List.length_append, List.length_cons, List.length_nil]; omega
variable {K : PySem.W.Frag} {F : Hp}
theorem RpK.length : ∀ {ws : List (κ × V)} {kvs : List (κ × DV)}, RpK K F ws kvs → ws.length = kvs.length
  | _, _, .nil => rfl
  | _, _, .cons _ t => by simp [RpK.length t]
theorem RpK.any {k : κ} : ∀ {ws : List (κ × V)} {kvs : List (κ × DV)}, RpK K F ws kvs → (ws.any fun kv => decide (kv.1 = k)) = kvs.any fun kv => decide (kv.1 = k)
  | _, _, .nil => rfl
  | _, _, .cons _ t => by rw [List.any_cons, List.any_cons, RpK.any t]
theorem RpK.snoc {k : κ} {v : V} {d : DV} (r : Rp K F v d) : ∀ {ws : List (κ × V)} {kvs : List (κ × DV)}, RpK K F ws kvs → RpK K F (ws ++ [(k, v)]) (kvs ++ [(k, d)])
  | _, _, .nil => .cons r .nil
  | _, _, .cons h t => .cons h (RpK.snoc r t)
theorem RpK.repl {k : κ} {v : V} {d : DV} (r : Rp K F v d) : ∀ {ws : List (κ × V)} {kvs : List (κ × DV)}, RpK K F ws kvs → RpK K F (ws.map fun kv => if kv.1 = k then (kv.1, v) else kv) (kvs.map fun kv => if kv.1 = k then (kv.1, d) else kv)
  | _, _, .nil => .nil
  | _, _, .cons (k := j) h t => by
    rw [List.map_cons, List.map_cons]
    by_cases e : j = k
    · rw [if_pos e, if_pos e]; exact .cons r (RpK.repl r t)
    · rw [if_neg e, if_neg e]; exact .cons h (RpK.repl r t)
theorem RpK.put {k : κ} {v : V} {d : DV} (r : Rp K F v d) {ws : List (κ × V)} {kvs : List (κ × DV)} (h : RpK K F ws kvs) : RpK K F (putK ws k v) (putKD kvs k d) := by
  unfold putK putKD
  rw [h.any]
  split
  · exact h.repl r
  · exact h.snoc r
theorem RpK.val {k : κ} {d : DV} : ∀ {ws : List (κ × V)} {kvs : List (κ × DV)}, RpK K F ws kvs → valD kvs k = some d → ∃ v, valV ws k = some v ∧ Rp K F v d
  | _, _, .nil, e => by cases e
  | _, _, .cons (k := j) (v := w) (d := x) h t, e => by
    by_cases q : j = k
    · rw [valD_pos q] at e; cases e
      exact ⟨_, valV_pos q, h⟩
    · rw [valD_neg q] at e
      obtain ⟨v, h1, h2⟩ := RpK.val t e
      exact ⟨v, by rw [valV_neg q]; exact h1, h2⟩
theorem RpK.val_none {k : κ} : ∀ {ws : List (κ × V)} {kvs : List (κ × DV)}, RpK K F ws kvs → valD kvs k = none → valV ws k = none
  | _, _, .nil, _ => rfl
  | _, _, .cons (k := j) h t, e => by
    by_cases q : j = k
    · rw [valD_pos q] at e; cases e
    · rw [valD_neg q] at e
      rw [valV_neg q]
      exact RpK.val_none t e
end
/-- data as keys -/
def keyD : DV → Option Key
  | .int i => some (.inl i)
  | .str s => some (.inr s)
  | _ => none
def keysD : List DV → Option (List Key)
  | [] => some []
  | d :: ds => match keyD d, keysD ds with
    | some k, some ks => some (k :: ks)
    | _, _ => none
theorem keyD_rp {K : PySem.W.Frag} {F : Hp} {v : V} {d : DV} {k : Key} (r : Rp K F v d) (h : keyD d = some k) : v = kV k := by
  cases d <;> first | cases h | skip
  · rw [r.int_of]; rfl
  · rw [r.str_of]; rfl
theorem keysD_rp {K : PySem.W.Frag} {F : Hp} : ∀ {vs : List V} {ds : List DV} {ks : List Key}, RpA K F vs ds → keysD ds = some ks → vs = ks.map kV
  | _, [], _, .nil, h => by cases h; rfl
  | _, d :: ds, ks, .cons r t, h => by
    show _ = _
    unfold keysD at h
    cases e1 : keyD d with
    | none => rw [e1] at h; cases h
    | some k =>
      cases e2 : keysD ds with
      | none => rw [e1, e2] at h; cases h
      | some ks' =>
        rw [e1, e2] at h; cases h
        rw [keyD_rp r e1, keysD_rp t e2]; rfl
theorem keysD_ints : ∀ is : List Int, keysD (is.map .int) = some (is.map .inl)
  | [] => rfl
  | i :: is => by
    show (match keyD (.int i), keysD (is.map .int) with | some k, some ks => some (k :: ks) | _, _ => none) = _
    rw [keysD_ints is]; rfl
section
variable {K : KB} {ρ : Rho} {M : Ms} {td tv te : TE} {ta : TA} {R : DV → Ms → Prop} {P : Post}
theorem evr_dnewT (h : ∀ p, R (.raw (.ref p)) ((p, .dT []) :: M)) : EvR K tDNewT ρ M R := fun N F σ H S Q q p hp =>
  q _ _ _ F _ (Evl.Ex.refl F) (h p) ((S.w.cell (mo := .dT []) hp ⟨[], upd_same, .nil⟩).perm List.perm_middle) (.raw _)
theorem evr_dnewK (h : ∀ p, R (.raw (.ref p)) ((p, .dK []) :: M)) : EvR K tDNewK ρ M R := fun N F σ H S Q q p hp =>
  q _ _ _ F _ (Evl.Ex.refl F) (h p) ((S.w.cell (mo := .dK []) hp ⟨[], upd_same, .nil⟩).perm List.perm_middle) (.raw _)
def DPutT (ks : List DV) (v d : DV) (M : Ms) (k : Ms → Prop) : Prop := ∃ (i : Nat) (a : Addr) (kvs : List (List Key × DV)) (key : List Key), d = .raw (.ref a) ∧ ks.length ≤ 1000 ∧ M[i]? = some (a, MO.dT kvs) ∧ keysD ks = some key ∧ kvs.length < 1000 ∧ k (M.set i (a, .dT (putKD kvs key v)))
/-- d[(.., ..)] = v -/
theorem xs_dputT (h : EvR K tv ρ M fun v M1 => EvR K td ρ M1 fun d M2 => EvAR K ta ρ M2 fun ks M3 => DPutT ks v d M3 (P.nx ρ)) : XS K (sDPut td (tTup ta) tv) ρ M P := fun N F σ H D S e =>
  h N F σ H S _ fun v dv M1 F1 H1 e1 h1 w1 r1 => h1 N F1 σ H1 ⟨w1, S.e.mono e1, S.bm e1⟩ _ fun u d M2 F2 H2 e2 h2 w2 r2 =>
    h2 N F2 σ H2 ⟨w2, S.e.mono (e1.trans e2), S.bm (e1.trans e2)⟩ _ fun us ks M3 F3 H3 e3 ⟨i, a, kvs, key, hd, hl, hi, hk, hn, hq⟩ w3 r3 => by
      subst hd
      cases r2.raw_of
      have hus : us.length ≤ 1000 := by rw [r3.length]; exact hl
      refine ⟨by rw [sizeLine_eq]; omega, fun p hp => ?_⟩
      have hpF := w3.fresh hp
      have ex := ex_new (o := .tup us) hpF
      have w4 := w3.new hp (.tup us)
      have hi' : (N ++ M3)[N.length + i]? = some (a, MO.dT kvs) := by rw [List.getElem?_append_right (Nat.le_add_right _ _), Nat.add_sub_cancel_left]; exact hi
      obtain ⟨_, ws, ha, hr⟩ := w4.ce a _ (List.mem_of_getElem? hi')
      refine ⟨a, _, rfl, .inr ⟨ws, key, p, ha, rfl, ?_, ?_, rfl⟩, ?_⟩
      · rw [upd_same, keysD_rp r3 hk]
      · rw [hr.length, sizeLine_eq]; omega
      · have w5 := w4.put hi' (mo' := .dT (putKD kvs key dv)) (o := .dT (putK ws key v)) ⟨_, upd_same, hr.put ((r1.mono (e2.trans e3)).mono ex)⟩
        rw [List.set_append_right _ _ (Nat.le_add_right _ _), Nat.add_sub_cancel_left] at w5
        exact e.nx _ _ _ _ _ (((e1.trans e2).trans e3).trans ex) hq ⟨w5, S.e.mono (((e1.trans e2).trans e3).trans ex), S.bm (((e1.trans e2).trans e3).trans ex)⟩
def DGetT (ks : List DV) (d : DV) (M : Ms) (R : DV → Ms → Prop) : Prop := ∃ (a : Addr) (kvs : List (List Key × DV)) (key : List Key) (x : DV), d = .raw (.ref a) ∧ ks.length ≤ 1000 ∧ (a, MO.dT kvs) ∈ M ∧ keysD ks = some key ∧ valD kvs key = some x ∧ R x M
/-- d[(.., ..)] -/
theorem evr_dgetT (h : EvR K td ρ M fun d M1 => EvAR K ta ρ M1 fun ks M2 => DGetT ks d M2 R) : EvR K (tDGet td (tTup ta)) ρ M R := fun N F σ H S Q q =>
  h N F σ H S _ fun u d M1 F1 H1 e1 h1 w1 r1 => h1 N F1 σ H1 ⟨w1, S.e.mono e1, S.bm e1⟩ _ fun us ks M2 F2 H2 e2 ⟨a, kvs, key, x, hd, hl, hm, hk, hv, hR⟩ w2 r2 => by
    subst hd
    cases r1.raw_of
    have hus : us.length ≤ 1000 := by rw [r2.length]; exact hl
    refine ⟨by rw [sizeLine_eq]; omega, fun p hp => ?_⟩
    have hpF := w2.fresh hp
    have ex := ex_new (o := .tup us) hpF
    have w3 := w2.new hp (.tup us)
    obtain ⟨_, ws, ha, hr⟩ := w3.ce a _ (List.mem_append_right N hm)
    obtain ⟨v, hv1, hv2⟩ := hr.val hv
    refine ⟨a, v, rfl, .inr ⟨ws, key, p, .inl ha, rfl, ?_, hv1.symm⟩, q v x M2 _ _ ((e1.trans e2).trans ex) hR w3 hv2⟩
    rw [upd_same, keysD_rp r2 hk]
end
/-! ### lists of truths: count, index -/
def rCntF (K : PySem.W.Frag) : V → List V → Hp → VK → Prop := fun x xs H Q => ∃ (p : Addr) (ys : List V) (y : V), x = .ref p ∧ xs = [y] ∧ SqL K H p ys ∧ flatV y = true ∧ ys.all flatV = true ∧ Q (.int (ys.countP (fun z => eqV z y) : Nat)) H
theorem countP_eqU {y : V} : ∀ {ys : List V} {us : List Value}, Vals ys us → ys.all flatV = true → us.countP (eqU y) = ys.countP fun z => eqV z y
  | _, _, .nil, _ => rfl
  | z :: ys, u :: us, .cons r t, f => by
    rw [List.all_cons, Bool.and_eq_true] at f
    rw [List.countP_cons, List.countP_cons, countP_eqU t f.2, eqU_of r f.1]
theorem mt_countF {X : Cx} : MtR X "list.count" (rCntF X.K) := by
  intro pins s σ H x xs v us Q I rx rxs h
  obtain ⟨p, ys, y, rfl, rfl, hs, fy, fys, q⟩ := h
  cases rx
  obtain ⟨u, rfl, ru⟩ := rxs.one
  obtain ⟨its, rv, ⟨⟨cls, dd, data, sl⟩, n, ho, hc, hdn, hd⟩, hlen⟩ := I.list hs
  simp only at hc hd
  subst hc hd
  refine call_meets PySem.F.slot_list_count ⟨_, ho, rfl⟩ PySem.F.entry_list_count (PySem.F.args_list_count_2 _ _)
    (SeqAt.list_countAt p its.toArray n dd sl u (eqU y)) ⟨ho, fun u' hu' => mem_eqAt ru fy rv fys u' (by simpa using hu'), ?_⟩
  have ec : its.toArray.toList.countP (eqU y) = ys.countP fun z => eqV z y := countP_eqU rv fys
  refine ⟨.int (ys.countP (fun z => eqV z y) : Nat), H, I.tok _, ⟨s.toks, ?_⟩, q⟩
  show Value.int ((its.toArray.toList.countP (eqU y) : Nat) : Int) s.toks = _
  rw [ec]
theorem wCntF {X : Cx} (K : PySem.W.Frag) (hK : X.K = K) : MtR X "list.count" (rCntF K) := hK ▸ mt_countF
theorem wIndexF {X : Cx} (K : PySem.W.Frag) (hK : X.K = K) : MtR X "list.index" (rIndex K) := hK ▸ mt_index
def asV : DV → Option V
  | .non => some .non
  | .bl b => some (.bl b)
  | .int i => some (.int i)
  | .str s => some (.str s)
  | _ => none
theorem asV_rp {K : PySem.W.Frag} {F : Hp} {u v : V} {d : DV} (h : asV d = some v) (r : Rp K F u d) : u = v ∧ flatV v = true := by
  cases d <;> first | cases h | skip
  · exact ⟨r.non_of, rfl⟩
  · exact ⟨r.bl_of, rfl⟩
  · exact ⟨r.int_of, rfl⟩
  · exact ⟨r.str_of, rfl⟩
def asVs : List DV → Option (List V)
  | [] => some []
  | d :: ds => match asV d, asVs ds with
    | some v, some vs => some (v :: vs)
    | _, _ => none
theorem asVs_rp {K : PySem.W.Frag} {F : Hp} : ∀ {us vs : List V} {ds : List DV}, asVs ds = some vs → RpA K F us ds → us = vs ∧ vs.all flatV = true
  | _, _, [], h, .nil => by cases h; exact ⟨rfl, rfl⟩
  | _, vs, d :: ds, h, .cons r t => by
    unfold asVs at h
    cases e1 : asV d with
    | none => rw [e1] at h; cases h
    | some v =>
      cases e2 : asVs ds with
      | none => rw [e1, e2] at h; cases h
      | some vs' =>
        rw [e1, e2] at h; cases h
        obtain ⟨a1, a2⟩ := asV_rp e1 r
        obtain ⟨b1, b2⟩ := asVs_rp e2 t
        exact ⟨by rw [a1, b1], by rw [List.all_cons, a2, b2]; rfl⟩
section
variable {K : KB} {ρ : Rho} {M : Ms} {R : DV → Ms → Prop} {to : TE} {ta : TA}
def CntE (vs : List V) (R : DV → Ms → Prop) (ds : List DV) (M : Ms) : Prop := ∃ d v, ds = [d] ∧ asV d = some v ∧ R (.int (vs.countP (fun z => eqV z v) : Nat)) M
def CntR (K : KB) (ta : TA) (ρ : Rho) (R : DV → Ms → Prop) (o : DV) (M : Ms) : Prop := ∃ xs vs, o = .lst xs ∧ asVs xs = some vs ∧ EvAR K ta ρ M (CntE vs R)
theorem w_countF (h : EvR K to ρ M (CntR K ta ρ R)) : EvR K (tBM K "list" (rCntF K) to ta) ρ M R := fun N F σ H S Q q => h N F σ H S _ fun v o M1 F1 H1 e1 ⟨xs, vs, ho, hv, h1⟩ w1 r1 => by
  subst ho
  obtain ⟨a, us, rfl, ha, ra⟩ := id r1.lst_of
  obtain ⟨hu, hf⟩ := asVs_rp hv ra
  subst hu
  refine ⟨ty_list (F := F1) (w1.fr _ _ ha), h1 N F1 σ H1 ⟨w1, S.e.mono e1, S.bm e1⟩ _ fun ws ds M2 F2 H2 e2 ⟨d, v, hd, hdv, hr⟩ w2 r2 => ?_⟩
  subst hd
  obtain ⟨u, rfl, ru⟩ := rpa1 r2
  obtain ⟨e3, hf2⟩ := asV_rp hdv ru
  subst e3
  exact ⟨a, us, u, rfl, rfl, SqL.of ((e2.trans w2.fr) _ _ ha), hf2, hf, q _ _ M2 F2 H2 (e1.trans e2) hr w2 (.int _)⟩
def IdxE (vs : List V) (R : DV → Ms → Prop) (ds : List DV) (M : Ms) : Prop := ∃ d v j, ds = [d] ∧ asV d = some v ∧ vs.findIdx? (fun z => eqV z v) = some j ∧ R (.int (j : Nat)) M
def IdxR (K : KB) (ta : TA) (ρ : Rho) (R : DV → Ms → Prop) (o : DV) (M : Ms) : Prop := ∃ xs vs, o = .lst xs ∧ asVs xs = some vs ∧ EvAR K ta ρ M (IdxE vs R)
theorem w_indexF (h : EvR K to ρ M (IdxR K ta ρ R)) : EvR K (tBM K "list" (rIndex K) to ta) ρ M R := fun N F σ H S Q q => h N F σ H S _ fun v o M1 F1 H1 e1 ⟨xs, vs, ho, hv, h1⟩ w1 r1 => by
  subst ho
  obtain ⟨a, us, rfl, ha, ra⟩ := id r1.lst_of
  obtain ⟨hu, hf⟩ := asVs_rp hv ra
  subst hu
  refine ⟨ty_list (F := F1) (w1.fr _ _ ha), h1 N F1 σ H1 ⟨w1, S.e.mono e1, S.bm e1⟩ _ fun ws ds M2 F2 H2 e2 ⟨d, v, j, hd, hdv, hj, hr⟩ w2 r2 => ?_⟩
  subst hd
  obtain ⟨u, rfl, ru⟩ := rpa1 r2
  obtain ⟨e3, hf2⟩ := asV_rp hdv ru
  subst e3
  obtain ⟨hl, h2, h3⟩ := List.findIdx?_eq_some_iff_getElem.mp hj
  refine ⟨a, us, u, j, us[j], rfl, rfl, SqL.of ((e2.trans w2.fr) _ _ ha), hf2, hf, List.getElem?_eq_getElem hl, h2, fun m z hm hz => ?_, q _ _ M2 F2 H2 (e1.trans e2) hr w2 (.int _)⟩
  obtain ⟨hml, e4⟩ := List.getElem?_eq_some_iff.mp hz
  rw [← e4]
  exact Bool.not_eq_true _ ▸ h3 m hm
theorem CntR.mk {xs : List DV} {vs : List V} (h : asVs xs = some vs) (k : EvAR K ta ρ M (CntE vs R)) : CntR K ta ρ R (.lst xs) M := ⟨xs, vs, rfl, h, k⟩
theorem CntE.mk {vs : List V} {d : DV} {v : V} (h : asV d = some v) (k : R (.int (vs.countP (fun z => eqV z v) : Nat)) M) : CntE vs R [d] M := ⟨d, v, rfl, h, k⟩
theorem IdxR.mk {xs : List DV} {vs : List V} (h : asVs xs = some vs) (k : EvAR K ta ρ M (IdxE vs R)) : IdxR K ta ρ R (.lst xs) M := ⟨xs, vs, rfl, h, k⟩
theorem IdxE.mk {vs : List V} {d : DV} {v : V} {j : Nat} (h : asV d = some v) (hj : vs.findIdx? (fun z => eqV z v) = some j) (k : R (.int (j : Nat)) M) : IdxE vs R [d] M := ⟨d, v, j, rfl, h, hj, k⟩
end
theorem ms_set {i : Nat} {M : Ms} {c x : Addr × MO} (h : M[i]? = some c) : (M.set i x)[i]? = some x := List.getElem?_set_self (List.getElem?_eq_some_iff.mp h).1
theorem ms_set2 {i : Nat} {M : Ms} {x y : Addr × MO} : (M.set i x).set i y = M.set i y := List.set_set ..
theorem ms_back {i : Nat} {M : Ms} {c : Addr × MO} (h : M[i]? = some c) : M.set i c = M := by
  refine List.ext_getElem? fun j => ?_
  rw [List.getElem?_set]
  split
  · rename_i e; subst e; rw [if_pos (List.getElem?_eq_some_iff.mp h).1, h]
  · rfl
end DD
namespace DD
open PySem PySem.Spec PyProof.Rows L2
theorem wEqH {X : Cx} (K : PySem.W.Frag) (hK : X.K = K) {k : Nat} (hr : L2H.RoomH k X.A) : OpR X (compareOp .Eq) (rEqU K) := hK ▸ OpR.or op_eq (op_eqD (by have := hr.un; omega))
theorem wNeH {X : Cx} (K : PySem.W.Frag) (hK : X.K = K) {k : Nat} (hr : L2H.RoomH k X.A) : OpR X (compareOp .NotEq) (rNeU K) := hK ▸ OpR.or op_ne (op_neD (by have := hr.un; omega))
end DD

set_option Elab.async false
set_option linter.all false
set_option maxRecDepth 100000
set_option maxHeartbeats 4000000
/-! ### more of pots: range(a, b, -1) with a drawn end -/
namespace DD
open PySem PySem.Spec PyProof.Rows L2
section
variable {K : KB} {ρ : Rho} {M : Ms} {R : DV → Ms → Prop} {to : TE} {ta : TA}
theorem asVs_ints : ∀ {ns : List Int}, asVs (ns.map DV.int) = some (ns.map V.int)
  | [] => rfl
  | n :: ns => by
    show asVs (DV.int n :: ns.map DV.int) = _
    unfold asVs
    rw [asVs_ints]; rfl
theorem countP_ints {ns : List Int} {k : Int} : (ns.map V.int).countP (fun z => eqV z (.int k)) = ns.countP fun n => decide (n = k) := by
  rw [List.countP_map]
  rfl
theorem w_forDownX {tb : TS} {P : Post} {k : Nat} (h : EvAR K ta ρ M fun ds M' => ∃ (hi lo : Int) (n : Nat), ds = [.int hi, .int lo, .int (-1)] ∧ (hi - lo = n ∨ (hi < lo ∧ n = 0)) ∧ (-1000000 ≤ lo ∧ lo ≤ 1000000 ∧ -1000000 ≤ hi ∧ hi ≤ 1000000) ∧ ∃ inv : Nat → Rho → Ms → Prop, inv 0 ρ M' ∧
    (∀ i ρ' M', i < n → inv i ρ' M' → XS K tb (ρ'.set k (some (.int (hi - i)))) M' { P with nx := inv (i + 1), ct := inv (i + 1), bk := P.nx }) ∧ (∀ ρ' M', inv n ρ' M' → P.nx ρ' M')) : XS K (tFor (iRng3 ta) (gName k) tb) ρ M P := by
  refine xs_forX (Φ := fun n y G M' => ∃ (hi lo : Int), y = (fun i => .int (hi - (i : Nat))) ∧ G = [] ∧ ∃ inv : Nat → Rho → Ms → Prop, inv 0 ρ M' ∧ (∀ i ρ' M', i < n → inv i ρ' M' → XS K tb (ρ'.set k (some (.int (hi - i)))) M' { P with nx := inv (i + 1), ct := inv (i + 1), bk := P.nx }) ∧ (∀ ρ' M', inv n ρ' M' → P.nx ρ' M')) ?_ fun n y G M' ⟨hi, lo, hy, hG, inv, h0, hs, hd⟩ => by
    subst hy hG
    exact ⟨inv, h0, fun _ _ _ _ _ => nil_sub, fun i ρ' M'' h1 hv => bd_name (hs i ρ' M'' h1 hv), hd⟩
  intro N F σ H S Q q
  refine h N F σ H S _ fun vs ds M1 F1 H1 e1 ⟨hi, lo, n, hd', hn, hb, hr⟩ w1 r1 => ?_
  subst hd'
  cases r1 with
  | cons h1 t => cases t with
    | cons h2 t => cases t with
      | cons h3 t =>
        cases t
        cases h1.int_of; cases h2.int_of; cases h3.int_of
        refine ⟨hi, lo, -1, n, rfl, ?_, q _ n _ _ M1 F1 H1 e1 ⟨hi, lo, rfl, rfl, hr⟩ w1 ⟨fun i _ _ _ h _ _ _ => h, fun _ _ _ _ _ _ => Nat.le_refl _, fun i F2 M2 H2 x H3 hi' _ w2 _ hy => ?_⟩⟩
        · have := RgC.neg (i := hi) (j := lo) (by omega) (by omega) (by omega) (by omega)
          rw [show (hi - lo).toNat = n by omega] at this
          exact this
        · obtain ⟨rfl, rfl⟩ := hy
          refine ⟨F2, Evl.Ex.refl _, w2, ?_⟩
          rw [show hi + ((i : Nat) : Int) * -1 = hi - (i : Int) by omega]
          exact .int _
end
end DD

set_option Elab.async false
set_option linter.all false
set_option maxRecDepth 100000
set_option maxHeartbeats 4000000
/-! ### with C(..): body, of an own class, both ways (an error goes on behind __exit__) -/
namespace EX
open PySem PySem.Spec PyProof.Rows L2 L2H
def wWith (spX : Sp) (a : Addr) (Wout : WX) : WX := fun cls d σ H => ∃ k : V, (∃ u, RelV k u ∧ u = cls) ∧ ∀ (e : Addr) (t : V), H e = none → spX [.ref a, k, .ref e, t] H (fun r H4 => r = .non ∧ Wout cls d σ H4) E0
def tWith (C : Addr) (spE spX : Sp) (te : TE) (tb : WX → TS) (Wout : WX) : TS := fun D σ H => te σ H fun x H1 => ∃ a dx fs, x = .ref a ∧ H1 a = some (.ins C dx fs) ∧
  spE [.ref a] H1 (fun _ H2 => tb (wWith spX a Wout) { nx := fun σ3 H3 => spX [.ref a, .non, .non, .non] H3 (fun _ H4 => D.nx σ3 H4) E0, rt := fun _ _ => False } σ H2) E0
section
variable {X : Cx} {k : Nat} {f : Addr} {fd : FuncData} {ps : List Str} {sp : Sp}
/-- a def that lets nothing out, called under a mark -/
theorem run_fnS {A : Around} {H : Hp} {s : Shared} {Q : VK} {us : List Value} {vs : List V} {R : Result → Shared → Prop} (F : FnS X.prog X.w X.K X.mg X.base k f fd ps sp) (hr : RoomH k A) (hb : Binds X.K fd ps []) (e0 : Env0 X.prog X.w X.K X.mg X.base A X.stack s H) (kin : X.K.In s.heap)
    (r : Vals vs us) (h : sp vs H Q E0) (q : ∀ u s', CE X.stack X.prog X.w H s Q u s' → R (.ok (.ret u)) s') : codeAny (model X.prog X.w) A (.call (.ref f) ⟨us, []⟩) R s := by
  have hl : us.length = ps.length := by rw [← r.length]; exact F.len _ _ _ _ h
  have b := hb s us kin (by rw [List.append_nil]; exact hl)
  rw [List.append_nil] at b
  refine codeAny_mono (F.run A X.stack s H ⟨us, []⟩ us vs Q E0 hr e0 b r h) fun r s' hq => ?_
  cases r with
  | error e => exact False.elim hq
  | ok fl =>
    cases fl with
    | ret u => exact q u s' hq
    | next => exact False.elim hq
    | brk => exact False.elim hq
    | cont => exact False.elim hq
end
section
variable {X : Cx} {ctx : Expr} {body : List Stmt} {te : TE} {tb : WX → TS} {Wout : WX} {C fe fx : Addr} {kE kX : Nat} {fdE fdX : FuncData} {psE psX : List Str} {spE spX : Sp} {pos : Pos}
/-- what comes behind the body's error -/
def WithExc (X : Cx) (pos : Pos) (a fx : Addr) (e : Value) : Sem Flow := do
  setFlight e none
  standAt pos
  holding [e] do
  let r ← withItem.marked e (.call (.ref fx) ⟨[.ref a] ++ [← typeOf e, e, ← tracebackOf e], []⟩)
  let r ← (pure r : Sem Value)
  let swallow ← match r with
    | .none => pure false
    | .bool b => pure b
    | _ => do pure ((← withItem.marked e (.call (.type "bool") ⟨[r], []⟩)) == .bool true)
  if swallow then rule "with.exit-swallows"; setFlight e none; pure .next else passOn "with" e X.env
theorem with_exc {pins : List (Addr × Obj)} {D : Ends} {a : Addr} {u : Value} {s' : Shared} (hs : X.stack = X.env :: X.outer) (hf : X.env.frame = some X.env.locals) (hex : X.ex = []) (ok : X.Ok) (tk : Takes X Wout)
    (FX : FnS X.prog X.w X.K X.mg X.base kX fx fdX psX spX) (rX : RoomH kX X.A) (bX : Binds X.K fdX psX [])
    (xx : XE (X.tr (X.pn ++ pins) (fun e s₁ => wpAny (model X.prog X.w) X.A (noteFrame e X.env) (fun _ s₂ => wpAny (model X.prog X.w) X.A (WithExc X pos a fx e) (SP X pins D) X.xe s₂) X.xe s₁)) (wWith spX a Wout) u s') :
    wpAny (model X.prog X.w) X.A (noteFrame u X.env) (fun _ s₂ => wpAny (model X.prog X.w) X.A (WithExc X pos a fx u) (SP X pins D) X.xe s₂) X.xe s' := by
  have hfr : X.A.frames = some (X.env :: X.outer) := by rw [ok.frames, hs]
  obtain ⟨a0, B, sI, pins', σ', H', cls, d, rfl, J', nb, up, sky, na, os, ag, hw⟩ := xx
  obtain ⟨k, ⟨uk, rk, ek⟩, hw⟩ := hw
  subst ek
  have J : _root_.L2.Inv X pins σ' H' sI := J'.ofTry ok
  have sky' : Sky B (X.env :: X.outer) a0 (Zc uk d) X.env.locals s'.heap := by rw [← hs]; exact sky
  have fin : ∀ h1, HandSPX.HeldZ B (X.env :: X.outer) a0 (Zc uk d) X.env.locals h1 → s'.heap.UpToSlots h1 → wpAny (model X.prog X.w) X.A (WithExc X pos a fx (.ref a0)) (SP X pins D) X.xe { s' with heap := h1 } := fun h1 hh1 up1 => by
    unfold WithExc
    refine wpAny_bind (HandSPX.landsZ hh1 fun h3 fl3 up3 => ?_)
    have J3 : _root_.L2.Inv X pins σ' H' { s' with heap := h3 } := J.landed nb fl3.1 ((up.trans up1).trans up3) os ag
    obtain ⟨k1, k2, k3, oe, vs, T, oT, ts, he3, hz, hd, hv1, hnT, hTe, hT, hdT, ht3⟩ := id fl3
    have nT : H' T = none := (J.inGround nb).gone hnT
    have notFr : ∀ (b : Addr) (o : Obj) (fv : Array Value), h3.get? b = some o → o.data = .fields fv → b ∉ frs (X.env :: X.outer) := fun b o fv e dd hm => by
      obtain ⟨_, o', e', hnf⟩ := k3.mem hm
      have eo : o = o' := Option.some.inj (e.symm.trans e')
      rw [← eo] at hnf
      exact hnf _ dd
    have locF : X.env.locals ∈ frs (X.env :: X.outer) := List.mem_filterMap.mpr ⟨X.env, List.mem_cons_self, hf⟩
    have fsF : ∀ b, b ∈ X.fs → b ∈ frs (X.env :: X.outer) := fun b hm => by
      obtain ⟨e, he, q⟩ := List.mem_filterMap.mp hm
      exact List.mem_filterMap.mpr ⟨e, List.mem_cons_of_mem _ he, q⟩
    have fa := notFr a0 oe vs he3 hd
    have fT := notFr T oT ts hT hdT
    have S3 : _root_.L2.Inv (X.suite a0 ((a0, oe) :: (T, oT) :: (X.pn ++ pins))) [] σ' H' { s' with heap := h3 } :=
      ⟨J3.ok.suite _ _, J3.os, J3.bare, J3.base, J3.loc, J3.cell, J3.free, J3.freeC, fun p hp => by
        rw [List.append_nil] at hp
        rcases List.mem_cons.mp hp with z | hp
        · rw [z]
          exact ⟨he3, na, fun z2 => fa (by rw [show a0 = X.env.locals from z2]; exact locF), fun z2 => fa (fsF _ z2), fun v z2 => by
            have z3 : oe.data = .cell v := z2
            rw [hd] at z3
            cases z3⟩
        · rcases List.mem_cons.mp hp with z | hp
          · rw [z]
            exact ⟨hT, nT, fun z2 => fT (by rw [show T = X.env.locals from z2]; exact locF), fun z2 => fT (fsF _ z2), fun v z2 => by
              have z3 : oT.data = .cell v := z2
              rw [hdT] at z3
              cases z3⟩
          · exact J3.pin p hp, J3.hok, J3.len⟩
    refine wpAny_bind (wpAny_standAt (wpAny_holding ?_))
    refine wpAny_bind (wpAny_typeOf_ref he3 ?_)
    rw [hz.1]
    -- the traceback
    obtain ⟨t1, ht1⟩ : ∃ t1, ts[1]? = some t1 := by
      have h3 := (Array.getElem?_eq_some_iff.mp ht3).1
      exact ⟨_, Array.getElem?_eq_getElem (by omega)⟩
    have tb : ∀ (Q : Value → Shared → Prop), (∀ tv : V, ∀ tu : Value, RelV tv tu → Q tu { s' with heap := h3 }) → wpAny (model X.prog X.w) X.A (tracebackOf (.ref a0)) Q X.xe { s' with heap := h3 } := fun Q hQ => by
      unfold tracebackOf
      refine wpAny_bind (wpAny_field he3 hd hv1 ?_)
      refine wpAny_bind (wpAny_field hT hdT ht1 ?_)
      split
      · exact wpAny_pure (hQ .non .none rfl)
      · exact wpAny_pure (hQ (.ref T) (.ref T) rfl)
    refine wpAny_bind (tb _ fun tv tu rt => ?_)
    refine wpAny_bind ?_
    unfold withItem.marked
    refine wpAny_bind (wpAny_run ?_ (fun z => ref_ne_byPass a0 (Option.some.inj z)))
    refine run_fnS (X := X.suite a0 ((a0, oe) :: (T, oT) :: (X.pn ++ pins))) (A := X.A.mark (some (.ref a0))) (vs := [.ref a, k, .ref a0, tv]) FX ⟨rX.dp, rX.un⟩ bX S3.env0 S3.kIn (.cons rfl (.cons rk (.cons rfl (.cons rt .nil)))) (hw a0 tv na) fun u s6 hq => ?_
    obtain ⟨v6, H6, S6, r6, e6, q6⟩ := S3.after hq
    subst e6
    cases r6
    refine wpAny_pure (wpAny_bind (wpAny_pure ?_))
    have J6 : _root_.L2.Inv X pins σ' H6 s6 := ⟨ok, S6.os, S6.bare, S6.base, S6.loc, S6.cell, S6.free, S6.freeC, fun p hp => S6.pin p (List.mem_append_left _ (List.mem_cons_of_mem _ (List.mem_cons_of_mem _ hp))), S6.hok, S6.len⟩
    have pa := S6.pin (a0, oe) (List.mem_append_left _ List.mem_cons_self)
    have pT := S6.pin (T, oT) (List.mem_append_left _ (List.mem_cons_of_mem _ List.mem_cons_self))
    have ga : s6.heap.get? a0 = some oe := pa.1
    have gT : s6.heap.get? T = some oT := pT.1
    have na6 : H6 a0 = none := pa.2.1
    have nT6 : H6 T = none := pT.2.1
    have far : ∀ b o, sI.heap.get? b = some o → b ≠ a0 ∧ b ≠ T := fun b o e => by
      by_cases hb : b ∈ frs X.stack
      · rw [hs] at hb
        exact ⟨fun z => fa (by rw [← z]; exact hb), fun z => fT (by rw [← z]; exact hb)⟩
      · have q := nb b o e hb
        exact ⟨fun z => by
          rw [z, k2] at q
          exact (nomatch q), fun z => by
          rw [z, hnT] at q
          cases q⟩
    have far0 : ∀ b o, X.s_0.heap.get? b = some o → b ≠ a0 ∧ b ≠ T := fun b o e => by
      obtain ⟨o', q⟩ := J.base.there b o e (by rw [hex]; simp)
      exact far b o' q
    have farP : ∀ p ∈ X.pn ++ pins, p.1 ≠ a0 ∧ p.1 ≠ T := fun p hp => far p.1 p.2 (J.pin p hp).1
    obtain ⟨G, g1, g2⟩ := restrict s6.heap fun b => !(decide (b = a0) || decide (b = T))
    have gIn : ∀ b o, G.get? b = some o → s6.heap.get? b = some o ∧ b ≠ a0 ∧ b ≠ T := fun b o e => by
      cases q : (!(decide (b = a0) || decide (b = T))) with
      | false =>
        rw [g2 b q] at e
        cases e
      | true =>
        rw [g1 b q] at e
        simp only [Bool.not_eq_true', Bool.or_eq_false_iff, decide_eq_false_iff_not] at q
        exact ⟨e, q.1, q.2⟩
    have gOf : ∀ b o, b ≠ a0 → b ≠ T → s6.heap.get? b = some o → G.get? b = some o := fun b o h1 h2 e => by
      rw [g1 b (by simp [h1, h2])]
      exact e
    have I6 : _root_.L2.Inv X pins σ' H6 { s6 with heap := G } := J6.less (fun b o e => (gIn b o e).1) gOf ⟨oe, vs, ga, hd⟩ ⟨oT, ts, gT, hdT⟩ na6 nT6 far0 farP
    have B6in : ∀ b o, (PySem.W.hideAll G (frs X.stack)).get? b = some o → s6.heap.get? b = some o := fun b o e => (gIn b o (PySem.W.of_hideAll _ e)).1
    have Bno : ∀ b, (b = a0 ∨ b = T) → (PySem.W.hideAll G (frs X.stack)).get? b = none := fun b hb => by
      cases q : (PySem.W.hideAll G (frs X.stack)).get? b with
      | none => rfl
      | some o =>
        obtain ⟨_, n1, n2⟩ := gIn b o (PySem.W.of_hideAll _ q)
        rcases hb with z | z
        · exact absurd z n1
        · exact absurd z n2
    have fl6 : HandSPX.FlyingZ (PySem.W.hideAll G (frs X.stack)) (X.env :: X.outer) a0 (Zc uk d) s6.heap := by
      refine ⟨B6in, Bno a0 (.inl rfl), ?_, oe, vs, T, oT, ts, ga, hz, hd, hv1, Bno T (.inr rfl), hTe, gT, hdT, ht3⟩
      have ff := funFrames_none (B := PySem.W.hideAll G (frs X.stack)) J6.stack fun b hb => PySem.W.hideAll_none _ hb
      rw [← hs]
      exact ff
    show wpAny (model X.prog X.w) X.A (PySem.passOn "with" (.ref a0) X.env) (SP X pins D) X.xe s6
    unfold PySem.passOn
    refine wpAny_bind (wpAny_field ga hd hv1 ?_)
    rw [if_neg (show ¬ ((Value.ref T == Value.none) = true) from by simp)]
    have goOn : wpAny (model X.prog X.w) X.A (setFlight (.ref a0) X.env.frame) (fun _ s7 => wpAny (model X.prog X.w) X.A (throw (.ref a0) : Sem Flow) (SP X pins D) X.xe s7) X.xe s6 := by
      rw [hf]
      refine HandSPX.setFlight_upZ fl6 fun h7 hh7 up7 => wpAny_throw (tk _ _ ?_)
      refine ⟨a0, PySem.W.hideAll G (frs X.stack), { s6 with heap := G }, pins, σ', H6, uk, d, rfl, I6, fun b o e hb => PySem.W.hideAll_get _ e hb, ?_, .inr (.inr (by rw [← hs] at hh7; exact hh7)), na6, rfl, J6.bare, q6⟩
      exact Heap.UpToSlots.trans (Heap.UpToSlots.of_keeps fun b o e => (gIn b o e).1) up7
    first
      | exact wpAny_bind (wpAny_pure (wpAny_bind goOn))
      | exact wpAny_bind goOn
  show wpAny (model X.prog X.w) X.A (noteFrame (.ref a0) X.env) _ _ _
  rcases sky' with ⟨hB, hn, hl, oe, vs, he0, hz, hd, hv1⟩ | fl | hh
  · exact HandSPX.look_newZ Zc.steady hfr hl hf he0 hB hn hd hv1 hz fin
  · exact HandSPX.looks_onZ Zc.steady hfr hf fl fin
  · exact HandSPX.againZ hf hh.2.2.2 (fin s'.heap hh (Heap.UpToSlots.refl _))
theorem ps_with (hs : X.stack = X.env :: X.outer) (hf : X.env.frame = some X.env.locals) (hex : X.ex = []) (tk : Takes X Wout) (he : PE X ctx te)
    (hE : PySem.W.findIn X.K (.ref C) "__enter__" = some (some (.ref fe))) (hEf : PySem.W.isFn X.K (.ref fe) = true) (hX : PySem.W.findIn X.K (.ref C) "__exit__" = some (some (.ref fx))) (hXf : PySem.W.isFn X.K (.ref fx) = true)
    (FE : FnOk X.prog X.w X.K X.mg X.base CX0 kE fe fdE psE spE) (rE : Room kE X.A) (bE : Binds X.K fdE psE []) (FX : FnS X.prog X.w X.K X.mg X.base kX fx fdX psX spX) (rX : RoomH kX X.A) (bX : Binds X.K fdX psX [])
    (hb : ∀ (W : WX) (pn : List (Addr × Obj)) (xe : Value → Shared → Prop), Takes (X.tr pn xe) W → PassesOwn (model X.prog X.w) X.A X.env xe → PSs (X.tr pn xe) body (tb W)) :
    PS X (.With [⟨ctx, none⟩] body pos) (tWith C spE spX te tb Wout) := by
  refine ⟨fun pins s σ H D I h => ?_⟩
  have ok := I.ok
  have hfr : X.A.frames = some (X.env :: X.outer) := by rw [ok.frames, hs]
  rw [arm_exec_With]
  refine wpAny_bind (wpAny_standAt ?_)
  rw [arm_withItems_cons, arm_withItems_nil]
  unfold withItem
  refine wpAny_bind (wpAny_mono (he.run pins s σ H _ I h) (fun u s1 hu => ?_) fun _ _ z => z)
  obtain ⟨x, H1, I1, rx, a, dx, fs, ex, ea, q⟩ := hu
  subst ex
  obtain rfl : u = Value.ref a := rx
  obtain ⟨cd, hcd, ae⟩ := PySem.W.kw_along hE
  obtain ⟨cd', hcd', ax⟩ := PySem.W.kw_along hX
  cases hcd.symm.trans hcd'
  have Xk := I1.kIn
  obtain ⟨mA, OM, _⟩ := ins_get I1.hok ea
  obtain ⟨od, IA, _⟩ := OM.look
  have L1 : PySem.W.Looks (model X.prog X.w) s1.heap (specialOnItsLine (.ref a) "__enter__") (some (.ref fe), cd.mro) := PySem.W.kw_special Xk IA hcd ae
  have L2 : PySem.W.Looks (model X.prog X.w) s1.heap (specialOnItsLine (.ref a) "__exit__") (some (.ref fx), cd.mro) := PySem.W.kw_special Xk IA hcd ax
  have L3 : PySem.W.Looks (model X.prog X.w) s1.heap (bindSpecial (.ref fe) (.ref a)) (.ref fe, [.ref a]) := PySem.W.bind_fn Xk _ (beq_iff_eq.mp hEf)
  have L4 : PySem.W.Looks (model X.prog X.w) s1.heap (bindSpecial (.ref fx) (.ref a)) (.ref fx, [.ref a]) := PySem.W.bind_fn Xk _ (beq_iff_eq.mp hXf)
  have L5 : PySem.W.Looks (model X.prog X.w) s1.heap (aMethodOfAnotherBuiltinTypeStops (.ref fe) cd.mro) () := PySem.W.Looks.of_pure rfl
  have L6 : PySem.W.Looks (model X.prog X.w) s1.heap (aMethodOfAnotherBuiltinTypeStops (.ref fx) cd.mro) () := PySem.W.Looks.of_pure rfl
  obtain ⟨hh, g, dd, tt, os⟩ := s1
  refine wpAny_bind (wpAny_standAt ?_)
  simp only [Bool.false_eq_true, if_false]
  kw_lk
  refine wpAny_mono (run_fn (Q := fun _ H2 => tb (wWith spX a Wout) { nx := fun σ3 H3 => spX [.ref a, .non, .non, .non] H3 (fun _ H4 => D.nx σ3 H4) E0, rt := fun _ _ => False } σ H2) (vs := [.ref a]) FE rE bE .nil pass0 I1 (.cons rfl .nil) q) (fun v s2 h2 => ?_) fun _ _ z => z
  obtain ⟨v2, H2, I2, r2, q2⟩ := h2
  kw_lk
  refine wpAny_attempt (PySem.W.kw_held ?_)
  refine wpAny_mono ((hb (wWith spX a Wout) (X.pn ++ pins) (fun e s₁ => wpAny (model X.prog X.w) X.A (noteFrame e X.env) (fun _ s₂ => wpAny (model X.prog X.w) X.A (WithExc X ctx.pos a fx e) (SP X pins D) X.xe s₂) X.xe s₁) (fun u s' xx => ?_) PassesOwn.looking).run [] s2 σ H2 _ (I2.toTry _) q2) (fun fl s3 hsp => ?_) (fun e s3 hx => wpAny_bind hx)
  · exact with_exc hs hf hex ok tk FX rX bX xx
  · cases fl with
    | ret u =>
      obtain ⟨_, _, _, _, _, q⟩ := hsp
      exact False.elim q
    | brk =>
      obtain ⟨_, _, _, q⟩ := hsp
      exact False.elim q
    | cont =>
      obtain ⟨_, _, _, q⟩ := hsp
      exact False.elim q
    | next =>
      obtain ⟨σ3, H3, I3', q3⟩ := hsp
      have I3 : _root_.L2.Inv X pins σ3 H3 s3 := I3'.ofTry ok
      show wpAny _ _ (do standAt ctx.pos; let _ ← holding [] (call (.ref fx) [.ref a, .none, .none, .none]); pure Flow.next) _ _ _
      refine wpAny_bind (wpAny_standAt (wpAny_bind (wpAny_holding (wpAny_call ?_))))
      refine run_fnS (vs := [.ref a, .non, .non, .non]) FX rX bX I3.env0 I3.kIn (.cons rfl (.cons rfl (.cons rfl (.cons rfl .nil)))) q3 fun u s4 hq => ?_
      obtain ⟨v4, H4, I4, r4, q4⟩ := I3.after hq
      exact wpAny_pure ⟨σ3, H4, I4, q4⟩
end
end EX
namespace DD
open PySem PySem.Spec PyProof.Rows L2
theorem RpX.mono {K : PySem.W.Frag} {F F' : Hp} {d : Option Addr} {ds : List (Str × DV)} (h : RpX K F d ds) (e : Ex F F') : RpX K F' d ds := by
  obtain ⟨fs, hd, r⟩ := h
  exact ⟨fs, hd.imp id fun ⟨dd, q1, q2⟩ => ⟨dd, q1, e _ _ q2⟩, r.mono e⟩
section
variable {K : PySem.W.Frag} {E : XK} {RE : RER} {ρ : Rho} {M : Ms} {te : TE} {tb : WX → TS} {P : Post} {C : Addr} {SE SX : SpecD}
/-- what is asked behind __enter__, of the one at a -/
def InWith (K : PySem.W.Frag) (tb : WX → TS) (SX : SpecD) (RE : RER) (ρ : Rho) (P : Post) (a : Addr) (M : Ms) : Prop := ∀ W, XS (KX K (wE W ρ.length) (fun C' fs' M3 => ∀ e t : V, SX [.raw (.ref a), .raw (.ref C'), .raw e, .raw t] M3 fun d M4 => d = .non ∧ RE C' fs' M4)) (tb W) ρ M { nx := fun ρ3 M3 => SX [.raw (.ref a), .non, .non, .non] M3 fun _ M4 => P.nx ρ3 M4, rt := fun _ _ => False }
theorem xs_withD (h : EvR (KX K E RE) te ρ M fun x M1 => ∃ a fs, x = .raw (.ref a) ∧ (a, MO.ins C fs) ∈ M1 ∧ SE [.raw (.ref a)] M1 fun _ M2 => InWith K tb SX RE ρ P a M2) : XS (KX K E RE) (EX.tWith C (spD K SE) (spD K SX) te tb fun cls d _ H => E cls d H) ρ M P := fun N F σ H D Z e => by
  refine h N F σ H Z _ fun v x M1 F1 H1 e1 ⟨a, fs, hx, hm, hs⟩ w1 r1 => ?_
  subst hx
  cases r1.raw_of
  obtain ⟨_, dx, gs, ha, hf⟩ := w1.ce a _ (List.mem_append_right N hm)
  refine ⟨a, dx, gs, rfl, ha, F1, N, M1, [.raw (.ref a)], _, w1, .cons (.raw _) .nil, hs, fun v2 d2 M2 F2 H2 e2 hb w2 r2 => ?_⟩
  refine hb _ N F2 σ H2 _ ⟨w2, Z.e.mono (e1.trans e2), fun C' dx' fs' M' F' H' e3 hh w3 r3 σ' hl => ?_⟩ ⟨fun F3 σ3 H3 ρ3 M3 e3 hp S3 => ?_, fun _ _ _ _ _ _ z => z.elim, fun _ _ _ _ _ _ z => z.elim, fun _ _ _ _ _ _ z => z.elim⟩
  · exact ⟨.ref C', ⟨.ref C', rfl, rfl⟩, fun y t hy => ⟨F', N, M', _, _, w3, .cons (.raw _) (.cons (.raw _) (.cons (.raw _) (.cons (.raw _) .nil))), hh _ _, fun v4 d4 M4 F4 H4 e4 ⟨hd, hr⟩ w4 r4 => ⟨by subst hd; exact r4.non_of, Z.b C' dx' fs' M4 F4 H4 (((e1.trans e2).trans e3).trans e4) hr w4 (r3.mono e4)⟩⟩⟩
  · exact ⟨F3, N, M3, _, _, S3.w, .cons (.raw _) (.cons .non (.cons .non (.cons .non .nil))), hp, fun v4 d4 M4 F4 H4 e4 hr w4 r4 => e.nx F4 σ3 H4 ρ3 M4 (((e1.trans e2).trans e3).trans e4) hr ⟨w4, S3.e.mono e4, Z.bm (((e1.trans e2).trans e3).trans e4)⟩⟩
end
end DD

set_option Elab.async false
set_option linter.all false
set_option maxRecDepth 100000
set_option maxHeartbeats 4000000
/-! ### methods def m(self, *v, k=None): the def, its calls with and without k -/
namespace EX
open PySem PySem.Spec PyProof.Rows L2 StX
structure FnV (P : Program) (w : World) (K : PySem.W.Frag) (mg : Str → Option Value) (base : Heap) (CX : CXT) (k : Nat) (f : Addr) (kn : Str) (sp : Sp) : Prop where
  kw : ∀ (A : Around) (outer : List Env) (s : Shared) (H : Hp) (u kv : Value) (us : List Value) (x z : V) (vs : List V) (Q : VK) (E : XK), Room k A → Env0 P w K mg base A outer s H → RelV x u → RelV z kv → Vals vs us → sp (x :: z :: vs) H Q E →
    codeAny (model P w) A (.call (.ref f) ⟨u :: us, [(kn, kv)]⟩) (CR CX outer P w H s Q E) s
  no : ∀ (A : Around) (outer : List Env) (s : Shared) (H : Hp) (u : Value) (us : List Value) (x : V) (vs : List V) (Q : VK) (E : XK), Room k A → Env0 P w K mg base A outer s H → RelV x u → Vals vs us → sp (x :: .non :: vs) H Q E →
    codeAny (model P w) A (.call (.ref f) ⟨u :: us, []⟩) (CR CX outer P w H s Q E) s
section
variable {CX : CXT} {P : Program} {w : World} {K : PySem.W.Frag} {mg : Str → Option Value} {base : Heap} {k : Nat} {f : Addr} {fd : FuncData} {x qual : Str} {params : Arguments} {body : List Stmt} {scope : Scope} {N : List Str} {sp : Sp} {p1 kn pv : Str}
theorem fn_v (F : FunD K x qual params body scope [] [(kn, .non)] f fd) (S : FnScope N [p1, kn, pv] scope) (hCX : CXUp CX)
    (h1 : ∀ (kV doc pm : Value) (an : Option Addr) (cdv ct u kv : Value) (us : List Value), bindArgs (PySem.W.fnOf x qual params body scope .none kV doc pm an cdv ct) ⟨u :: us, [(kn, kv)]⟩ = (newTuple us >>= fun t => pure [(p1, u), (kn, kv), (pv, t)]))
    (h0 : ∀ (D : Addr) (doc pm : Value) (an : Option Addr) (cdv ct u : Value) (us : List Value), ∃ (β γ : Type) (k1 : Option Value → Sem β) (k2 : β → Sem γ) (k3 : γ → Sem (List (Str × Value))) (a : β), bindArgs (PySem.W.fnOf x qual params body scope .none (.ref D) doc pm an cdv ct) ⟨u :: us, []⟩ = ((nsGet D kn >>= k1) >>= k2) >>= k3 ∧ k1 (some .none) = pure a ∧ (k2 a >>= k3) = (newTuple us >>= fun t => pure [(p1, u), (kn, Value.none), (pv, t)]))
    (hbody : ∀ (cdv : Value) (A : Around) (outer : List Env) (s : Shared) (H : Hp) (vs : List V) (Q : VK) (E : XK), Room k (A.deeper (envOfC qual scope s.heap.objs.size f cdv)) → sp vs H Q E →
      ∃ t, PSs (cxOf CX P w K mg base N qual scope f cdv A outer s H E) body t ∧ t { nx := fun _ H' => Q .non H', rt := Q } (start N vs) H) :
    FnV P w K mg base CX (k + 1) f kn (fun vs H Q E => ∃ x z rest, vs = x :: z :: rest ∧ rest.length ≤ sizeLine ∧ ∀ p, H p = Option.none → sp [x, z, V.ref p] (upd H p (.tup rest)) Q E) := by
  obtain ⟨oc, od, dV, kV, doc, pm, an, cdv, ct, osl, rfl, lk, hcd, hD, hK⟩ := F.ex
  rcases hD with ⟨_, hdV⟩ | ⟨e, _⟩
  case inr => exact absurd rfl e
  subst hdV
  rcases hK with e | ⟨D, hkV, hq⟩
  · cases e
  subst hkV
  obtain ⟨du, hdu, rdu⟩ := hq (kn, .non) List.mem_cons_self
  cases rdu
  have core : ∀ (A : Around) (outer : List Env) (s : Shared) (H : Hp) (u kv : Value) (us : List Value) (x z : V) (vs : List V) (Q : VK) (E : XK) (args : Args), Room (k + 1) A → Env0 P w K mg base A outer s H → RelV x u → RelV z kv → Vals vs us → vs.length ≤ sizeLine → (∀ p, H p = Option.none → sp [x, z, V.ref p] (upd H p (.tup vs)) Q E) →
      (∀ (A' : Around) (Ex : Value → Shared → Prop) (Q' : List (Str × Value) → Shared → Prop), wpAny (model P w) A' (newTuple us >>= fun t => pure [(p1, u), (kn, kv), (pv, t)]) Q' Ex s → wpAny (model P w) A' (bindArgs (PySem.W.fnOf _ qual params body scope .none (.ref D) doc pm an cdv ct) args) Q' Ex s) →
      codeAny (model P w) A (.call (.ref f) args) (CR CX outer P w H s Q E) s := fun A outer s H u kv us x z vs Q E args hr e0 rx rz rv hz hsp hbnd => by
    have hn : H s.heap.objs.size = Option.none := e0.hok.fresh (Nat.le_refl _)
    have hl2 : us.length ≤ sizeLine := by rw [← rv.length]; exact hz
    refine run_bnd lk hcd S hr e0 (G := fun xs H2 => ∃ p, H p = Option.none ∧ xs = [x, z, V.ref p] ∧ H2 = upd H p (.tup vs)) (fun A' Ex Q' h => hbnd A' Ex Q' ?_) fun s2 H2 xs ⟨p, hp, ex, eH⟩ hr' => ?_
    · refine wpAny_bind (wpAny_newTuple (wpAny_pure ?_) hl2)
      have new : ObjOk P w (upd H s.heap.objs.size (.tup vs)) (s.heap.push ({ cls := .type "tuple", data := .seq us.toArray } : Obj)) s.heap.objs.size (.tup vs) := ⟨hz, us, rv, ⟨_, Heap.get?_push_size _ rfl, rfl, _, rfl⟩⟩
      have un := un_laid (fs := frs outer) (s := s) (o := ({ cls := .type "tuple", data := .seq us.toArray } : Obj)) (u := .tup vs) hn
      exact h _ _ [x, z, V.ref s.heap.objs.size] [u, kv, Value.ref s.heap.objs.size] (env0_laid e0 new) un rfl (fun e s' => hCX outer s H _ _ E e s' un (fun b o q => Heap.get?_push_of_some _ q) rfl) (.cons rx (.cons rz (.cons rfl .nil))) rfl ⟨_, hn, rfl, rfl⟩
    · subst ex eH
      exact hbody cdv A outer s2 _ _ Q E hr' (hsp p hp)
  refine ⟨fun A outer s H u kv us x z vs Q E hr e0 rx rz rv hsp => ?_, fun A outer s H u us x vs Q E hr e0 rx rv hsp => ?_⟩
  · obtain ⟨x', z', rest, ev, hz, hq2⟩ := hsp
    cases ev
    exact core A outer s H u kv us x z vs Q E _ hr e0 rx rz rv hz hq2 fun A' Ex Q' h => by rw [h1]; exact h
  · obtain ⟨x', z', rest, ev, hz, hq2⟩ := hsp
    cases ev
    refine core A outer s H u .none us x .non vs Q E _ hr e0 rx rfl rv hz hq2 fun A' Ex Q' h => ?_
    obtain ⟨β, γ, k1, k2, k3, a, e1, e2, e3⟩ := h0 D doc pm an cdv ct u us
    rw [e1, bind_assoc, bind_assoc]
    have KX : K.In s.heap := e0.mod.kin.keeps fun b o e => (e0.bs b o e).1
    exact wpAny_bind (PySem.W.looks_nsIn KX hdu A' _ Ex s (fun _ _ z => z) (by rw [e2]; exact wpAny_bind (wpAny_pure (by rw [e3]; exact h))))
end
end EX
namespace EX
open PySem PySem.Spec PyProof.Rows L2 StX
section
variable {X : Cx} {CX : CXT} {k : Nat} {C f : Addr} {m kn : Str} {sp : Sp} {E : XK} {o e : Expr} {es : List Expr} {kws : List Keyword} {ta : TE} {t tz : TA} {apos pos : Pos} {pl : Sem Bool}
def tMethV (C : Addr) (m : Str) (sp : Sp) (E : XK) (ta : TE) (t tz : TA) : TE := fun σ H Q => ta σ H fun x H1 => ∃ a dx fs, x = .ref a ∧ H1 a = some (.ins C dx fs) ∧ fs.lookup m = none ∧ t σ H1 fun vs H2 => tz σ H2 fun zs H3 => ∃ z, zs = [z] ∧ sp (x :: z :: vs) H3 Q E
def tMethV0 (C : Addr) (m : Str) (sp : Sp) (E : XK) (ta : TE) (t : TA) : TE := fun σ H Q => ta σ H fun x H1 => ∃ a dx fs, x = .ref a ∧ H1 a = some (.ins C dx fs) ∧ fs.lookup m = none ∧ t σ H1 fun vs H2 => sp (x :: .non :: vs) H2 Q E
theorem v_end {pins : List (Addr × Obj)} {σ : L2.St} {H : Hp} {s : Shared} {Q : VK} {args : Args} (hx : Passes CX X E) (I : _root_.L2.Inv X pins σ H s) (h : codeAny (model X.prog X.w) X.A (.call (.ref f) args) (CR CX X.stack X.prog X.w H s Q E) s) : codeAny (model X.prog X.w) X.A (.call (.ref f) args) (fun r s' => match r with | .ok (.ret v) => EP X pins σ Q v s' | .ok _ => False | .error e => X.xe e s') s := by
  refine codeAny_mono h fun r s' hq => ?_
  cases r with
  | error e => exact hx pins σ H s e s' I hq
  | ok fl =>
    cases fl with
    | ret u => exact I.after hq
    | next => exact False.elim hq
    | brk => exact False.elim hq
    | cont => exact False.elim hq
/-- o.m(e, .., k = z) -/
theorem pe_methV (he : PE X o ta) (c : Cls X.K C) (hm : Meth X.K C m f) (F : FnV X.prog X.w X.K X.mg X.base CX k f kn sp) (hr : Room k X.A) (hx : Passes CX X E) (ha : PA X (e :: es) t) (hkw : PK X kws tz)
    (hall : (backToKw pos (keywordEach kws X.env)).all (·.1.isSome) = true := by rfl) (hks : (backToKw pos (keywordEach kws X.env)).filterMap (·.1) = [kn] := by rfl)
    (hst : starEach (e :: es) X.env = (false, eval e X.env) :: starEach es X.env := by rfl)
    (hpl : ((backTo pos (starEach (e :: es) X.env)).any (·.1) || (backToKw pos (keywordEach kws X.env)).any (·.1.isNone)) = false := by rfl)
    (ht : eval (.Call (.Attribute o m apos) (e :: es) kws pos) X.env = (do
      let ov ← eval o X.env
      standAt apos.atName
      let (f, first) ← holding [ov] (getMethod ov m pl)
      callWith pos f first (backTo pos (starEach (e :: es) X.env)) (backToKw pos (keywordEach kws X.env))) := by rfl) :
    PE X (.Call (.Attribute o m apos) (e :: es) kws pos) (tMethV C m sp E ta t tz) := by
  refine ⟨fun pins s σ H Q I h => ?_⟩
  refine PySem.W.methodCall_KW (pl := pl) (thn (he.run pins s σ H _ I h) fun u s1 ⟨x, H1, I1, rx, a, dx, fs, ex, ea, l, q⟩ => ?_) ht
  subst ex
  obtain rfl : u = Value.ref a := rx
  refine getmeth_ok I1 ea c hm l ?_
  refine PySem.W.callWith_KW (first := [.ref a]) (h₀ := X.base) I.ok.mod.kin hm.kp hall (thn (ha.run pos pins s1 σ H1 _ I1 q) fun us s2 ⟨vs, H2, I2, r, q2⟩ => ?_) hpl hst
  refine thn (hkw.run pos pins s2 σ H2 _ I2 q2) fun ws s3 ⟨zs, H3, I3, rz, z, ez, q3⟩ => ⟨I3.kIn, ?_⟩
  subst ez
  obtain ⟨kv, rfl, rkv⟩ := rz.one
  rw [hks]
  exact wpAny_call (v_end hx I3 (F.kw X.A X.stack s3 H3 (.ref a) kv us (.ref a) z vs Q E hr I3.env0 rfl rkv r q3))
/-- o.m(k = z) -/
theorem pe_methVK (he : PE X o ta) (c : Cls X.K C) (hm : Meth X.K C m f) (F : FnV X.prog X.w X.K X.mg X.base CX k f kn sp) (hr : Room k X.A) (hx : Passes CX X E) (hkw : PK X kws tz)
    (hall : (backToKw pos (keywordEach kws X.env)).all (·.1.isSome) = true := by rfl) (hks : (backToKw pos (keywordEach kws X.env)).filterMap (·.1) = [kn] := by rfl)
    (hpl : ((backTo pos (starEach [] X.env)).any (·.1) || (backToKw pos (keywordEach kws X.env)).any (·.1.isNone)) = false := by rfl)
    (ht : eval (.Call (.Attribute o m apos) [] kws pos) X.env = (do
      let ov ← eval o X.env
      standAt apos.atName
      let (f, first) ← holding [ov] (getMethod ov m pl)
      callWith pos f first (backTo pos (starEach [] X.env)) (backToKw pos (keywordEach kws X.env))) := by rfl) :
    PE X (.Call (.Attribute o m apos) [] kws pos) (tMethV C m sp E ta tNil tz) := by
  refine ⟨fun pins s σ H Q I h => ?_⟩
  refine PySem.W.methodCall_KW (pl := pl) (thn (he.run pins s σ H _ I h) fun u s1 ⟨x, H1, I1, rx, a, dx, fs, ex, ea, l, q⟩ => ?_) ht
  subst ex
  obtain rfl : u = Value.ref a := rx
  refine getmeth_ok I1 ea c hm l ?_
  refine PySem.W.callWith_KW0 (first := [.ref a]) (h₀ := X.base) I.ok.mod.kin hm.kp hall (thn (hkw.run pos pins s1 σ H1 _ I1 q) fun ws s3 ⟨zs, H3, I3, rz, z, ez, q3⟩ => ⟨I3.kIn, ?_⟩) hpl
  subst ez
  obtain ⟨kv, rfl, rkv⟩ := rz.one
  rw [hks]
  exact wpAny_call (v_end hx I3 (F.kw X.A X.stack s3 H3 (.ref a) kv [] (.ref a) z [] Q E hr I3.env0 rfl rkv .nil q3))
/-- o.m(e, ..) -/
theorem pe_methV0 (he : PE X o ta) (c : Cls X.K C) (hm : Meth X.K C m f) (F : FnV X.prog X.w X.K X.mg X.base CX k f kn sp) (hr : Room k X.A) (hx : Passes CX X E) (ha : PA X (e :: es) t)
    (hst : starEach (e :: es) X.env = (false, eval e X.env) :: starEach es X.env := by rfl) (hpl : (backTo pos (starEach es X.env)).any (·.1) = false := by rfl)
    (ht : eval (.Call (.Attribute o m apos) (e :: es) [] pos) X.env = (do
      let ov ← eval o X.env
      standAt apos.atName
      let (f, first) ← holding [ov] (getMethod ov m pl)
      callWith pos f first (backTo pos (starEach (e :: es) X.env)) (backToKw pos (keywordEach [] X.env))) := by rfl) :
    PE X (.Call (.Attribute o m apos) (e :: es) [] pos) (tMethV0 C m sp E ta t) := by
  refine ⟨fun pins s σ H Q I h => ?_⟩
  refine PySem.W.methodCall_KW (pl := pl) (thn (he.run pins s σ H _ I h) fun u s1 ⟨x, H1, I1, rx, a, dx, fs, ex, ea, l, q⟩ => ?_) ht
  subst ex
  obtain rfl : u = Value.ref a := rx
  refine getmeth_ok I1 ea c hm l ?_
  refine PySem.W.callWith_K (first := [.ref a]) (h₀ := X.base) I.ok.mod.kin hm.kp (thn (ha.run pos pins s1 σ H1 _ I1 q) fun us s2 ⟨vs, H2, I2, r, q2⟩ => ⟨I2.kIn, ?_⟩) hst hpl
  exact wpAny_call (v_end hx I2 (F.no X.A X.stack s2 H2 (.ref a) us (.ref a) vs Q E hr I2.env0 rfl r q2))
end
end EX
namespace DD
open PySem PySem.Spec PyProof.Rows L2 StX
/-- the spec at the calls, from the spec of the body -/
def packS (S : SpecX) : SpecX := fun ds M R RE => ∃ x z rest, ds = x :: z :: rest ∧ rest.length ≤ 1000 ∧ S [x, z, .tup rest] M R RE
section
variable {P : Program} {w : World} {K : PySem.W.Frag} {mg : Str → Option Value} {base : Heap} {k : Nat} {f : Addr} {fd : FuncData} {N : List Str} {x qual kn p1 pv : Str} {st : Stmt} {Sp : SpecX}
theorem fnV (F : FunD K x qual (defArgs st) (defBody st) (defScope st) [] [(kn, .non)] f fd) (S : FnScope N [p1, kn, pv] (defScope st))
    (h1 : ∀ (kV doc pm : Value) (an : Option Addr) (cdv ct u kv : Value) (us : List Value), bindArgs (PySem.W.fnOf x qual (defArgs st) (defBody st) (defScope st) .none kV doc pm an cdv ct) ⟨u :: us, [(kn, kv)]⟩ = (newTuple us >>= fun t => pure [(p1, u), (kn, kv), (pv, t)]))
    (h0 : ∀ (D : Addr) (doc pm : Value) (an : Option Addr) (cdv ct u : Value) (us : List Value), ∃ (β γ : Type) (k1 : Option Value → Sem β) (k2 : β → Sem γ) (k3 : γ → Sem (List (Str × Value))) (a : β), bindArgs (PySem.W.fnOf x qual (defArgs st) (defBody st) (defScope st) .none (.ref D) doc pm an cdv ct) ⟨u :: us, []⟩ = ((nsGet D kn >>= k1) >>= k2) >>= k3 ∧ k1 (some .none) = pure a ∧ (k2 a >>= k3) = (newTuple us >>= fun t => pure [(p1, u), (kn, Value.none), (pv, t)]))
    (hb : ∀ (cdv : Value) (A : Around) (up : List Env) (z : Shared) (H : Hp) (E : XK), Room k (A.deeper (envOfC qual (defScope st) z.heap.objs.size f cdv)) → ∀ ds M R RE, Sp ds M R RE →
      ∃ t, PSs (cxOf (L2.CX P w) P w K mg base N qual (defScope st) f cdv A up z H E) (defBody st) t ∧ XS (KX K E RE) t (rho0 N ds) M { nx := fun _ M' => R .non M', rt := R }) : EX.FnV P w K mg base (L2.CX P w) (k + 1) f kn (spX K (packS Sp)) := by
  have Z := EX.fn_v (sp := spX K Sp) F S cxUp h1 h0 fun cdv A up z H vs Q E hr h => by
    obtain ⟨F0, N0, M, ds, R, RE, w0, r, hs, q, qe⟩ := h
    obtain ⟨t, ht, hx⟩ := hb cdv A up z H E hr ds M R RE hs
    refine ⟨t, ht, hx N0 F0 (L2.start N vs) H _ ⟨w0, ?_, qe⟩ ⟨fun F' σ' H' ρ' M' e h1 S => q .non .non M' F' H' e h1 S.w .non, fun v F' H' d M' e h1 w1 r1 => q v d M' F' H' e h1 w1 r1, fun _ _ _ _ _ _ z => z.elim, fun _ _ _ _ _ _ z => z.elim⟩⟩
    have := EnvD.start r (N.length - ds.length)
    unfold L2.start rho0
    rw [r.length]
    exact this
  have imp : ∀ vs H Q E, spX K (packS Sp) vs H Q E → ∃ x z rest, vs = x :: z :: rest ∧ rest.length ≤ sizeLine ∧ ∀ p, H p = Option.none → spX K Sp [x, z, V.ref p] (upd H p (.tup rest)) Q E := fun vs H Q E ⟨F0, N0, M, ds, R, RE, w0, r, ⟨dx, dz, dr, e, hl, hs⟩, q, qe⟩ => by
    subst e
    match vs, r with
    | v1 :: v2 :: vr, .cons rx (.cons rz rr) =>
      refine ⟨_, _, _, rfl, by rw [rr.length, sizeLine_eq]; omega, fun p hp => ?_⟩
      have hn := w0.fresh hp
      have ex := ex_new (o := .tup vr) hn
      exact ⟨_, N0, M, [dx, dz, .tup dr], R, RE, w0.new hp _, .cons (rx.mono ex) (.cons (rz.mono ex) (.cons (.tup (SqT.of upd_same) (rr.mono ex)) .nil)), hs, fun v d M' F' H' e h1 w1 r1 => q v d M' F' H' (ex.trans e) h1 w1 r1, fun C' dx' fs' M' F' H' e => qe C' dx' fs' M' F' H' (ex.trans e)⟩
  exact ⟨fun A outer s H u kv us x z vs Q E hr e0 rx rz rv h => Z.kw A outer s H u kv us x z vs Q E hr e0 rx rz rv (imp _ _ _ _ h), fun A outer s H u us x vs Q E hr e0 rx rv h => Z.no A outer s H u us x vs Q E hr e0 rx rv (imp _ _ _ _ h)⟩
end
section
variable {K : PySem.W.Frag} {KK : KB} {E E' : XK} {RE : RER} {ρ : Rho} {M : Ms} {ta : TE} {t tz : TA} {S : SpecX} {R : DV → Ms → Prop}
/-- .. of what is owned -/
def MethV (K : KB) (C : Addr) (m : Str) (S : SpecX) (t tz : TA) (ρ : Rho) (x : DV) (M : Ms) (R : DV → Ms → Prop) (RE : RER) : Prop :=
  ∃ a fs, x = .raw (.ref a) ∧ (a, MO.ins C fs) ∈ M ∧ fs.lookup m = none ∧ EvAR K t ρ M fun ds M2 => EvAR K tz ρ M2 fun es M3 => ∃ z, es = [z] ∧ ds.length ≤ 1000 ∧ S [.raw (.ref a), z, .tup ds] M3 R RE
theorem MethV.own {C a : Addr} {m : Str} {fs : List (Str × DV)} (hm : (a, MO.ins C fs) ∈ M) (hl : fs.lookup m = none) (k : EvAR KK t ρ M fun ds M2 => EvAR KK tz ρ M2 fun es M3 => ∃ z, es = [z] ∧ ds.length ≤ 1000 ∧ S [.raw (.ref a), z, .tup ds] M3 R RE) : MethV KK C m S t tz ρ (.raw (.ref a)) M R RE := ⟨_, _, rfl, hm, hl, k⟩
theorem methV_core {C : Addr} {m : Str} {RE : RER} (hb : ∀ N F, KK.B N F → Wish KK.fr E' RE N F) (h : EvR KK ta ρ M fun x M1 => MethV KK C m S t tz ρ x M1 R RE) : EvR KK (EX.tMethV C m (spX KK.fr (packS S)) E' ta t tz) ρ M R := fun N F σ H Z Q q =>
  h N F σ H Z _ fun v x M1 F1 H1 e1 ⟨a, fs, hx, hm, hl, h1⟩ w1 r1 => by
    subst hx
    cases r1.raw_of
    obtain ⟨_, dx, gs, ha, hf⟩ := w1.ce a _ (List.mem_append_right N hm)
    refine ⟨a, dx, gs, rfl, ha, hf.lookup_none hl, ?_⟩
    refine h1 N F1 σ H1 ⟨w1, Z.e.mono e1, Z.bm e1⟩ _ fun vs ds M2 F2 H2 e2 h2 w2 r2 => ?_
    refine h2 N F2 σ H2 ⟨w2, Z.e.mono (e1.trans e2), Z.bm (e1.trans e2)⟩ _ fun zs es M3 F3 H3 e3 ⟨z, hz, hlen, h3⟩ w3 r3 => ?_
    subst hz
    obtain ⟨zv, rfl, rz⟩ := rpa1 r3
    exact ⟨zv, rfl, F3, N, M3, _, R, RE, w3, .cons (.raw _) (.cons rz (r2.mono e3)), ⟨_, _, _, rfl, hlen, h3⟩, fun v d M4 F4 H4 e4 hr w4 r4 => q v d M4 F4 H4 (((e1.trans e2).trans e3).trans e4) hr w4 r4, hb _ _ (Z.bm ((e1.trans e2).trans e3))⟩
theorem w_methVX {C : Addr} {m : Str} (h : EvR (KX K E RE) ta ρ M fun x M1 => MethV (KX K E RE) C m S t tz ρ x M1 R RE) : EvR (KX K E RE) (EX.tMethV C m (spX K (packS S)) E ta t tz) ρ M R := methV_core (KK := KX K E RE) (fun _ _ b => b) h
theorem w_methVX0 {C : Addr} {m : Str} (h : EvR KK ta ρ M fun x M1 => MethV KK C m S t tz ρ x M1 R noX) : EvR KK (EX.tMethV C m (spX KK.fr (packS S)) E' ta t tz) ρ M R := methV_core (fun _ _ _ => wish_no) h
def MethV0 (K : KB) (C : Addr) (m : Str) (S : SpecX) (t : TA) (ρ : Rho) (x : DV) (M : Ms) (R : DV → Ms → Prop) (RE : RER) : Prop :=
  ∃ a fs, x = .raw (.ref a) ∧ (a, MO.ins C fs) ∈ M ∧ fs.lookup m = none ∧ EvAR K t ρ M fun ds M2 => ds.length ≤ 1000 ∧ S [.raw (.ref a), .non, .tup ds] M2 R RE
theorem MethV0.own {C a : Addr} {m : Str} {fs : List (Str × DV)} (hm : (a, MO.ins C fs) ∈ M) (hl : fs.lookup m = none) (k : EvAR KK t ρ M fun ds M2 => ds.length ≤ 1000 ∧ S [.raw (.ref a), .non, .tup ds] M2 R RE) : MethV0 KK C m S t ρ (.raw (.ref a)) M R RE := ⟨_, _, rfl, hm, hl, k⟩
theorem methV0_core {C : Addr} {m : Str} {RE : RER} (hb : ∀ N F, KK.B N F → Wish KK.fr E' RE N F) (h : EvR KK ta ρ M fun x M1 => MethV0 KK C m S t ρ x M1 R RE) : EvR KK (EX.tMethV0 C m (spX KK.fr (packS S)) E' ta t) ρ M R := fun N F σ H Z Q q =>
  h N F σ H Z _ fun v x M1 F1 H1 e1 ⟨a, fs, hx, hm, hl, h1⟩ w1 r1 => by
    subst hx
    cases r1.raw_of
    obtain ⟨_, dx, gs, ha, hf⟩ := w1.ce a _ (List.mem_append_right N hm)
    refine ⟨a, dx, gs, rfl, ha, hf.lookup_none hl, ?_⟩
    refine h1 N F1 σ H1 ⟨w1, Z.e.mono e1, Z.bm e1⟩ _ fun vs ds M2 F2 H2 e2 ⟨hlen, h3⟩ w2 r2 => ?_
    exact ⟨F2, N, M2, _, R, RE, w2, .cons (.raw _) (.cons .non r2), ⟨_, _, _, rfl, hlen, h3⟩, fun v d M4 F4 H4 e4 hr w4 r4 => q v d M4 F4 H4 ((e1.trans e2).trans e4) hr w4 r4, hb _ _ (Z.bm (e1.trans e2))⟩
theorem w_methV0X {C : Addr} {m : Str} (h : EvR (KX K E RE) ta ρ M fun x M1 => MethV0 (KX K E RE) C m S t ρ x M1 R RE) : EvR (KX K E RE) (EX.tMethV0 C m (spX K (packS S)) E ta t) ρ M R := methV0_core (KK := KX K E RE) (fun _ _ b => b) h
theorem w_methV0X0 {C : Addr} {m : Str} (h : EvR KK ta ρ M fun x M1 => MethV0 KK C m S t ρ x M1 R noX) : EvR KK (EX.tMethV0 C m (spX KK.fr (packS S)) E' ta t) ρ M R := methV0_core (fun _ _ _ => wish_no) h
end
end DD
namespace DD
open PySem PySem.Spec PyProof.Rows L2
/-! ### x in a tuple of data of any depth -/
def rInDT (K : PySem.W.Frag) : R2 := fun x y H Q => ∃ d ds, Dp K H x d ∧ Dp K H y (.tuple ds) ∧ SeqAt.shaped d = true ∧ SeqAt.shaped (.tuple ds) = true ∧ Q (.bl (ds.any fun z => PyData.eqv z d)) H
theorem op_inDT {X : Cx} (hu : X.A.units + 65 < cLine) : OpR X (compareOp .In) (rInDT X.K) := by
  intro pins s σ H x y v u Q I rx ry h
  obtain ⟨d, ds, hd, he, sd, se, q⟩ := h
  obtain ⟨as, r1⟩ := Dp.reads I d x v hd rx
  obtain ⟨bs, r2⟩ := Dp.reads I (.tuple ds) y u he ry
  exact SeqAt.in_tuple_reads r2 r1 (SeqAt.canLay_of_shaped se) (SeqAt.canLay_of_shaped sd) (room_in_shaped sd hu) ⟨.bl _, H, I, rfl, q⟩
theorem wInDT {X : Cx} (K : PySem.W.Frag) (hK : X.K = K) {k : Nat} (hr : Room k X.A) : OpR X (compareOp .In) (rInDT K) := hK ▸ op_inDT (by have := hr.un; omega)
section
variable {K : PySem.W.Frag} {M : Ms} {x : DV} {ds : List DV}
theorem rv_inDT {p : PyData} {ps : List PyData} (hx : toPy x = some p) (hy : toPy (.tup ds) = some (.tuple ps)) (sx : SeqAt.shaped p = true) (sy : SeqAt.shaped (.tuple ps) = true) : RV K (rInDT K) x (.tup ds) M (.bl (ps.any fun z => PyData.eqv z p)) := fun N F u v H w h1 h2 Q k => ⟨p, ps, h1.dp w.fr hx, h2.dp w.fr hy, sx, sy, k _ _ M F H (Evl.Ex.refl F) ⟨rfl, rfl⟩ w (.bl _)⟩
end
/-- what is owned in between goes, errors too -/
def outRE (RE : RER) : RER := fun C fs M => ∃ Cc M2, M = Cc ++ M2 ∧ RE C fs M2
theorem xs_outX {K : PySem.W.Frag} {E : XK} {RE : RER} {ρ : Rho} {M : Ms} {t : TS} {P : Post} (h : XS (KX K E (outRE RE)) t ρ M { nx := fun ρ' M' => ∃ C M2, M' = C ++ M2 ∧ P.nx ρ' M2, rt := fun d M' => ∃ C M2, M' = C ++ M2 ∧ P.rt d M2 }) : XS (KX K E RE) t ρ M P := fun N F σ H D S e => by
  have out : ∀ {C M2 : Ms} {F' : Hp} {H' : Hp}, Wd K F' (N ++ (C ++ M2)) H' → Wd K F' (N ++ M2) H' := fun {C M2 F' H'} w => by
    have w2 : Wd K F' (C ++ (N ++ M2)) H' := w.perm (by rw [← List.append_assoc, ← List.append_assoc]; exact List.Perm.append_right _ List.perm_append_comm)
    have drop : ∀ (C : Ms), Wd K F' (C ++ (N ++ M2)) H' → Wd K F' (N ++ M2) H' := fun C => by
      induction C with
      | nil => exact id
      | cons c C ih => exact fun w => ih w.drop
    exact drop C w2
  refine h N F σ H D ⟨S.w, S.e, fun C dx fs M' F' H' e1 ⟨Cc, M2, hm, hr⟩ w r => ?_⟩ ⟨fun F' σ' H' ρ' M' e1 ⟨C, M2, hm, hr⟩ S1 => ?_, fun v F' H' d M' e1 ⟨C, M2, hm, hr⟩ w r => ?_, fun _ _ _ _ _ _ z => z.elim, fun _ _ _ _ _ _ z => z.elim⟩
  · subst hm
    exact S.b C dx fs M2 F' H' e1 hr (out w) r
  · subst hm
    exact e.nx F' σ' H' ρ' M2 e1 hr ⟨out S1.w, S1.e, S.bm e1⟩
  · subst hm
    exact e.rt v F' H' d M2 e1 hr (out w) r
end DD

set_option Elab.async false
set_option linter.all false
set_option maxRecDepth 100000
set_option maxHeartbeats 4000000
/-! ### the truth of an instance that has a length; x not in a list of data of any depth -/
namespace EX
open PySem PySem.Spec PyProof.Rows L2
def tBO (C : Addr) (sp : Sp) (E : XK) (t : TE) : TT := fun σ H Q => t σ H fun x H1 => ∃ a dx fs, x = .ref a ∧ H1 a = some (.ins C dx fs) ∧ sp [.ref a] H1 (fun z H' => ∃ i : Int, z = .int i ∧ 0 ≤ i ∧ i < 2 ^ 63 ∧ Q (i != 0) H') E
theorem pt_valO {X : Cx} {CX : CXT} {C f : Addr} {n : Nat} {sp : Sp} {E : XK} {e : Expr} {t : TE} (h : PE X e t) (hbb : PySem.W.findIn X.K (.ref C) "__bool__" = some none) (hs : PySem.W.findIn X.K (.ref C) "__len__" = some (some (.ref f))) (hf : PySem.W.isFn X.K (.ref f) = true) (F : FnR X.prog X.w X.K X.mg X.base CX n f sp) (hrm : Room (n + 1) X.A) (hxx : Passes CX X E)
    (he : ∀ whole, isTrue e X.env whole = (do let v ← whole; standAt e.pos; holding [v] (truthy v)) := by intro _; rfl) : PT X e (tBO C sp E t) := by
  refine ⟨fun pins s σ H Q I hw => ?_⟩
  refine isTrue_plain (thn (h.run pins s σ H _ I hw) fun v s1 ⟨x, H1, I1, r1, q1⟩ => ?_) (he _)
  obtain ⟨a, dx, fs, rfl, ha, q⟩ := q1
  cases (show v = Value.ref a from r1)
  obtain ⟨od, Iv⟩ := insAt I1 ha
  refine truthO I1.kIn Iv hbb hs hf (wpAny_mono (wpAny_call (SlX.run_at (us := [.ref a]) (ws := [.ref a]) F hrm.in1 I1.env0.in1 hxx I1 (.cons rfl .nil) q)) (fun w s' z => ?_) fun _ _ x => x)
  obtain ⟨z', H', I', rz, i, ei, i0, i1, qz⟩ := z
  subst ei
  obtain ⟨t, e⟩ := (show ∃ t, w = Value.int i t from rz)
  cases e
  exact ⟨⟨i0, i1⟩, i, _, rfl, H', I'.tok _, qz⟩
end EX
namespace DD
open PySem PySem.Spec PyProof.Rows L2
section
variable {X : Cx} {C f : Addr} {fd : FuncData} {n : Nat} {sp : Sp} {E : XK} {e : Expr} {t : TE}
theorem wValO (h : PE X e t) (hbb : PySem.W.findIn X.K (.ref C) "__bool__" = some none) (hs : PySem.W.findIn X.K (.ref C) "__len__" = some (some (.ref f))) (hf : PySem.W.isFn X.K (.ref f) = true) (F : FnOk X.prog X.w X.K X.mg X.base CX0 n f fd ["self"] sp) (hbd : Binds X.K fd ["self"] []) (hrm : Room (n + 1) X.A)
    (he : ∀ whole, isTrue e X.env whole = (do let v ← whole; standAt e.pos; holding [v] (truthy v)) := by intro _; rfl) : PT X e (EX.tBO C sp E0 t) := EX.pt_valO h hbb hs hf (EX.raw1 F hbd) hrm pass0 he
end
section
variable {KK : KB} {ρ : Rho} {M : Ms} {te : TE} {C : Addr} {SD : SpecD} {E : XK} {RB : Bool → Ms → Prop}
def BOR (C : Addr) (SD : SpecD) (RB : Bool → Ms → Prop) (d : DV) (M : Ms) : Prop := ∃ a fs, d = .raw (.ref a) ∧ (a, MO.ins C fs) ∈ M ∧ SD [.raw (.ref a)] M (BoolK fun d M' => ∃ b, d = .bl b ∧ RB b M')
theorem BOR.mk {a : Addr} {fs : List (Str × DV)} (hm : (a, MO.ins C fs) ∈ M) (h : SD [.raw (.ref a)] M (BoolK fun d M' => ∃ b, d = .bl b ∧ RB b M')) : BOR C SD RB (.raw (.ref a)) M := ⟨a, fs, rfl, hm, h⟩
theorem etr_BO (h : EvR KK te ρ M fun d M1 => BOR C SD RB d M1) : EvTR KK (EX.tBO C (spD KK.fr SD) E te) ρ M RB := fun N F σ H Z Q q =>
  h N F σ H Z _ fun v d M1 F1 H1 e1 ⟨a, fs, hd, hm, hS⟩ w1 r1 => by
    subst hd
    cases r1.raw_of
    obtain ⟨_, dx, gs, ha, hf⟩ := w1.ce a _ (List.mem_append_right N hm)
    refine ⟨a, dx, gs, rfl, ha, F1, N, M1, _, _, w1, .cons (.raw _) .nil, hS, fun v d M' F' H' e2 ⟨i, hd, i0, i1, b, hb, hR⟩ w2 r2 => ?_⟩
    subst hd
    cases hb
    exact ⟨i, r2.int_of, i0, i1, q _ M' F' H' (e1.trans e2) hR w2⟩
end
theorem wNinDL {X : Cx} (K : PySem.W.Frag) (hK : X.K = K) {k : Nat} (hr : Room k X.A) : OpR X (compareOp .NotIn) (rNotInD K) := hK ▸ op_notInD (by have := hr.un; omega)
section
variable {K : PySem.W.Frag} {M : Ms} {x : DV} {ds : List DV}
theorem rv_ninDL {p : PyData} {ps : List PyData} (hx : toPy x = some p) (hy : toPy (.lst ds) = some (.list ps)) (sx : SeqAt.shaped p = true) (sy : SeqAt.shaped (.list ps) = true) : RV K (rNotInD K) x (.lst ds) M (.bl (!ps.any fun z => PyData.eqv z p)) := fun N F u v H w h1 h2 Q k => ⟨p, ps, h1.dp w.fr hx, h2.dp w.fr hy, sx, sy, k _ _ M F H (Evl.Ex.refl F) ⟨rfl, rfl⟩ w (.bl _)⟩
end
end DD
namespace DD
open PySem PySem.Spec PyProof.Rows L2
/-! ### one of two rules, as it comes -/
def rOr (r s : List V → Hp → VK → Prop) : List V → Hp → VK → Prop := fun xs H Q => r xs H Q ∨ s xs H Q
theorem wOr {X : Cx} {v : Value} {r s : List V → Hp → VK → Prop} (h : CallR X v r) (k : CallR X v s) : CallR X v (rOr r s) := fun pins σ H σ' xs us Q I rx q => q.elim (fun z => h pins σ H σ' xs us Q I rx z) fun z => k pins σ H σ' xs us Q I rx z
theorem rc_orL {K : PySem.W.Frag} {r s : List V → Hp → VK → Prop} {ds : List DV} {M : Ms} {R : DV → Ms → Prop} (h : RCR K r ds M R) : RCR K (rOr r s) ds M R := fun N F us H w hr Q k => .inl (h N F us H w hr Q k)
theorem rc_orR {K : PySem.W.Frag} {r s : List V → Hp → VK → Prop} {ds : List DV} {M : Ms} {R : DV → Ms → Prop} (h : RCR K s ds M R) : RCR K (rOr r s) ds M R := fun N F us H w hr Q k => .inr (h N F us H w hr Q k)
end DD

set_option Elab.async false
set_option linter.all false
set_option maxRecDepth 100000
set_option maxHeartbeats 4000000
/-! ### a list taken apart: for a, b in [[..], ..] -/
namespace DD
open PySem PySem.Spec PyProof.Rows L2
theorem wUnlG {X : Cx} (K : PySem.W.Frag) (hK : X.K = K) {n : Nat} {e : Expr} {t : TGs} (h : PG X e (gUnl X.K n t)) : PG X e (gUnl K n t) := hK ▸ h
section
variable {K : KB} {ρ : Rho} {M : Ms} {gs : TGs} {ds : List DV} {R : Rho → Ms → Prop}
theorem bd_unl {n : Nat} (h : BdGs K gs ρ M ds R) (hn : ds.length = n) : BdG K (gUnl K n gs) ρ M (.lst ds) R := fun N F σ H v Q S r q => by
  obtain ⟨a, xs, rfl, hs, hr⟩ := r.lst_of
  exact ⟨a, xs, rfl, .inl (.inl (S.w.fr _ _ hs)), by rw [hr.length]; exact hn, h N F σ H xs Q S hr q⟩
end
end DD

set_option Elab.async false
set_option linter.all false
set_option maxRecDepth 100000
set_option maxHeartbeats 4000000
/-! ### dicts of ints by ints: owned ones (MO.dK (kdI kvs)), and such that stay (DV.dki) -/
namespace DD
open PySem PySem.Spec PyProof.Rows L2
def kdI (kvs : List (Int × Int)) : List (Key × DV) := kvs.map fun p => (.inl p.1, .int p.2)
def getI (kvs : List (Int × Int)) (k : Int) : Option Int := (kvs.find? fun p => decide (p.1 = k)).map (·.2)
def putI (kvs : List (Int × Int)) (k v : Int) : List (Int × Int) := if (kvs.any fun p => decide (p.1 = k)) = true then kvs.map fun p => if p.1 = k then (p.1, v) else p else kvs ++ [(k, v)]
theorem valV_kvI (k : Int) : ∀ kvs : List (Int × Int), valV (kvI kvs) (.inl k) = (getI kvs k).map V.int
  | [] => rfl
  | p :: r => by
    show valV ((.inl p.1, .int p.2) :: kvI r) (.inl k) = ((List.find? _ (p :: r)).map (·.2)).map V.int
    by_cases e : p.1 = k
    · rw [valV_pos (congrArg Sum.inl e), List.find?_cons_of_pos (by exact decide_eq_true e)]; rfl
    · rw [valV_neg (fun z => e (Sum.inl.inj z)), List.find?_cons_of_neg (by simpa using e), valV_kvI k r]; rfl
theorem any_kvI (k : Int) : ∀ kvs : List (Int × Int), ((kvI kvs).any fun kv => decide (kv.1 = (.inl k : Key))) = kvs.any fun p => decide (p.1 = k)
  | [] => rfl
  | p :: r => by
    show (decide ((.inl p.1 : Key) = .inl k) || (kvI r).any _) = (decide (p.1 = k) || r.any _)
    rw [any_kvI k r, key_ll]
    by_cases e : p.1 = k
    · rw [e]; simp
    · rw [decide_eq_false e, beq_false_of_ne e]
theorem putK_kvI (kvs : List (Int × Int)) (k v : Int) : putK (kvI kvs) (.inl k) (.int v) = kvI (putI kvs k v) := by
  unfold putK putI
  rw [any_kvI]
  split
  · unfold kvI
    rw [List.map_map, List.map_map]
    refine List.map_congr_left fun p _ => ?_
    show (if (Sum.inl p.1 : Key) = Sum.inl k then _ else _) = _
    by_cases e : p.1 = k
    · rw [if_pos (congrArg Sum.inl e)]
      show _ = (fun q : Int × Int => ((Sum.inl q.1 : Key), V.int q.2)) (if p.1 = k then (p.1, v) else p)
      rw [if_pos e]
    · rw [if_neg (fun z => e (Sum.inl.inj z))]
      show _ = (fun q : Int × Int => ((Sum.inl q.1 : Key), V.int q.2)) (if p.1 = k then (p.1, v) else p)
      rw [if_neg e]
  · unfold kvI; rw [List.map_append]; rfl
theorem getI_nil {k : Int} : getI [] k = none := rfl
theorem getI_pos {p : Int × Int} {r : List (Int × Int)} {k : Int} (e : p.1 = k) : getI (p :: r) k = some p.2 := by unfold getI; rw [List.find?_cons_of_pos (by exact decide_eq_true e)]; rfl
theorem getI_neg {p : Int × Int} {r : List (Int × Int)} {k : Int} (e : p.1 ≠ k) : getI (p :: r) k = getI r k := by unfold getI; rw [List.find?_cons_of_neg (by simpa using e)]
theorem any_getI (k : Int) : ∀ kvs : List (Int × Int), (kvs.any fun p => decide (p.1 = k)) = (getI kvs k).isSome
  | [] => rfl
  | p :: r => by
    by_cases e : p.1 = k
    · rw [getI_pos e, List.any_cons, decide_eq_true e]; rfl
    · rw [getI_neg e, List.any_cons, decide_eq_false e, any_getI k r]; rfl
theorem putI_new {kvs : List (Int × Int)} {k v : Int} (h : getI kvs k = none) : putI kvs k v = kvs ++ [(k, v)] := by
  unfold putI
  rw [any_getI, h]; rfl
theorem getI_snoc {kvs : List (Int × Int)} {k v j : Int} (h : getI kvs k = none) : getI (kvs ++ [(k, v)]) j = if j = k then some v else getI kvs j := by
  induction kvs with
  | nil =>
    by_cases e : j = k
    · subst e; rw [if_pos rfl]; exact getI_pos rfl
    · rw [if_neg e]; exact getI_neg (p := (k, v)) fun z => e z.symm
  | cons p r ih =>
    by_cases e : p.1 = k
    · rw [getI_pos e] at h; cases h
    · rw [getI_neg e] at h
      by_cases ej : p.1 = j
      · show getI (p :: (r ++ [(k, v)])) j = _
        rw [getI_pos ej, getI_pos ej, if_neg]
        rintro rfl; exact e ej
      · show getI (p :: (r ++ [(k, v)])) j = _
        rw [getI_neg ej, getI_neg ej, ih h]
theorem getI_rep {kvs : List (Int × Int)} {k v j : Int} : getI (kvs.map fun p => if p.1 = k then (p.1, v) else p) j = (getI kvs j).map fun x => if j = k then v else x := by
  induction kvs with
  | nil => rfl
  | cons p r ih =>
    rw [List.map_cons]
    by_cases ej : p.1 = j
    · rw [getI_pos ej]
      by_cases e : p.1 = k
      · rw [if_pos e, getI_pos (p := (p.1, v)) ej]
        show _ = some (if j = k then v else p.2)
        rw [if_pos (ej ▸ e)]
      · rw [if_neg e, getI_pos ej]
        show _ = some (if j = k then v else p.2)
        rw [if_neg (ej ▸ e)]
    · rw [getI_neg ej, getI_neg (by split <;> exact ej), ih]
theorem getI_put {kvs : List (Int × Int)} {k v j : Int} : getI (putI kvs k v) j = if j = k then some v else getI kvs j := by
  cases h : getI kvs k with
  | none => rw [putI_new h, getI_snoc h]
  | some x =>
    unfold putI
    rw [any_getI, h, if_pos (by rfl), getI_rep]
    by_cases e : j = k
    · subst e; rw [h, if_pos rfl]; simp
    · rw [if_neg e]; simp [e]
theorem keys_put {kvs : List (Int × Int)} {k v : Int} : (putI kvs k v).map (·.1) = if (getI kvs k).isSome = true then kvs.map (·.1) else kvs.map (·.1) ++ [k] := by
  unfold putI
  rw [any_getI]
  split
  · rw [List.map_map]
    refine List.map_congr_left fun p _ => ?_
    show (if p.1 = k then (p.1, v) else p).1 = p.1
    split <;> rfl
  · rw [List.map_append]; rfl
theorem getI_mem {kvs : List (Int × Int)} {k v : Int} (h : getI kvs k = some v) : (k, v) ∈ kvs := by
  induction kvs with
  | nil => cases h
  | cons p r ih =>
    by_cases e : p.1 = k
    · rw [getI_pos e] at h; cases h; rw [← e]; exact List.mem_cons_self
    · rw [getI_neg e] at h; exact List.mem_cons_of_mem _ (ih h)
theorem getI_some_iff {kvs : List (Int × Int)} {k : Int} : (getI kvs k).isSome = true ↔ k ∈ kvs.map (·.1) := by
  rw [← any_getI, List.any_eq_true, List.mem_map]
  exact ⟨fun ⟨p, h1, h2⟩ => ⟨p, h1, of_decide_eq_true h2⟩, fun ⟨p, h1, h2⟩ => ⟨p, h1, decide_eq_true h2⟩⟩
theorem rpk_kdI {K : PySem.W.Frag} {F : Hp} : ∀ {kvs : List (Int × Int)} {ws : List (Key × V)}, RpK K F ws (kdI kvs) → ws = kvI kvs
  | [], _, .nil => rfl
  | p :: r, _, .cons h t => by
    have e := rpk_kdI (kvs := r) t
    rw [e, h.int_of]; rfl
theorem rpk_of {K : PySem.W.Frag} {F : Hp} : ∀ kvs : List (Int × Int), RpK K F (kvI kvs) (kdI kvs)
  | [] => .nil
  | p :: r => .cons (.int _) (rpk_of r)
theorem kvI_len (kvs : List (Int × Int)) : (kvI kvs).length = kvs.length := List.length_map ..
theorem Rp.dki_of {K : PySem.W.Frag} {F : Hp} {v : V} {kvs : List (Int × Int)} (h : Rp K F v (.dki kvs)) : ∃ a o, v = .ref a ∧ F a = some (.frz o (.dK (kvI kvs))) := by cases h with | dki h => exact ⟨_, _, rfl, h⟩
/-- a dict of ints that may be looked at -/
def IsDI (d : DV) (kvs : List (Int × Int)) (M : Ms) : Prop := d = .dki kvs ∨ ∃ a, d = .raw (.ref a) ∧ (a, MO.dK (kdI kvs)) ∈ M
theorem IsDI.rd {K : PySem.W.Frag} {F H : Hp} {M : Ms} {v : V} {d : DV} {kvs : List (Int × Int)} (h : IsDI d kvs M) (w : Wd K F M H) (r : Rp K F v d) : ∃ a, v = .ref a ∧ Rd H a (.dK (kvI kvs)) := by
  rcases h with rfl | ⟨a, rfl, hm⟩
  · obtain ⟨a, o, rfl, h⟩ := r.dki_of
    exact ⟨a, rfl, .inr ⟨o, w.fr _ _ h⟩⟩
  · cases r.raw_of
    obtain ⟨_, ws, h1, h2⟩ := w.ce a _ hm
    rw [rpk_kdI h2] at h1
    exact ⟨a, rfl, .inl h1⟩
theorem IsDI.at {d : DV} {kvs : List (Int × Int)} {M N : Ms} (h : IsDI d kvs M) : IsDI d kvs (N ++ M) := h.imp id fun ⟨a, h1, h2⟩ => ⟨a, h1, List.mem_append_right N h2⟩
section
variable {K : KB} {ρ : Rho} {M M' : Ms} {te td ty tv tx : TE} {R : DV → Ms → Prop} {P : Post} {d : DV}
def DGetI (d : DV) (k : DV) (M : Ms) (R : DV → Ms → Prop) : Prop := ∃ kvs i v, k = .int i ∧ IsDI d kvs M ∧ getI kvs i = some v ∧ R (.int v) M
theorem DGetI.mk {kvs : List (Int × Int)} {i v : Int} (h : IsDI d kvs M) (hv : getI kvs i = some v) (k : R (.int v) M) : DGetI d (.int i) M R := ⟨kvs, i, v, rfl, h, hv, k⟩
/-- d[k] -/
theorem evr_dgetI (h : EvR K td ρ M fun d M1 => EvR K ty ρ M1 fun k M2 => DGetI d k M2 R) : EvR K (tDGet td ty) ρ M R := fun N F σ H S Q q =>
  h N F σ H S _ fun u d M1 F1 H1 e1 h1 w1 r1 => h1 N F1 σ H1 ⟨w1, S.e.mono e1, S.bm e1⟩ _ fun y k M2 F2 H2 e2 ⟨kvs, i, v, hk, hd, hv, hR⟩ w2 r2 => by
    subst hk
    cases r2.int_of
    obtain ⟨a, rfl, ha⟩ := hd.at.rd w2 (r1.mono e2)
    exact ⟨a, .int v, rfl, .inl ⟨_, .inl i, ha, rfl, by rw [valV_kvI, hv]; rfl⟩, q _ _ M2 F2 H2 (e1.trans e2) hR w2 (.int _)⟩
def DInI (d : DV) (k : DV) (M : Ms) (R : Bool → Prop) : Prop := ∃ kvs i, k = .int i ∧ IsDI d kvs M ∧ R (getI kvs i).isSome
theorem DInI.mk {kvs : List (Int × Int)} {i : Int} {RB : Bool → Prop} (h : IsDI d kvs M) (k : RB (getI kvs i).isSome) : DInI d (.int i) M RB := ⟨kvs, i, rfl, h, k⟩
/-- k in d -/
theorem evr_dinI (h : EvR K ty ρ M fun k M1 => EvR K td ρ M1 fun d M2 => DInI d k M2 fun b => R (.bl b) M2) : EvR K (tDIn ty td) ρ M R := fun N F σ H S Q q =>
  h N F σ H S _ fun u k M1 F1 H1 e1 h1 w1 r1 => h1 N F1 σ H1 ⟨w1, S.e.mono e1, S.bm e1⟩ _ fun y d M2 F2 H2 e2 ⟨kvs, i, hk, hd, hR⟩ w2 r2 => by
    subst hk
    cases r1.int_of
    obtain ⟨a, rfl, ha⟩ := hd.at.rd w2 r2
    refine ⟨a, _, rfl, .inl ⟨_, .inl i, ha, rfl, rfl⟩, ?_⟩
    rw [valV_kvI, Option.isSome_map]
    exact q _ _ M2 F2 H2 (e1.trans e2) hR w2 (.bl _)
theorem evr_dnotinI (h : EvR K ty ρ M fun k M1 => EvR K td ρ M1 fun d M2 => DInI d k M2 fun b => R (.bl (!b)) M2) : EvR K (tDNotIn ty td) ρ M R := fun N F σ H S Q q =>
  h N F σ H S _ fun u k M1 F1 H1 e1 h1 w1 r1 => h1 N F1 σ H1 ⟨w1, S.e.mono e1, S.bm e1⟩ _ fun y d M2 F2 H2 e2 ⟨kvs, i, hk, hd, hR⟩ w2 r2 => by
    subst hk
    cases r1.int_of
    obtain ⟨a, rfl, ha⟩ := hd.at.rd w2 r2
    refine ⟨a, _, rfl, .inl ⟨_, .inl i, ha, rfl, rfl⟩, ?_⟩
    rw [valV_kvI, Option.isSome_map]
    exact q _ _ M2 F2 H2 (e1.trans e2) hR w2 (.bl _)
/-- d.get(k, x) -/
def DGet2I (d k x : DV) (M : Ms) (R : DV → Ms → Prop) : Prop := ∃ kvs i j, k = .int i ∧ x = .int j ∧ IsDI d kvs M ∧ R (.int ((getI kvs i).getD j)) M
theorem DGet2I.mk {kvs : List (Int × Int)} {i j : Int} (h : IsDI d kvs M) (k : R (.int ((getI kvs i).getD j)) M) : DGet2I d (.int i) (.int j) M R := ⟨kvs, i, j, rfl, rfl, h, k⟩
theorem evr_dget2I (h : EvR K td ρ M fun d M1 => (∃ kvs, IsDI d kvs M1) ∧ EvR K ty ρ M1 fun k M2 => EvR K tx ρ M2 fun x M3 => DGet2I d k x M3 R) : EvR K (tDGet2 td ty tx) ρ M R := fun N F σ H S Q q =>
  h N F σ H S _ fun u d M1 F1 H1 e1 ⟨⟨kvs0, hd0⟩, h1⟩ w1 r1 => by
    obtain ⟨a, rfl, ha⟩ := hd0.at.rd w1 r1
    refine ⟨a, rfl, .inl ⟨_, ha⟩, h1 N F1 σ H1 ⟨w1, S.e.mono e1, S.bm e1⟩ _ fun y k M2 F2 H2 e2 h2 w2 r2 => h2 N F2 σ H2 ⟨w2, S.e.mono (e1.trans e2), S.bm (e1.trans e2)⟩ _ fun z x M3 F3 H3 e3 ⟨kvs, i, j, hk, hx, hd, hR⟩ w3 r3 => ?_⟩
    subst hk hx
    cases r2.int_of
    cases r3.int_of
    obtain ⟨a', e, ha'⟩ := hd.at.rd w3 (r1.mono (e2.trans e3))
    cases e
    refine ⟨_, .inl ⟨_, .inl i, ha', rfl, rfl⟩, ?_⟩
    rw [valV_kvI]
    have e4 : ((getI kvs i).map V.int).getD (V.int j) = V.int ((getI kvs i).getD j) := by cases getI kvs i <;> rfl
    rw [e4]
    exact q _ _ M3 F3 H3 ((e1.trans e2).trans e3) hR w3 (.int _)
/-- d[k] = v, of an owned one -/
def DPutI (d k v : DV) (M : Ms) (R : Ms → Prop) : Prop := ∃ n a kvs i j, d = .raw (.ref a) ∧ k = .int i ∧ v = .int j ∧ M[n]? = some (a, MO.dK (kdI kvs)) ∧ kvs.length < 1000 ∧ R (M.set n (a, .dK (kdI (putI kvs i j))))
theorem DPutI.mk {n : Nat} {a : Addr} {kvs : List (Int × Int)} {i j : Int} {R : Ms → Prop} (hi : M[n]? = some (a, MO.dK (kdI kvs))) (hl : kvs.length < 1000) (k : R (M.set n (a, .dK (kdI (putI kvs i j))))) : DPutI (.raw (.ref a)) (.int i) (.int j) M R := ⟨n, a, kvs, i, j, rfl, rfl, rfl, hi, hl, k⟩
theorem xs_dputI (h : EvR K tv ρ M fun v M1 => EvR K td ρ M1 fun d M2 => EvR K ty ρ M2 fun k M3 => DPutI d k v M3 (P.nx ρ)) : XS K (sDPut td ty tv) ρ M P := fun N F σ H D S e =>
  h N F σ H S _ fun v dv M1 F1 H1 e1 h1 w1 r1 => h1 N F1 σ H1 ⟨w1, S.e.mono e1, S.bm e1⟩ _ fun u d M2 F2 H2 e2 h2 w2 r2 =>
    h2 N F2 σ H2 ⟨w2, S.e.mono (e1.trans e2), S.bm (e1.trans e2)⟩ _ fun y k M3 F3 H3 e3 ⟨n, a, kvs, i, j, hd, hk, hv, hi, hn, hq⟩ w3 r3 => by
      subst hd hk hv
      cases r2.raw_of
      cases r1.int_of
      cases r3.int_of
      have hi' : (N ++ M3)[N.length + n]? = some (a, MO.dK (kdI kvs)) := by rw [List.getElem?_append_right (Nat.le_add_right _ _), Nat.add_sub_cancel_left]; exact hi
      obtain ⟨_, ws, ha, hr⟩ := w3.ce a _ (List.mem_of_getElem? hi')
      rw [rpk_kdI hr] at ha
      refine ⟨a, _, rfl, .inl ⟨_, .inl i, ha, rfl, by rw [kvI_len, sizeLine_eq]; omega, rfl⟩, ?_⟩
      rw [putK_kvI]
      have w5 := w3.put hi' (mo' := .dK (kdI (putI kvs i j))) (o := .dK (kvI (putI kvs i j))) ⟨_, upd_same, rpk_of _⟩
      rw [List.set_append_right _ _ (Nat.le_add_right _ _), Nat.add_sub_cancel_left] at w5
      have e13 := (e1.trans e2).trans e3
      exact e.nx _ _ _ _ _ e13 hq ⟨w5, S.e.mono e13, S.bm e13⟩
end
/-! ### an owned dict stays from now on -/
def tFrz (t : TE) : TE := fun σ H Q => t σ H fun v H' => Q v H' ∨ ∃ d kvs, v = .ref d ∧ H' d = some (.dK kvs) ∧ ∀ od, Q v (upd H' d (.frz od (.dK kvs)))
theorem pe_frz {X : Cx} {e : Expr} {t : TE} (h : PE X e t) : PE X e (tFrz t) := by
  refine ⟨fun pins s σ H Q I hw => ?_⟩
  refine thn (h.run pins s σ H _ I hw) fun v s1 ⟨x, H1, I1, r, q⟩ => ?_
  rcases q with q | ⟨d, kvs, hx, hd, q⟩
  · exact ⟨x, H1, I1, r, q⟩
  · obtain ⟨od, I2⟩ := I1.lock hd (by trivial)
    exact ⟨x, _, I2, r, q od⟩
theorem Wd.freezeD {K : PySem.W.Frag} {F H : Hp} {M : Ms} {a : Addr} {kvs : List (Int × Int)} (w : Wd K F ((a, .dK (kdI kvs)) :: M) H) (od : Obj) :
    H a = some (.dK (kvI kvs)) ∧ ∃ F', Ex F F' ∧ Wd K F' M (upd H a (.frz od (.dK (kvI kvs)))) ∧ Rp K F' (.ref a) (.dki kvs) := by
  obtain ⟨hn, ws, hv, hr⟩ := w.ce a _ List.mem_cons_self
  rw [rpk_kdI hr] at hv
  have e := ex_new (o := .frz od (.dK (kvI kvs))) hn
  refine ⟨hv, upd F a (.frz od (.dK (kvI kvs))), e, ⟨fun b u hb => ?_, fun b u hb => ?_, (List.nodup_cons.mp w.nd).2⟩, .dki upd_same⟩
  · by_cases eb : b = a
    · subst eb; rw [upd_same] at hb ⊢; exact hb
    · rw [upd_ne eb] at hb ⊢; exact w.fr b u hb
  · have hne : b ≠ a := fun z => (List.nodup_cons.mp w.nd).1 (List.mem_map.mpr ⟨(b, u), hb, z⟩)
    have := w.ce b u (List.mem_cons_of_mem _ hb)
    exact ⟨by rw [upd_ne hne]; exact this.1, this.2.mono e (upd_ne hne)⟩
section
variable {K : KB} {ρ : Rho} {M M' : Ms} {te td : TE} {R : DV → Ms → Prop}
theorem evr_frzD (h : EvR K te ρ M fun d M1 => ∃ a kvs M2, d = .raw (.ref a) ∧ M1 = (a, .dK (kdI kvs)) :: M2 ∧ R (.dki kvs) M2) : EvR K (tFrz te) ρ M R := fun N F σ H Z Q q =>
  h N F σ H Z _ fun v d M1 F1 H1 e1 ⟨a, kvs, M2, hd, hm, hr⟩ w1 r1 => by
    subst hd hm
    cases r1.raw_of
    have w2 := w1.perm (List.perm_middle.symm)
    refine .inr ⟨a, _, rfl, (w2.freezeD default).1, fun od => ?_⟩
    obtain ⟨_, F2, e2, w3, r3⟩ := w2.freezeD od
    exact q _ _ M2 F2 _ (e1.trans e2) hr w3 r3
theorem evr_frzN (h : EvR K te ρ M R) : EvR K (tFrz te) ρ M R := fun N F σ H Z Q q => h N F σ H Z _ fun v d M1 F1 H1 e1 hr w1 r1 => .inl (q v d M1 F1 H1 e1 hr w1 r1)
/-! ### the keys, walked -/
theorem ei_keysI {RM : Ms → Prop} {kvs : List (Int × Int)} (h : EvR K td ρ M fun d M' => d = .dki kvs ∧ RM M') : EvI K (iKeys td) ρ M [] kvs.length (fun i => .int ((kvs.map (·.1)).getD i 0)) RM := fun N F σ H S Q q =>
  h N F σ H S _ fun v d M1 F1 H1 e1 ⟨hd, hr⟩ w1 r1 => by
    subst hd
    obtain ⟨a, o, rfl, ha⟩ := r1.dki_of
    refine ⟨a, o, rfl, .inl ⟨_, w1.fr _ _ ha, q _ M1 F1 H1 e1 hr w1 ⟨fun i F2 M2 H2 hi e2 w2 _ => ?_, fun F2 M2 H2 e2 w2 _ => ?_, fun i F2 M2 H2 x H3 hi e2 w2 _ hy => ?_⟩⟩⟩
    · exact (walk_keys (kvs := kvI kvs)).goes i H2 (by rw [kvI_len]; exact hi) ((e2.trans w2.fr) _ _ ha)
    · have := (walk_keys (kvs := kvI kvs)).stops H2 ((e2.trans w2.fr) _ _ ha)
      rw [kvI_len] at this; exact this
    · obtain ⟨rfl, k, v, hkv, rfl⟩ := (walk_keys (kvs := kvI kvs)).yields i H2 x H3 (by rw [kvI_len]; exact hi) ((e2.trans w2.fr) _ _ ha) hy
      unfold kvI at hkv
      rw [List.getElem?_map] at hkv
      cases e : kvs[i]? with
      | none => rw [e] at hkv; cases hkv
      | some p =>
        rw [e] at hkv
        cases hkv
        refine ⟨F2, Evl.Ex.refl _, w2, ?_⟩
        have : (kvs.map (·.1)).getD i 0 = p.1 := by rw [List.getD_eq_getElem?_getD, List.getElem?_map, e]; rfl
        rw [this]
        exact .int _
end
/-! ### len(d), list(d) -/
def rLenDI : List V → Hp → VK → Prop := fun xs H Q => ∃ a kvs, xs = [V.ref a] ∧ Rd H a (.dK kvs) ∧ Q (.int kvs.length) H
theorem wLenDI {X : Cx} : CallR X (.builtin "len") rLenDI := by
  intro pins s σ H xs us Q I r h
  obtain ⟨a, kvs, rfl, ha, q⟩ := h
  obtain ⟨u, rfl, ru⟩ := vals1 r
  cases ru
  exact d_len I ha fun t s' I' => ⟨.int kvs.length, H, I', ⟨t, rfl⟩, q⟩
def rListDI : List V → Hp → VK → Prop := fun xs H Q => ∃ (a : Addr) (kvs : List (Key × V)), xs = [.ref a] ∧ Rd H a (.dK kvs) ∧ ∀ p, H p = none → Q (.ref p) (upd H p (.lst (kvs.map fun kv => kV kv.1)))
theorem wListDI {X : Cx} (hc : X.calm = true) : CallR X (.type "list") rListDI := call_listD hc
section
variable {K : PySem.W.Frag} {M : Ms} {d : DV} {kvs : List (Int × Int)}
theorem rc_lenDI (h : IsDI d kvs M) : RC K rLenDI [d] M (.int kvs.length) := fun N F us H w hr Q k => by
  obtain ⟨u, rfl, r1⟩ := rpa1 hr
  obtain ⟨a, rfl, ha⟩ := h.at.rd w r1
  refine ⟨a, _, rfl, ha, ?_⟩
  rw [kvI_len]
  exact k _ _ M F H (Evl.Ex.refl F) ⟨rfl, rfl⟩ w (.int _)
theorem rc_listDI (h : IsDI d kvs M) : RC K rListDI [d] M (.lst ((kvs.map (·.1)).map .int)) := fun N F us H w hr Q k => by
  obtain ⟨u, rfl, r1⟩ := rpa1 hr
  obtain ⟨a, rfl, ha⟩ := h.at.rd w r1
  refine ⟨a, _, rfl, ha, fun p hp => ?_⟩
  have hn := w.fresh hp
  have e : ((kvI kvs).map fun kv => kV kv.1) = (kvs.map (·.1)).map V.int := by unfold kvI; rw [List.map_map, List.map_map]; rfl
  rw [e]
  exact k _ _ M _ _ (ex_new hn) ⟨rfl, rfl⟩ (w.new hp _) (.lst upd_same (RpA.ints _))
end
end DD
namespace DD
open PySem PySem.Spec PyProof.Rows L2
/-! ### sorted(list of tuples of ints), of any lengths from 1 on -/
abbrev tupI (xs : List Int) : DV := .tup (xs.map .int)
def tupPy (xs : List Int) : PyData := .tuple (xs.map .int)
theorem toPyA_intsI : ∀ xs : List Int, toPyA (xs.map .int) = some (xs.map .int)
  | [] => rfl
  | x :: xs => by
    show (match toPy (.int x), toPyA (xs.map .int) with | some y, some ys => some (y :: ys) | _, _ => none) = _
    rw [toPyA_intsI xs]; rfl
theorem toPy_tupI (xs : List Int) : toPy (tupI xs) = some (tupPy xs) := by
  show (toPyA (xs.map .int)).map PyData.tuple = _
  rw [toPyA_intsI]; rfl
theorem dataLe_tups : PySem.W.dataLe false tupPy = fun p q => decide (p ≤ q) := by
  funext p q
  show (!PySem.W.dataLt (.tuple (q.map .int)) (.tuple (p.map .int))) = _
  rw [PySem.W.dataLt_tuple]
  show (!PySem.W.rowLt (q.map .int) (p.map .int)) = _
  rw [PySem.W.dataLt_ints]
  by_cases h : q < p
  · have h' : ¬ p ≤ q := fun r => List.not_lt.mpr r h
    simp [h, h']
  · have h' : p ≤ q := List.not_lt.mp h
    simp [h, h']
def rSortTups (K : PySem.W.Frag) : List V → Hp → VK → Prop := fun vs H Q => ∃ (a : Addr) (xs : List V) (L : List (V × List Int)), vs = [.ref a] ∧ SqL K H a xs ∧ xs = L.map (·.1) ∧ L.length ≤ 1000 ∧ (∀ p ∈ L, p.2 ≠ [] ∧ Dp K H p.1 (tupPy p.2)) ∧
  ∀ (L' : List (V × List Int)) p, L' = L.mergeSort (fun x y => decide (x.2 ≤ y.2)) → H p = none → Q (.ref p) (upd H p (.lst (L'.map (·.1))))
theorem each_pair {L : List (V × List Int)} : ∀ {L : List (V × List Int)} {us : List Value}, Vals (L.map (·.1)) us → PySem.W.EachIs (fun u (p : V × List Int) => RelV p.1 u) us L
  | [], _, .nil => .nil
  | p :: r, _, .cons h t => .cons h (each_pair (L := L) t)
theorem pair_each : ∀ {L : List (V × List Int)} {us : List Value}, PySem.W.EachIs (fun u (p : V × List Int) => RelV p.1 u) us L → Vals (L.map (·.1)) us
  | [], _, .nil => .nil
  | p :: r, _, .cons h t => .cons h (pair_each t)
theorem each_rd {X : Cx} {pins : List (Addr × Obj)} {σ : L2.St} {H : Hp} {s : Shared} (I : Inv X pins σ H s) : ∀ {L : List (V × List Int)} {us : List Value}, (∀ p ∈ L, Dp X.K H p.1 (tupPy p.2)) → Vals (L.map (·.1)) us → PySem.W.EachIs (fun u (p : V × List Int) => ∃ as, Reads s.heap u (tupPy p.2) as) us L
  | [], _, _, .nil => .nil
  | p :: r, _, h, .cons q t => .cons (Dp.reads I _ _ _ (h p List.mem_cons_self) q) (each_rd I (fun p hp => h p (List.mem_cons_of_mem _ hp)) t)
theorem cr_sortTups {X : Cx} {k : Nat} (hr : Room k X.A) : CallR X (.builtin "sorted") (rSortTups X.K) := by
  intro pins s σ H xs us Q I r h
  obtain ⟨a, xs, L, rfl, hs, rfl, hl, hd, q⟩ := h
  obtain ⟨u, rfl, ru⟩ := vals1 r
  cases (show u = Value.ref a from ru)
  obtain ⟨its, rv, pl, hz⟩ := I.list hs
  refine PySem.W.sorted_data (enc := fun p : V × List Int => tupPy p.2) (R := fun u (p : V × List Int) => RelV p.1 u) (bs := L) pl.isList (each_pair (L := L) (by simpa using rv)) (each_rd I (fun p hp => (hd p hp).2) (by simpa using rv)) (PySem.W.AllAlike.of fun p p' => ?_) (.inl fun d hd' => ?_) (by rw [sizeLine_eq]; omega) (fun p hp => ?_) fun out ho eo => ?_
  · show PySem.W.alikeAll (p.2.map .int) (p'.2.map .int) = true
    exact PySem.W.alike_ints _ _
  · obtain ⟨p, hp, rfl⟩ := List.mem_map.mp hd'
    obtain ⟨h1, _⟩ := hd p hp
    cases e : p.2 with
    | nil => exact absurd e h1
    | cons x t => exact ⟨.int x, t.map .int, rfl⟩
  · have : (tupPy p.2).depth = 1 := by show PyData.depthAll (p.2.map .int) + 1 = 1; rw [PySem.W.depth_ints]
    rw [this]
    have := hr.un
    omega
  · obtain ⟨c, hc⟩ := sortedAll_at s.heap its (List.toArray out)
    have e1 : (fun p p' : V × List Int => PySem.W.dataLe false (fun p : V × List Int => tupPy p.2) p p') = fun x y => decide (x.2 ≤ y.2) := by
      funext p p'
      exact congrFun (congrFun dataLe_tups p.2) p'.2
    have e2 : PySem.W.dataLe false (fun p : V × List Int => tupPy p.2) = fun x y => decide (x.2 ≤ y.2) := e1
    rw [e2] at eo
    have hv := pair_each eo
    have nw : H (s.heap.objs.size + 1) = none := I.hok.fresh (Nat.le_succ _)
    refine ⟨.ref (s.heap.objs.size + 1), upd H (s.heap.objs.size + 1) (.lst ((L.mergeSort fun x y => decide (x.2 ≤ y.2)).map (·.1))), I.laid (t' := s.toks) (fun b u e => sortedAll_old e) (Nat.le_succ _) ?_, rfl, q _ _ rfl nw⟩
    show ObjOk X.prog X.w _ _ _ (.lst _)
    refine ⟨by rw [List.length_map, List.length_mergeSort, sizeLine_eq]; omega, out, c, hv, ?_⟩
    exact hc
theorem wSortTups {X : Cx} (K : PySem.W.Frag) (hK : X.K = K) {k : Nat} (hr : Room k X.A) : CallR X (.builtin "sorted") (rSortTups K) := hK ▸ cr_sortTups hr
theorem zip_rpa {K : PySem.W.Frag} {F H : Hp} (ex : Ex F H) : ∀ {vs : List V} {rows : List (List Int)}, RpA K F vs (rows.map tupI) → vs = (vs.zip rows).map (·.1) ∧ (vs.zip rows).map (·.2) = rows ∧ ∀ p ∈ vs.zip rows, Rp K F p.1 (tupI p.2) ∧ p.2 ∈ rows
  | _, [], .nil => ⟨rfl, rfl, fun p h => nomatch h⟩
  | _, x :: r, .cons (v := v) (vs := vs) h t => by
    obtain ⟨a, b, c⟩ := zip_rpa ex (rows := r) t
    refine ⟨by rw [List.zip_cons_cons, List.map_cons, ← a], by rw [List.zip_cons_cons, List.map_cons, b], fun p hp => ?_⟩
    rw [List.zip_cons_cons] at hp
    rcases List.mem_cons.mp hp with rfl | hp
    · exact ⟨h, List.mem_cons_self⟩
    · exact ⟨(c p hp).1, List.mem_cons_of_mem _ (c p hp).2⟩
theorem unzip_rpa {K : PySem.W.Frag} {F : Hp} : ∀ {L : List (V × List Int)}, (∀ p ∈ L, Rp K F p.1 (tupI p.2)) → RpA K F (L.map (·.1)) ((L.map (·.2)).map tupI)
  | [], _ => .nil
  | p :: r, h => .cons (h p List.mem_cons_self) (unzip_rpa fun q hq => h q (List.mem_cons_of_mem _ hq))
def sortRows (rows : List (List Int)) : List (List Int) := rows.mergeSort fun x y => decide (x ≤ y)
theorem rc_sortTups {K : PySem.W.Frag} {M : Ms} {rows : List (List Int)} (hl : rows.length ≤ 1000) (hn : ∀ r ∈ rows, r ≠ []) : RC K (rSortTups K) [.lst (rows.map tupI)] M (.lst ((sortRows rows).map tupI)) := fun N F us H w hr Q k => by
  obtain ⟨u, rfl, r1⟩ := rpa1 hr
  obtain ⟨a, xs, rfl, ha, ra⟩ := r1.lst_of
  obtain ⟨e1, e2, e3⟩ := zip_rpa w.fr ra
  refine ⟨a, xs, xs.zip rows, rfl, SqL.of (w.fr _ _ ha), e1, by rw [List.length_zip]; omega, fun p hp => ⟨hn _ (e3 p hp).2, (e3 p hp).1.dp w.fr (toPy_tupI _)⟩, fun L' p hL hp => ?_⟩
  have hnw := w.fresh hp
  have hm : ∀ q ∈ L', Rp K F q.1 (tupI q.2) := fun q hq => by
    rw [hL] at hq
    exact (e3 q ((List.mergeSort_perm _ _).mem_iff.mp hq)).1
  have e4 : L'.map (·.2) = sortRows rows := by
    rw [hL]
    have := PySem.W.sort_maps (r := fun x y : V × List Int => decide (x.2 ≤ y.2)) (s := fun x y : List Int => decide (x ≤ y)) (fun p : V × List Int => p.2) (l := xs.zip rows) fun a _ b _ => rfl
    rw [this, e2]; rfl
  have hx := ex_new (o := .lst (L'.map (·.1))) hnw
  have := (unzip_rpa hm).mono hx
  rw [e4] at this
  exact k _ _ M _ _ hx ⟨rfl, rfl⟩ (w.new hp _) (.lst upd_same this)
end DD
/-! ### xs[::-1] of a tuple; sorted(a tuple of ints) -/
namespace HT
open PySem PySem.Spec PyProof.Rows L2
section
variable {prog : Program} {w : World} {A : Around} {E : Value → Shared → Prop} {s : Shared}
theorem pick_rev (xs : Array Value) : ((List.range xs.size).filterMap fun (m : Nat) => xs[((xs.size : Int) - 1 + (m : Int) * (-1)).toNat]?).toArray = xs.toList.reverse.toArray := by
  have e : ∀ k, k ≤ xs.size → (List.range k).filterMap (fun (m : Nat) => xs[((xs.size : Int) - 1 + (m : Int) * (-1)).toNat]?) = (xs.toList.reverse).take k := by
    intro k hk
    induction k with
    | zero => simp
    | succ k ih =>
      have e1 : ((xs.size : Int) - 1 + (k : Int) * (-1)).toNat = xs.size - 1 - k := by omega
      have hl : xs.toList.reverse.length = xs.size := by rw [List.length_reverse, Array.length_toList]
      have e2 : xs[xs.size - 1 - k]? = some (xs.toList.reverse[k]'(by rw [hl]; omega)) := by
        rw [← Array.getElem?_toList, List.getElem_reverse, ← List.getElem?_eq_getElem]
        rfl
      rw [List.range_succ, List.filterMap_append, ih (by omega), List.filterMap_cons, e1, e2, List.take_succ_eq_append_getElem (by rw [hl]; omega)]
      rfl
  rw [e xs.size (Nat.le_refl _), List.take_of_length_le (by rw [List.length_reverse, Array.length_toList]; exact Nat.le_refl _)]
theorem places_rev (n : Nat) : Builtin.Slice.slicePlaces ((n : Int) - 1) (-1) (-1) = n := by
  unfold Builtin.Slice.slicePlaces
  have h1 : ¬ ((-1 : Int) > 0) := by omega
  simp only [h1, if_false, Int.neg_neg, Int.ediv_one]
  split <;> omega
theorem sliceApplied_rev {sl : Addr} {vl vu vs : Value} {n : Nat} {Q : Int × Int × Nat → Shared → Prop} (hs : s.heap.IsSliceOf sl vl vu vs) (pl : IsPart vl none) (pu : IsPart vu none) (ps : IsPart vs (some (-1)))
    (h : Q ((n : Int) - 1, -1, n) s) : wpAny (model prog w) A (Builtin.Slice.sliceApplied (.ref sl) (pure (n : Int))) Q E s := by
  obtain ⟨os, hos, hcs, hds⟩ := id hs
  unfold Builtin.Slice.sliceApplied Builtin.Slice.sliceFields
  refine wpAny_bind (wpAny_bind (wpAny_field hos hds (x := vl) rfl (wpAny_bind (wpAny_field hos hds (x := vu) rfl (wpAny_bind (wpAny_field hos hds (x := vs) rfl (wpAny_pure ?_)))))))
  refine wpAny_bind (slicePart_ ps ?_)
  show wpAny _ _ (if ((-1 : Int) == 0) = true then _ else _) _ _ s
  rw [if_neg (by decide)]
  refine wpAny_bind (slicePart_ pl (wpAny_bind (slicePart_ pu (wpAny_bind (wpAny_pure ?_)))))
  show wpAny _ _ (pure ((n : Int) - 1, (-1 : Int), Builtin.Slice.slicePlaces ((n : Int) - 1) (-1) (-1))) _ _ s
  rw [places_rev]
  exact wpAny_pure h
theorem getItem_tuple_rev {t sl : Addr} {items : Array Value} {vl vu vs : Value} {Q : Value → Shared → Prop} (ht : IsTup s.heap t items) (hs : s.heap.IsSliceOf sl vl vu vs) (pl : IsPart vl none) (pu : IsPart vu none) (ps : IsPart vs (some (-1)))
    (h : Q (.ref s.heap.objs.size) { s with heap := s.heap.push { cls := .type "tuple", data := .seq items.toList.reverse.toArray } }) (hsz : items.size ≤ sizeLine) : wpAny (model prog w) A (getItem (.ref t) (.ref sl)) Q E s := by
  have htake : sizeOk (.seq items.toList.reverse.toArray) := by
    show items.toList.reverse.toArray.size ≤ sizeLine
    rw [List.size_toArray, List.length_reverse, Array.length_toList]
    exact hsz
  obtain ⟨os, hos, hcs, hds⟩ := id hs
  have hTs : s.TypeIs (.ref sl) "slice" := ⟨os, hos, hcs⟩
  unfold getItem
  try with_reducible refine wpAny_holding ?_
  first | refine wpAny_bind (wpAny_pure ?_) | skip
  refine wpAny_bind (wpAny_sequenceKey ht.typeIs (by decide) ?_)
  refine wpAny_bind (wpAny_callSpecial?_slot (name := Str.ofString "__getitem__") ht.typeIs PyProof.Rows.slot_tuple_getitem
    (wpAny_call_entry PyProof.Rows.slot_tuple_getitem ht.typeIs entry_tuple_getitem ?_ (args_tuple_getitem _ _)))
  show wpAny _ _ (Builtin.Tuple.tupleItemsOf (.ref t) >>= _) _ _ s
  refine wpAny_bind (tupleItemsOf_ ht ?_)
  refine wpAny_bind (wpAny_typeOf hTs ?_)
  rw [if_pos (by decide)]
  refine wpAny_bind (sliceApplied_rev hs pl pu ps ?_)
  have hno : ¬ ((((items.size : Int) - 1) == 0 && (-1 : Int) == 1 && items.size == items.size) = true) := by
    intro q
    rw [Bool.and_eq_true, Bool.and_eq_true] at q
    exact absurd q.1.2 (by decide)
  show wpAny _ _ (if ((((items.size : Int) - 1) == 0 && (-1 : Int) == 1 && items.size == items.size) = true) then _ else _) _ _ s
  rw [if_neg hno, pick_rev]
  first
    | exact wpAny_bind (m := Builtin.Tuple.tupleExact _) (wpAny_newObj_type (wpAny_pure ⟨_, rfl, wpAny_pure h⟩) htake)
    | exact wpAny_bind (m := Builtin.Tuple.tupleExact _) (wpAny_newObj_type (wpAny_bind (wpAny_pure (wpAny_pure ⟨_, rfl, wpAny_pure h⟩))) htake)
    | exact wpAny_bind (wpAny_bind (m := Builtin.Tuple.tupleExact _) (wpAny_newObj_type (wpAny_pure (wpAny_pure ⟨_, rfl, wpAny_pure h⟩)) htake))
    | exact wpAny_bind (wpAny_bind (m := Builtin.Tuple.tupleExact _) (wpAny_newObj_type (wpAny_pure ⟨_, rfl, wpAny_pure h⟩) htake))
theorem collect_tup {l : Addr} {vs : List Value} {Q : List Value → Shared → Prop} (hl : IsTup s.heap l vs.toArray)
    (h : Q vs { s with heap := (s.heap.push (seqObj "list" #[] 0)).update s.heap.objs.size (Obj.mapSeq (· ++ vs.toArray)) }) (hsz : vs.length ≤ sizeLine) :
    wpAny (model prog w) A (collect (.ref l)) Q E s := by
  obtain ⟨o, ho, hc, n, hd⟩ := id hl
  unfold collect
  refine wpAny_bind (wpAny_runValue (codeAny_builtin entry_proto_collect' ?_))
  show wpAny _ _ (do again (.builtin "list.__iadd__" ⟨[← newList [], .ref l], []⟩)) _ _ s
  refine wpAny_bind (wpAny_newList (wpAny_pure ⟨Code.quiet_builtin _ (by decide +kernel), codeAny_builtin entry_list_iadd' ?_⟩))
  show wpAny _ _ (Builtin.List.listExtendWith (.ref s.heap.objs.size) (.ref l) (.ref s.heap.objs.size)) _ _ { s with heap := s.heap.push (seqObj "list" #[] 0) }
  unfold Builtin.List.listExtendWith
  have ho' : (s.heap.push (seqObj "list" #[] 0)).get? l = some o := Heap.get?_push_of_some _ ho
  refine wpAny_bind (wpAny_typeOf (T := "tuple") ⟨o, ho', hc⟩ ?_)
  have ht : (Value.type "tuple" == Value.type "tuple") = true := by rfl
  rw [if_pos (by rw [ht]; simp)]
  refine wpAny_bind (listItems_at ho' hd ?_)
  refine wpAny_bind (listItems_at (xs := #[]) (n := 0) (Heap.get?_push_size _ rfl) rfl ?_)
  rw [if_neg (by simp)]
  refine wpAny_bind (listUpdate_at (xs := #[]) (n := 0) (Heap.get?_push_size _ rfl) rfl ?_ (Nat.zero_le _) (by show (#[] ++ vs.toArray).size ≤ sizeLine + 1; simp only [Array.size_append, List.size_toArray, List.length_nil]; omega))
  refine wpAny_pure ?_
  show wpAny (model prog w) A (do
      let o ← load s.heap.objs.size
      match o.data with
      | .seq xs _ => pure xs.toList
      | _ => unsupported "internal:collect") Q E { s with heap := (s.heap.push (seqObj "list" #[] 0)).update s.heap.objs.size (Obj.mapSeq (· ++ vs.toArray)) }
  refine wpAny_bind (wpAny_load (get?_update_seq (Heap.get?_push_size _ rfl) _) ?_)
  show wpAny _ _ (pure ((#[] : Array Value) ++ vs.toArray).toList) Q E _
  rw [show ((#[] : Array Value) ++ vs.toArray).toList = vs by simp]
  exact wpAny_pure h
end
end HT
namespace PySem.W
open PySem PySem.Calls PyProof.Rows
section
variable {prog : Program} {w : World} {A : Around} {E : Value → Shared → Prop} {s : Shared} {vs : List Value} {κ : PyProof.Rows.KeyKind}
theorem sorted_of_tup {l : Addr} {Q : Value → Shared → Prop} (hl : IsTup s.heap l vs.toArray) (S : SortsAt prog w A.in1.in1 { s with heap := sortingHeap (copyHeap s.heap vs) (s.heap.objs.size + 1) vs } κ vs) (hL : vs.length ≤ sizeLine)
    (h : Q (.ref (s.heap.objs.size + 1)) { s with heap := sortedAll s.heap vs (sortVals κ false vs vs).toArray }) : wpAny (model prog w) A (call (.builtin "sorted") [.ref l]) Q E s := by
  have body : ∀ E' : Value → Shared → Prop, wpAny (model prog w) A.in1.in1 (Builtin.«list.sort» ⟨[.ref (s.heap.objs.size + 1)], []⟩) (fun f s' => f = .done (.ret .none) ∧ Q (.ref (s.heap.objs.size + 1)) s') E' { s with heap := copyHeap s.heap vs } :=
    fun _ => list_sort_vals (s := { s with heap := copyHeap s.heap vs }) (copyHeap_at s.heap vs) S hL ⟨rfl, h⟩
  refine call_function_entry_kw kind_sorted plain_sorted entry_sorted (args_sorted1 _) ?_
  unfold Builtin.«sorted»
  refine wpAny_bind (m := checkCount "sorted" 1 1 _) (wpAny_pure ?_)
  refine wpAny_bind (HT.collect_tup hl ?_ hL)
  refine wpAny_bind (wpAny_newList ?_ hL)
  have hsz : ((s.heap.push (seqObj "list" #[] 0)).update s.heap.objs.size (Obj.mapSeq (· ++ vs.toArray))).objs.size = s.heap.objs.size + 1 := by
    rw [Heap.size_update, size_push']
  show wpAny _ _ _ _ _ { s with heap := copyHeap s.heap vs }
  rw [hsz]
  refine wpAny_bind (wpAny_holding (wpAny_call_entry_kw slot_list_sort ⟨_, copyHeap_at s.heap vs, rfl⟩ entry_list_sort ?body (args_list_sort _)))
  case body =>
    show wpAny (model prog w) A.in1.in1 (Builtin.«list.sort» ⟨[.ref (s.heap.objs.size + 1)], []⟩) _ _ _
    refine wpAny_mono (body _) (fun f s' hf => ?_) fun _ _ e => e
    obtain ⟨rfl, hq⟩ := hf
    exact ⟨_, rfl, wpAny_pure ⟨_, rfl, hq⟩⟩
end
end PySem.W
namespace DD
open PySem PySem.Spec PyProof.Rows L2
def tRevT (K : PySem.W.Frag) (te : TE) : TE := fun σ H Q => te σ H fun x H1 => ∃ a xs, x = .ref a ∧ SqT K H1 a xs ∧ ∀ p, H1 p = none → Q (.ref p) (upd H1 p (.tup xs.reverse))
theorem pe_revT {X : Cx} (K : PySem.W.Frag) (hK : X.K = K) {e : Expr} {te : TE} {k : Nat} {p1 p2 p3 pos : Pos} (he : PE X e te) : PE X (.Subscript e (.Slice none none (some (.UnaryOp .USub (.Constant (.int 1) k p1) p2)) p3) pos) (tRevT K te) := by
  subst hK
  refine ⟨fun pins s σ H Q I h => ?_⟩
  refine Subscript_ (thn (he.run pins s σ H _ I h) fun v s1 ⟨x, H1, I1, r1, q1⟩ => ?_)
  obtain ⟨a, xs, ex, hx, q⟩ := q1
  subst ex
  cases r1
  have hst : PO X (some (.UnaryOp .USub (.Constant (.int 1) k p1) p2)) (tPart (tUn (rU fun i => .int (-i)) (tC (.int 1)))) := po_some (pe_un un_neg pe_int)
  refine wpAny_Slice (thn (po_none.run pins s1 σ H1 (fun o H2 => o = none ∧ H2 = H1) I1 ⟨rfl, rfl⟩) fun vl s2 ⟨l, H2, I2, pl, el, e2⟩ => ?_)
  subst el e2
  refine thn (po_none.run pins s2 σ H2 (fun o H3 => o = none ∧ H3 = H2) I2 ⟨rfl, rfl⟩) fun vu s3 ⟨u, H3, I3, pu, eu, e3⟩ => ?_
  subst eu e3
  refine thn (hst.run pins s3 σ H3 (fun o H4 => o = some (-1) ∧ H4 = H3) I3 ⟨1, rfl, -1, rfl, rfl, rfl⟩) fun vs s4 ⟨o, H4, I4, ps, eo, e4⟩ => ?_
  subst eo e4
  have I5 : Inv X pins σ H4 { s4 with heap := s4.heap.push { cls := .type "slice", data := .fields #[vl, vu, vs] } } := I4.kept (t' := s4.toks) fun b ob q => Heap.get?_push_of_some _ q
  obtain ⟨its, r, ht, hz⟩ := I5.tuple hx
  have hlen := r.length
  show wpAny (model X.prog X.w) X.A (subscriptTail e (.Slice none none (some (.UnaryOp .USub (.Constant (.int 1) k p1) p2)) p3) (.ref a) (.ref s4.heap.objs.size)) (EP X pins σ Q) X.xe { s4 with heap := s4.heap.push { cls := .type "slice", data := .fields #[vl, vu, vs] } }
  refine tail_any (ops := [.ref a, .ref s4.heap.objs.size]) ht.typeIs (PyProof.Rows.slot_tuple_getitem.lookup) ?_ (by with_unfolding_all rfl)
  refine HT.getItem_tuple_rev ht (Heap.IsSliceOf.new _ vl vu vs) pl pu ps ?_ (by rw [List.size_toArray]; omega)
  refine ⟨.ref _, _, I5.laid (t' := s4.toks) (o := .tup xs.reverse) (fun b ob q => Heap.get?_push_of_some _ q) (Nat.le_refl _) ?_, rfl, q _ (I5.hok.fresh (Nat.le_refl _))⟩
  exact ⟨by rw [List.length_reverse]; exact hz, _, r.reverse, IsTup.new _ _⟩
theorem rpa_reverse {K : PySem.W.Frag} {F : Hp} : ∀ {vs : List V} {ds : List DV}, RpA K F vs ds → RpA K F vs.reverse ds.reverse
  | _, _, .nil => .nil
  | _, _, .cons h t => by
    rw [List.reverse_cons, List.reverse_cons]
    exact (rpa_reverse t).snoc h
section
variable {K : KB} {ρ : Rho} {M : Ms} {te : TE} {R : DV → Ms → Prop}
def RevR (R : DV → Ms → Prop) (d : DV) (M : Ms) : Prop := ∃ ds, d = .tup ds ∧ R (.tup ds.reverse) M
theorem RevR.mk {ds : List DV} (h : R (.tup ds.reverse) M) : RevR R (.tup ds) M := ⟨ds, rfl, h⟩
theorem evr_revT (h : EvR K te ρ M (RevR R)) : EvR K (tRevT K te) ρ M R := fun N F σ H S Q q =>
  h N F σ H S _ fun v d M1 F1 H1 e1 ⟨ds, hd, hR⟩ w1 r1 => by
    subst hd
    obtain ⟨a, xs, rfl, hs, hr⟩ := r1.tup_of
    refine ⟨a, xs, rfl, Evl.ex_t w1.fr hs, fun p hp => ?_⟩
    have hn := w1.fresh hp
    exact q _ _ M1 _ _ (e1.trans (ex_new hn)) hR (w1.new hp _) (.tup (SqT.of upd_same) ((rpa_reverse hr).mono (ex_new hn)))
end
/-! sorted(a tuple of ints) -/
def sortI (ns : List Int) : List Int := ns.mergeSort fun x y => decide (x ≤ y)
def rSortTI (K : PySem.W.Frag) : List V → Hp → VK → Prop := fun vs H Q => ∃ (a : Addr) (ns : List Int), vs = [.ref a] ∧ SqT K H a (ns.map V.int) ∧ ns.length ≤ 1000 ∧ ∀ p, H p = none → Q (.ref p) (upd H p (.lst ((sortI ns).map V.int)))
theorem each_int : ∀ {ns : List Int} {us : List Value}, Vals (ns.map V.int) us → PySem.W.EachIs (fun u (i : Int) => RelV (.int i) u) us ns
  | [], _, .nil => .nil
  | n :: r, _, .cons h t => .cons h (each_int (ns := r) t)
theorem int_each : ∀ {ns : List Int} {us : List Value}, PySem.W.EachIs (fun u (i : Int) => RelV (.int i) u) us ns → Vals (ns.map V.int) us
  | [], _, .nil => .nil
  | n :: r, _, .cons h t => .cons h (int_each t)
theorem cr_sortTI {X : Cx} {k : Nat} (hr : Room k X.A) : CallR X (.builtin "sorted") (rSortTI X.K) := by
  intro pins s σ H xs us Q I r h
  obtain ⟨a, ns, rfl, hs, hl, q⟩ := h
  obtain ⟨u, rfl, ru⟩ := vals1 r
  cases (show u = Value.ref a from ru)
  obtain ⟨its, rv, pl, hz⟩ := I.tuple hs
  have e := each_int rv
  have hlen : its.length = ns.length := by rw [← rv.length, List.length_map]
  have er : ∀ h' : Heap, PySem.W.EachIs (fun v (b : Int) => ∃ as, Reads h' v (PyData.int b) as) its ns := fun h' => e.mono fun v b ⟨t, hv⟩ => ⟨_, by rw [hv]; exact .int b t⟩
  have hal : PySem.W.AllAlike (ns.map PyData.int) := PySem.W.AllAlike.of fun b b' => rfl
  refine PySem.W.sorted_of_tup (κ := PySem.W.dataKind (PySem.W.sortingHeap (PySem.W.copyHeap s.heap its) (s.heap.objs.size + 1) its) (ns.map PyData.int)) pl (PySem.W.SortsAt.data (PySem.W.each_map (R := fun v d => ∃ as, Reads _ v d as) PyData.int (er _)) hal (PySem.W.Sortable.others (enc := PyData.int) fun b => ⟨by simp, by simp⟩) (fun d hd => ?_)) (by rw [hlen, sizeLine_eq]; omega) ?_
  · obtain ⟨b, _, rfl⟩ := List.mem_map.mp hd
    have := hr.un
    show X.A.units + 2 + 0 < cLine
    omega
  · have eo := PySem.W.sortVals_data (enc := PyData.int) (R := fun u (i : Int) => RelV (.int i) u) false e (er (PySem.W.sortingHeap (PySem.W.copyHeap s.heap its) (s.heap.objs.size + 1) its)) hal
    generalize PySem.W.sortVals _ false its its = out at eo ⊢
    obtain ⟨c, hc⟩ := sortedAll_at s.heap its (List.toArray out)
    have e2 : PySem.W.dataLe false PyData.int = fun x y => decide (x ≤ y) := PySem.W.dataLe_int (fun b : Int => b)
    rw [e2] at eo
    have hv := int_each eo
    have nw : H (s.heap.objs.size + 1) = none := I.hok.fresh (Nat.le_succ _)
    refine ⟨.ref (s.heap.objs.size + 1), upd H (s.heap.objs.size + 1) (.lst ((sortI ns).map V.int)), I.laid (t' := s.toks) (fun b u e => sortedAll_old e) (Nat.le_succ _) ?_, rfl, q _ nw⟩
    show ObjOk X.prog X.w _ _ _ (.lst _)
    refine ⟨by rw [List.length_map]; unfold sortI; rw [List.length_mergeSort, sizeLine_eq]; omega, out, c, hv, ?_⟩
    exact hc
theorem wSortTI {X : Cx} (K : PySem.W.Frag) (hK : X.K = K) {k : Nat} (hr : Room k X.A) : CallR X (.builtin "sorted") (rSortTI K) := hK ▸ cr_sortTI hr
theorem rc_sortTI {K : PySem.W.Frag} {M : Ms} {ns : List Int} (hl : ns.length ≤ 1000) : RC K (rSortTI K) [.tup (ns.map .int)] M (.lst ((sortI ns).map .int)) := fun N F us H w hr Q k => by
  obtain ⟨u, rfl, r1⟩ := rpa1 hr
  obtain ⟨a, xs, rfl, ha, ra⟩ := r1.tup_of
  have hx := ra.ints_of
  subst hx
  refine ⟨a, ns, rfl, Evl.ex_t w.fr ha, hl, fun p hp => ?_⟩
  have hn := w.fresh hp
  exact k _ _ M _ _ (ex_new hn) ⟨rfl, rfl⟩ (w.new hp _) (.lst upd_same (RpA.ints _))
end DD
namespace DD
open PySem PySem.Spec PyProof.Rows L2
theorem evr_dnewI {K : KB} {ρ : Rho} {M : Ms} {R : DV → Ms → Prop} (h : ∀ p, R (.raw (.ref p)) ((p, .dK (kdI [])) :: M)) : EvR K tDNewK ρ M R := evr_dnewK h
/-- is it so? -/
noncomputable def tru (p : Prop) : Bool := @decide p (Classical.propDecidable p)
theorem tru_iff {p : Prop} : tru p = true ↔ p := @decide_eq_true_iff p (Classical.propDecidable p)
theorem tru_eq {p : Prop} {b : Bool} (h : b = true ↔ p) : b = tru p := by
  cases b with
  | true => exact (tru_iff.mpr (h.mp rfl)).symm
  | false => cases e : tru p with
    | false => rfl
    | true => exact h.mpr (tru_iff.mp e)
theorem tru_congr {p q : Prop} (h : p ↔ q) : tru p = tru q := tru_eq (tru_iff.trans h)
theorem tru_T {p : Prop} (h : p) : tru p = true := tru_iff.mpr h
theorem tru_F {p : Prop} (h : ¬ p) : tru p = false := by
  cases e : tru p with
  | false => rfl
  | true => exact absurd (tru_iff.mp e) h
/-- numbers below n, no two alike, are n at most -/
theorem nd_below {n : Int} {l : List Int} (h : l.Nodup) (hb : ∀ k ∈ l, 0 ≤ k ∧ k < n) (hn : 0 ≤ n) : (l.length : Int) ≤ n := by
  have := nodup_below n.toNat (l.map Int.toNat) (List.pairwise_map.mpr (h.imp_of_mem fun {x y} hx hy hxy e => by
    have a := hb x hx
    have b := hb y hy
    omega)) (fun x hx => by
    obtain ⟨y, hy, rfl⟩ := List.mem_map.mp hx
    have := hb y hy
    omega)
  rw [List.length_map] at this
  omega
end DD
namespace DD
open PySem PySem.Spec PyProof.Rows L2
/-! ### xs.index(x) of data that are told by things of a kind of their own -/
theorem toPyA_enc {α : Type} {enc : α → DV} {py : α → PyData} (hpy : ∀ x, toPy (enc x) = some (py x)) : ∀ ps : List α, toPyA (ps.map enc) = some (ps.map py)
  | [] => rfl
  | p :: r => by
    show (match toPy (enc p), toPyA (r.map enc) with | some y, some ys => some (y :: ys) | _, _ => none) = _
    rw [toPyA_enc hpy r, hpy]; rfl
def IdxG {α : Type} (enc : α → DV) (ps : List α) (R : DV → Ms → Prop) (ds : List DV) (M : Ms) : Prop := ∃ (x : α) (j : Nat), ds = [enc x] ∧ Fit (enc x) ∧ ps[j]? = some x ∧ (∀ m, m < j → ps[m]? ≠ some x) ∧ R (.int j) M
theorem w_indexG {α : Type} {K : KB} {ρ : Rho} {M : Ms} {R : DV → Ms → Prop} {to : TE} {ta : TA} (enc : α → DV) (py : α → PyData) (hpy : ∀ x, toPy (enc x) = some (py x)) (heq : ∀ x y, PyData.eqv (py x) (py y) = true ↔ x = y)
    (h : EvR K to ρ M fun o M1 => ∃ ps : List α, o = .lst (ps.map enc) ∧ Fit (.lst (ps.map enc)) ∧ EvAR K ta ρ M1 (IdxG enc ps R)) :
    EvR K (tBM K "list" (rIndexD K) to ta) ρ M R := fun N F σ H S Q q => h N F σ H S _ fun v o M1 F1 H1 e1 ⟨ps, ho, hf, h1⟩ w1 r1 => by
  subst ho
  obtain ⟨a, xs, rfl, ha, ra⟩ := id r1.lst_of
  refine ⟨ty_list (F := F1) (w1.fr _ _ ha), h1 N F1 σ H1 ⟨w1, S.e.mono e1, S.bm e1⟩ _ fun us ds M2 F2 H2 e2 ⟨x, j, hd, hx, hj, h0, hr⟩ w2 r2 => ?_⟩
  subst hd
  obtain ⟨u, rfl, ru⟩ := rpa1 r2
  obtain ⟨p, p1, _, _, _, _, p6⟩ := hf.py
  obtain ⟨p', p1', _, _, _, _, p6'⟩ := hx.py
  have e3 : toPy (.lst (ps.map enc)) = some (.list (ps.map py)) := by
    show (toPyA (ps.map enc)).map PyData.list = _
    rw [toPyA_enc hpy]; rfl
  rw [e3] at p1
  cases p1
  have e4 := hpy x
  rw [e4] at p1'
  cases p1'
  refine ⟨a, u, py x, ps.map py, j, py x, rfl, rfl, (r1.mono e2).dp w2.fr e3, ru.dp w2.fr e4, p6, p6', by rw [List.getElem?_map, hj]; rfl, (heq x x).mpr rfl, fun m z hm hz => ?_, q _ _ _ F2 H2 (e1.trans e2) hr w2 (.int _)⟩
  rw [List.getElem?_map] at hz
  cases e : ps[m]? with
  | none => rw [e] at hz; cases hz
  | some y =>
    rw [e] at hz
    cases hz
    cases e5 : PyData.eqv (py y) (py x) with
    | false => rfl
    | true => exact absurd (by rw [e, (heq y x).mp e5]) (h0 m hm)
/-- where an item stands first -/
theorem first_at {α : Type} {ps : List α} {x : α} (h : x ∈ ps) : ∃ j, j < ps.length ∧ ps[j]? = some x ∧ ∀ m, m < j → ps[m]? ≠ some x := by
  induction ps with
  | nil => cases h
  | cons y r ih =>
    by_cases e : y = x
    · exact ⟨0, by simp, by rw [e]; rfl, fun m hm => absurd hm (Nat.not_lt_zero _)⟩
    · rcases List.mem_cons.mp h with h | h
      · exact absurd h.symm e
      · obtain ⟨j, h1, h2, h3⟩ := ih h
        refine ⟨j + 1, by simp; omega, h2, fun m hm => ?_⟩
        cases m with
        | zero => intro z; injection z with z; exact e z
        | succ m => exact h3 m (by omega)
end DD
namespace DD
open PySem PySem.Spec PyProof.Rows L2
theorem idx_room {k : Nat} {A : PySem.Around} (r : Room k A) : A.units + 65 < PySem.cLine := by have := r.un; omega
theorem eqv_pairs : ∀ vs ws : List (Int × Int), PyData.eqvAll (vs.map pairPy) (ws.map pairPy) = decide (vs = ws)
  | [], [] => by rw [List.map_nil, PyData.eqvAll]; rfl
  | [], w :: ws => by rw [List.map_nil, List.map_cons, PyData.eqvAll]; simp
  | v :: vs, [] => by rw [List.map_nil, List.map_cons, PyData.eqvAll]; simp
  | v :: vs, w :: ws => by
    rw [List.map_cons, List.map_cons, PyData.eqvAll, eqv_pairs vs ws, eqv_pair]
    by_cases h : v = w <;> by_cases h3 : vs = ws <;> simp [h, h3]
/-- where an item stands first -/
def ixOf {α : Type} [DecidableEq α] (ps : List α) (x : α) : Nat := ps.findIdx fun y => decide (y = x)
theorem ixOf_spec {α : Type} [DecidableEq α] {ps : List α} {x : α} (h : x ∈ ps) : ps[ixOf ps x]? = some x ∧ (∀ m, m < ixOf ps x → ps[m]? ≠ some x) ∧ ixOf ps x < ps.length := by
  obtain ⟨j, h1, h2, h3⟩ := first_at h
  have hl : ixOf ps x < ps.length := List.findIdx_lt_length.mpr ⟨x, h, decide_eq_true rfl⟩
  have hg : ps[ixOf ps x]? = some x := by
    have := List.findIdx_getElem (p := fun y => decide (y = x)) (xs := ps) (w := hl)
    rw [List.getElem?_eq_getElem hl]
    exact congrArg some (of_decide_eq_true this)
  refine ⟨hg, fun m hm => ?_, hl⟩
  have := List.not_of_lt_findIdx (p := fun y => decide (y = x)) (xs := ps) (i := m) hm
  intro z
  obtain ⟨q1, q2⟩ := List.getElem?_eq_some_iff.mp z
  rw [q2] at this
  simp at this
theorem ixOf_inj {α : Type} [DecidableEq α] {ps : List α} {x y : α} (hx : x ∈ ps) (hy : y ∈ ps) : ixOf ps x = ixOf ps y ↔ x = y := by
  constructor
  · intro h
    have a := (ixOf_spec hx).1
    have b := (ixOf_spec hy).1
    rw [h, b] at a
    exact (Option.some.inj a).symm
  · intro h; rw [h]
end DD
namespace DD
open PySem PySem.Spec PyProof.Rows L2
/-! ### sorted(a list of ints); comprehensions over the keys -/
theorem sortI_perm (ns : List Int) : (sortI ns).Perm ns := List.mergeSort_perm _ _
theorem sortI_le (ns : List Int) : (sortI ns).Pairwise (· ≤ ·) := by
  have := List.pairwise_mergeSort (le := fun x y : Int => decide (x ≤ y)) (fun a b c h1 h2 => decide_eq_true (by have := of_decide_eq_true h1; have := of_decide_eq_true h2; omega)) (fun a b => by rw [Bool.or_eq_true, decide_eq_true_iff, decide_eq_true_iff]; omega) ns
  exact this.imp fun h => of_decide_eq_true h
theorem sorted_one {a b : List Int} (hp : a.Perm b) (ha : a.Pairwise (· ≤ ·)) (hb : b.Pairwise (· ≤ ·)) : a = b := by
  first
    | exact hp.eq_of_pairwise (fun x y _ _ h1 h2 => Int.le_antisymm h1 h2) ha hb
    | exact List.Perm.eq_of_pairwise (fun x y _ _ h1 h2 => Int.le_antisymm h1 h2) ha hb hp
theorem rc_sortLI {K : PySem.W.Frag} {M : Ms} {ns : List Int} : RC K (rSortedI K) [.lst (ns.map .int)] M (.lst ((sortI ns).map .int)) := fun N F us H w hr Q k => by
  obtain ⟨u, rfl, r1⟩ := rpa1 hr
  obtain ⟨a, xs, rfl, ha, ra⟩ := r1.lst_of
  have hx := ra.ints_of
  subst hx
  refine ⟨a, ns, rfl, SqL.of (w.fr _ _ ha), fun ns' p h1 h2 hp => ?_⟩
  have hn := w.fresh hp
  have e : ns' = sortI ns := sorted_one (h1.trans (sortI_perm ns).symm) h2 (sortI_le ns)
  rw [e]
  exact k _ _ M _ _ (ex_new hn) ⟨rfl, rfl⟩ (w.new hp _) (.lst upd_same (RpA.ints _))
theorem picked_keys {q : Int → Bool} {F : Int → DV} {xs : List Int} : ∀ n, n ≤ xs.length → picked (fun i => q (xs.getD i 0)) (fun i => F (xs.getD i 0)) n = ((xs.take n).filter q).map F
  | 0, _ => rfl
  | n + 1, h => by
    have e : xs.take (n + 1) = xs.take n ++ [xs.getD n 0] := by
      rw [List.take_succ_eq_append_getElem (by omega), List.getD_eq_getElem?_getD, List.getElem?_eq_getElem (by omega)]; rfl
    unfold picked
    rw [picked_keys n (by omega), e, List.filter_append, List.map_append]
    cases hq : q (xs.getD n 0) with
    | true => rw [if_pos rfl, List.filter_cons_of_pos hq]; rfl
    | false => rw [if_neg (by decide), List.filter_cons_of_neg (by rw [hq]; decide)]; simp
section
variable {K : KB} {ρ : Rho} {M : Ms} {te td : TE} {tt : TT} {R : DV → Ms → Prop} {vs : List Nat} {k : Nat}
theorem w_lcDt {kvs : List (Int × Int)} (q : Int → Bool) (F : Int → DV) (hn : kvs.length ≤ 100000) (hI : EvR K td ρ M fun d M' => d = .dki kvs ∧ M' = M) (ht : ∀ x ∈ kvs.map (·.1), EvTR K tt ((wipeD ρ vs).set k (some (.int x))) M fun b M' => b = q x ∧ M' = M)
    (hs : ∀ x ∈ kvs.map (·.1), q x = true → EvR K te ((wipeD ρ vs).set k (some (.int x))) M fun d M' => d = F x ∧ M' = M)
    (kk : R (.lst (((kvs.map (·.1)).filter q).map F)) M) (hk : k ∈ vs := by simp) : EvR K (tLc (iKeys td) (gName k) tt te vs) ρ M R := by
  have hm : ∀ i, i < kvs.length → (kvs.map (·.1)).getD i 0 ∈ kvs.map (·.1) := fun i hi => by
    rw [List.getD_eq_getElem?_getD, List.getElem?_eq_getElem (by rw [List.length_map]; exact hi)]
    exact List.getElem_mem _
  have h := ev_lc (K := K) (te := te) (tt := tt) (fun i => q ((kvs.map (fun p : Int × Int => p.1)).getD i 0)) (fun i => F ((kvs.map (fun p : Int × Int => p.1)).getD i 0)) (ei_keysI hI) hn (bdw_name hk) fun i hi => bd_name ⟨rfl, ht _ (hm i hi), fun e => hs _ (hm i hi) e⟩
  rw [picked_keys _ (by rw [List.length_map]; exact Nat.le_refl _), List.take_of_length_le (by rw [List.length_map]; exact Nat.le_refl _)] at h
  exact h.go kk
theorem w_lcD {kvs : List (Int × Int)} (F : Int → DV) (hn : kvs.length ≤ 100000) (hI : EvR K td ρ M fun d M' => d = .dki kvs ∧ M' = M)
    (hs : ∀ x ∈ kvs.map (·.1), EvR K te ((wipeD ρ vs).set k (some (.int x))) M fun d M' => d = F x ∧ M' = M)
    (kk : R (.lst ((kvs.map (·.1)).map F)) M) (hk : k ∈ vs := by simp) : EvR K (tLc (iKeys td) (gName k) tYes te vs) ρ M R :=
  w_lcDt (fun _ => true) F hn hI (fun x _ => et_yes) (fun x hx _ => hs x hx) (by rw [List.filter_eq_self.mpr fun _ _ => rfl]; exact kk) hk
/-- for k in d -/
theorem w_forD {t : TS} {P : Post} {kvs : List (Int × Int)} (hI : EvR K td ρ M fun d M' => d = .dki kvs ∧ M' = M) (inv : Nat → Rho → Ms → Prop) (h0 : inv 0 ρ M)
    (hs : ∀ i ρ' M' x, (kvs.map (·.1))[i]? = some x → inv i ρ' M' → XS K t (ρ'.set k (some (.int x))) M' { P with nx := inv (i + 1), ct := inv (i + 1), bk := P.nx })
    (hd : ∀ ρ' M', inv (kvs.map (·.1)).length ρ' M' → P.nx ρ' M') : XS K (tFor (iKeys td) (gName k) t) ρ M P :=
  xs_for (ei_keysI hI) inv (fun M' e => by rw [e]; exact h0) (fun _ _ _ _ _ c hc => nomatch hc) (fun i ρ' M' hi hv => bd_name (hs i ρ' M' _ (by rw [List.getD_eq_getElem?_getD, List.getElem?_eq_getElem (by rw [List.length_map]; exact hi)]; rfl) hv)) fun ρ' M' h => hd ρ' M' (by rw [List.length_map]; exact h)
end
end DD
namespace DD
open PySem PySem.Spec PyProof.Rows L2
/-! ### sorted(set(xs)) as one list -/
def insS (x : Int) : List Int → List Int
  | [] => [x]
  | y :: l => if x < y then x :: y :: l else if x = y then y :: l else y :: insS x l
def sset (ns : List Int) : List Int := ns.foldr insS []
theorem mem_insS {x k : Int} : ∀ {l : List Int}, k ∈ insS x l ↔ k = x ∨ k ∈ l
  | [] => by simp [insS]
  | y :: l => by
    unfold insS
    split
    · simp
    · split
      · rename_i h1 h2; subst h2; simp
      · rw [List.mem_cons, mem_insS, List.mem_cons]; constructor
        · rintro (h | h | h)
          · exact .inr (.inl h)
          · exact .inl h
          · exact .inr (.inr h)
        · rintro (h | h | h)
          · exact .inr (.inl h)
          · exact .inl h
          · exact .inr (.inr h)
theorem asc_insS {x : Int} : ∀ {l : List Int}, l.Pairwise (· < ·) → (insS x l).Pairwise (· < ·)
  | [], _ => List.pairwise_singleton _ _
  | y :: l, h => by
    obtain ⟨h1, h2⟩ := List.pairwise_cons.mp h
    unfold insS
    split
    · rename_i hx
      refine List.pairwise_cons.mpr ⟨fun z hz => ?_, h⟩
      rcases List.mem_cons.mp hz with rfl | hz
      · exact hx
      · exact Int.lt_trans hx (h1 z hz)
    · split
      · exact h
      · refine List.pairwise_cons.mpr ⟨fun z hz => ?_, asc_insS h2⟩
        rcases mem_insS.mp hz with rfl | hz
        · omega
        · exact h1 z hz
theorem mem_sset {k : Int} : ∀ {ns : List Int}, k ∈ sset ns ↔ k ∈ ns
  | [] => Iff.rfl
  | x :: ns => by
    show k ∈ insS x (sset ns) ↔ _
    rw [mem_insS, mem_sset, List.mem_cons]
theorem asc_sset : ∀ ns : List Int, (sset ns).Pairwise (· < ·)
  | [] => .nil
  | _ :: ns => asc_insS (asc_sset ns)
theorem insS_len {x : Int} : ∀ {l : List Int}, (insS x l).length ≤ l.length + 1
  | [] => Nat.le_refl _
  | y :: l => by
    unfold insS
    split
    · exact Nat.le_refl _
    · split
      · exact Nat.le_succ _
      · exact Nat.succ_le_succ insS_len
theorem sset_len : ∀ {ns : List Int}, (sset ns).length ≤ ns.length
  | [] => Nat.le_refl _
  | _ :: ns => Nat.le_trans insS_len (Nat.succ_le_succ sset_len)
theorem asc_one {l m : List Int} (hl : l.Pairwise (· < ·)) (hm : m.Pairwise (· < ·)) (h : ∀ k, k ∈ l ↔ k ∈ m) : l = m := by
  induction l generalizing m with
  | nil => cases m with
    | nil => rfl
    | cons y m => exact absurd ((h y).mpr List.mem_cons_self) (List.not_mem_nil)
  | cons x l ih => cases m with
    | nil => exact absurd ((h x).mp List.mem_cons_self) (List.not_mem_nil)
    | cons y m =>
      have hl' := List.pairwise_cons.mp hl
      have hm' := List.pairwise_cons.mp hm
      have e : x = y := by
        rcases List.mem_cons.mp ((h x).mp List.mem_cons_self) with e | hx
        · exact e
        · rcases List.mem_cons.mp ((h y).mpr List.mem_cons_self) with e | hy
          · exact e.symm
          · have a := hm'.1 x hx
            have b := hl'.1 y hy
            omega
      subst e
      rw [ih hl'.2 hm'.2 fun k => ⟨fun hk => by
        rcases List.mem_cons.mp ((h k).mp (List.mem_cons_of_mem _ hk)) with e | e
        · have := hl'.1 k hk; omega
        · exact e, fun hk => by
        rcases List.mem_cons.mp ((h k).mpr (List.mem_cons_of_mem _ hk)) with e | e
        · have := hm'.1 k hk; omega
        · exact e⟩]
def SsetR (R : DV → Ms → Prop) (d : DV) (M : Ms) : Prop := ∃ ns : List Int, d = .lst (ns.map .int) ∧ ns.length ≤ 60 ∧ R (.lst ((sset ns).map .int)) M
theorem SsetR.mk {R : DV → Ms → Prop} {M : Ms} {ns : List Int} (hl : ns.length ≤ 60) (k : R (.lst ((sset ns).map .int)) M) : SsetR R (.lst (ns.map .int)) M := ⟨ns, rfl, hl, k⟩
theorem w_sset {K : KB} {w : World} {ρ : Rho} {M : Ms} {R : DV → Ms → Prop} {te : TE} (h : EvR K te ρ M (SsetR R)) :
    EvR K (tCB (rSortedSet w) (tCons (tCB (rSetI K w) (tCons te tNil)) tNil)) ρ M R := w_sortedSet (h.mono fun d M1 ⟨ns, hd, hl, hR⟩ => ⟨ns, hd, hl, fun ms h1 h2 => by
  rw [asc_one h1 (asc_sset ns) fun k => (h2 k).trans mem_sset.symm]; exact hR⟩)
end DD
namespace DD
open PySem PySem.Spec PyProof.Rows L2
/-! ### an owned list of ints != [] -/
theorem dp_ints {K : PySem.W.Frag} {H : Hp} : ∀ ns : List Int, DpAll K H (ns.map V.int) (ns.map PyData.int)
  | [] => .nil
  | n :: r => .cons (.int n) (dp_ints r)
theorem rv_neNilI {K : PySem.W.Frag} {M : Ms} {a : Addr} {g : List Int} (hm : (a, MO.lst (g.map .int)) ∈ M) (hf : Fit (.lst (g.map .int))) : RV K (rNeU K) (.raw (.ref a)) (.lst []) M (.bl (!g.isEmpty)) := fun N F u v H w h1 h2 Q k => by
  cases h1.raw_of
  obtain ⟨_, xs, hx, rx⟩ := w.ce a _ (List.mem_append_right N hm)
  rw [rx.ints_of] at hx
  obtain ⟨p, p1, _, _, _, _, p6⟩ := hf.py
  have e : toPy (.lst (g.map .int)) = some (.list (g.map .int)) := by
    show (toPyA (g.map .int)).map PyData.list = _
    rw [toPyA_intsI]; rfl
  rw [e] at p1
  cases p1
  refine .inr ⟨.list (g.map .int), .list [], .lst (SqL.of hx) (dp_ints g), h2.dp w.fr rfl, p6, by decide, ?_⟩
  have e2 : (!PyData.eqv (.list (g.map .int)) (.list [])) = !g.isEmpty := by
    cases g with
    | nil => simp [PyData.eqv, PyData.eqvAll]
    | cons x r => simp [PyData.eqv, PyData.eqvAll]
  rw [e2]
  exact k _ _ M F H (Evl.Ex.refl F) ⟨rfl, rfl⟩ w (.bl _)
theorem rv_ninF {K : PySem.W.Frag} {M : Ms} {x : DV} {ds : List DV} (hx : Fit x) (hy : Fit (.lst ds)) : ∃ b, RV K (rNotInD K) x (.lst ds) M (.bl b) := by
  obtain ⟨p, p1, _, _, _, _, p6⟩ := hx.py
  obtain ⟨q, q1, _, _, _, _, q6⟩ := hy.py
  have q1' := q1
  have : ∃ ps, q = .list ps := by
    have h : (toPyA ds).map PyData.list = some q := q1
    cases e : toPyA ds with
    | none => rw [e] at h; cases h
    | some ps => rw [e] at h; cases h; exact ⟨ps, rfl⟩
  obtain ⟨ps, rfl⟩ := this
  exact ⟨_, rv_ninDL p1 q1 p6 q6⟩
end DD

set_option Elab.async false
set_option linter.all false
set_option maxRecDepth 100000
set_option maxHeartbeats 4000000
/-! ### dicts with tuples as keys, nested ones too -/
namespace DD
open PySem PySem.Spec PyProof.Rows L2
mutual
inductive NKv (K : PySem.W.Frag) (H : Hp) : V → NestedKey → Prop
  | non : NKv K H .non .none
  | bl (b : Bool) : NKv K H (.bl b) (.num (if b = true then 1 else 0))
  | int (i : Int) : NKv K H (.int i) (.num i)
  | str (x : Str) : NKv K H (.str x) (.text x)
  | tup {a : Addr} {xs : List V} {ks : List NestedKey} (h : SqT K H a xs) (r : NKs K H xs ks) : NKv K H (.ref a) (.tup ks)
inductive NKs (K : PySem.W.Frag) (H : Hp) : List V → List NestedKey → Prop
  | nil : NKs K H [] []
  | cons {v : V} {vs : List V} {k : NestedKey} {ks : List NestedKey} (h : NKv K H v k) (t : NKs K H vs ks) : NKs K H (v :: vs) (k :: ks)
end
mutual
theorem Rp.nkv {K : PySem.W.Frag} {F H : Hp} (e : Ex F H) : ∀ {v : V} {d : DV} {k : NestedKey}, Rp K F v d → nkD d = some k → NKv K H v k
  | _, _, _, .non, h => by cases h; exact .non
  | _, _, _, .bl b, h => by cases h; exact .bl b
  | _, _, _, .int i, h => by cases h; exact .int i
  | _, _, _, .str s, h => by cases h; exact .str s
  | _, _, _, .raw v, h => by cases h
  | _, _, _, .ins _ _, h => by cases h
  | _, _, _, .rd _ _, h => by cases h
  | _, _, _, .dic _, h => by cases h
  | _, _, _, .exn _ _ _, h => by cases h
  | _, _, _, .dki _, h => by cases h
  | _, _, _, .tx _ _ _, h => by cases h
  | _, _, _, .lst _ _, h => by cases h
  | _, _, k, .tup (ds := ds) hs r, h => by
    unfold nkD at h
    cases hq : nkDs ds with
    | none => rw [hq] at h; cases h
    | some ps => rw [hq] at h; cases h; exact .tup (Evl.ex_t e hs) (RpA.nks e r hq)
theorem RpA.nks {K : PySem.W.Frag} {F H : Hp} (e : Ex F H) : ∀ {vs : List V} {ds : List DV} {ks : List NestedKey}, RpA K F vs ds → nkDs ds = some ks → NKs K H vs ks
  | _, _, _, .nil, h => by cases h; exact .nil
  | _, _, ks, .cons (d := d) (ds := ds) h1 t, h => by
    unfold nkDs at h
    cases hq : nkD d with
    | none => rw [hq] at h; cases h
    | some y => cases hq2 : nkDs ds with
      | none => rw [hq, hq2] at h; cases h
      | some ys => rw [hq, hq2] at h; cases h; exact .cons (Rp.nkv e h1 hq) (RpA.nks e t hq2)
end
section
variable {X : Cx} {pins : List (Addr × Obj)} {σ : L2.St} {H : Hp} {s : Shared}
mutual
theorem NKv.is (I : Inv X pins σ H s) : ∀ {v : V} {k : NestedKey} {u : Value}, NKv X.K H v k → RelV v u → NestedIs s.heap k u
  | _, _, _, .non, r => by cases r; exact .none
  | _, _, _, .bl b, r => by cases r; exact .bool rfl
  | _, _, _, .int i, r => by obtain ⟨t, rfl⟩ := r; exact .int i t
  | _, _, _, .str x, r => by obtain ⟨t, rfl⟩ := r; exact .text x t
  | _, _, _, .tup h q, r => by
    cases r
    obtain ⟨its, rv, ⟨o, ho, hc, n, hd⟩, _⟩ := I.tuple h
    exact .tup ho hc hd (by simpa using NKs.is I q rv)
theorem NKs.is (I : Inv X pins σ H s) : ∀ {vs : List V} {ks : List NestedKey} {us : List Value}, NKs X.K H vs ks → Vals vs us → NestedAll s.heap ks us
  | _, _, _, .nil, .nil => .nil
  | _, _, _, .cons h t, .cons r q => .cons (NKv.is I h r) (NKs.is I t q)
end
end
abbrev NX := List (NestedKey × Addr × Value)
/-- the keys stand in the heap, no two alike -/
structure NOk (K : PySem.W.Frag) (H : Hp) (xs : NX) : Prop where
  ks : ∀ x ∈ xs, NKv K H (.ref x.2.1) x.1 ∧ x.1.depth ≤ 8
  nd : (xs.map (·.1)).Nodup
section
variable {X : Cx} {pins : List (Addr × Obj)} {σ : L2.St} {H : Hp} {s : Shared} {a : Addr} {xs : NX}
theorem dn_at (I : Inv X pins σ H s) (h : H a = some (DNO X.prog X.w a xs)) (hk : NOk X.K H xs) : (a == sysModules) = false ∧ s.heap.DictOfH (nestedKind X.prog X.w) a xs := by
  obtain ⟨⟨hd, o, es, ep, ho, hx, hdt, he⟩, _, _⟩ := (show ObjOk X.prog X.w H s.heap a (DNO X.prog X.w a xs) from I.hok a _ h)
  exact ⟨hd, o, es, ep, ho, hx, hdt, he, fun x hm => ⟨NKv.is I (hk.ks x hm).1 rfl, (hk.ks x hm).2⟩, hk.nd⟩
theorem dno_ok {P : Program} {w : World} {H : Hp} {h : Heap} (hd : (a == sysModules) = false) (hh : ∃ o es ep, h.get? a = some o ∧ o.ExactDict ∧ o.data = .dict es ep ∧ es.toList = xs.map (entryOfKey (nestedKind P w))) : ObjOk P w H h a (DNO P w a xs) := by
  obtain ⟨o, es, ep, ho, hx, hdt, he⟩ := hh
  exact ⟨⟨hd, o, es, ep, ho, hx, hdt, he⟩, ⟨o, ho⟩, fun h1 h2 ⟨q, o', es', ep', ho', r⟩ k => ⟨q, o', es', ep', k o' ho', r⟩⟩
def tDNewN (P : Program) (w : World) : TE := fun _ H Q => ∀ p, H p = none → Q (.ref p) (upd H p (DNO P w p []))
theorem pe_dnewN {pos : Pos} : PE X (.Dict [] [] pos) (tDNewN X.prog X.w) := ⟨fun pins s σ H Q I h =>
  wpAny_Dict_empty ⟨.ref s.heap.objs.size, _, I.laid (a := s.heap.objs.size) (o := DNO X.prog X.w s.heap.objs.size []) (t' := s.toks) (fun _ _ q => Heap.get?_push_of_some _ q) (Nat.le_refl _) (dno_ok (beq_eq_false_iff_ne.mpr (Ne.symm (Nat.ne_of_lt I.big))) ⟨_, #[], 0, Heap.get?_push_size _ rfl, ⟨rfl, rfl, rfl⟩, rfl, rfl⟩), rfl, h _ (I.hok.fresh (Nat.le_refl _))⟩⟩
/-- y is a key, k -/
def NKy (K : PySem.W.Frag) (H : Hp) (y : V) (b : Addr) (k : NestedKey) : Prop := y = .ref b ∧ NKv K H y k ∧ k.depth ≤ 8
variable {o e f i value : Expr} {apos cpos pos pos' : Pos} {td ty tx tv : TE} {k : Nat}
def tDGet2N (P : Program) (w : World) (K : PySem.W.Frag) (td ty tx : TE) : TE := fun σ H Q => td σ H fun x H1 => ∃ a xs, x = .ref a ∧ H1 a = some (DNO P w a xs) ∧ ty σ H1 fun y H2 => tx σ H2 fun z H3 => ∃ xs b k, H3 a = some (DNO P w a xs) ∧ NOk K H3 xs ∧ NKy K H3 y b k ∧ ∃ r, RelO r ((atKey xs k).map (·.2)) ∧ Q (r.getD z) H3
theorem getD_rel {r : Option V} {u : Option Value} {z : V} {zu : Value} (h : RelO r u) (hz : RelV z zu) : RelV (r.getD z) (u.getD zu) := h.getD hz
theorem pe_dget2N (hr : Room k X.A) (ho : PE X o td) (he : PE X e ty) (hf : PE X f tx) (m : M2 X o "get" apos e f cpos) : PE X (.Call (.Attribute o "get" apos) [e, f] [] cpos) (tDGet2N X.prog X.w X.K td ty tx) := by
  refine ⟨fun pins s σ H Q I h => ?_⟩
  refine wpAny_Call_method m.base m.few m.line PySem.F.plainAttrs_dict PySem.F.slot_dict_get PySem.F.type_dict_get (thn (ho.run pins s σ H _ I h) fun u s1 ⟨x, H1, I1, rx, a, xs0, ex, d, q1⟩ => ?_)
  subst ex
  obtain rfl : u = Value.ref a := rx
  obtain ⟨⟨hd0, ob, es0, ep0, hob, hxd, _, _⟩, _, _⟩ := (show ObjOk X.prog X.w H1 s1.heap a (DNO X.prog X.w a xs0) from I1.hok a _ d)
  refine ⟨⟨ob, hob, hxd.1⟩, fun b q => by cases q; exact ⟨ob, hob, hxd.2.1⟩, ?_⟩
  rw [m.trees]
  refine Calls.callWith_builtin rfl (Calls.evalArgs_plain (Calls.spliced_cons (thn (he.run pins s1 σ H1 _ I1 q1) fun iv s2 ⟨y, H2, I2, ry, q2⟩ =>
    Calls.spliced_cons (thn (hf.run pins s2 σ H2 _ I2 q2) fun fv s3 ⟨z, H3, I3, rz, xs, b, kk, hH, hk, ⟨hy, hnk, hdep⟩, r, hrel, q3⟩ => Calls.spliced_nil ?_))))
  subst hy
  cases (show iv = Value.ref b from ry)
  obtain ⟨hsm, dd⟩ := dn_at I3 hH hk
  refine call_meetsIn PySem.F.slot_dict_get dd.typeIs PySem.F.entry_dict_get (PySem.F.args_dict_get_3 _ _ _) (meetsH_dict_get_default (nestedKind X.prog X.w) a b hsm fv) ⟨?_, kk, xs, ⟨NKv.is I3 hnk rfl, hdep⟩, dd, ?_⟩
  · show X.A.units + 1 + 8 < cLine
    have := hr.un
    omega
  · exact ⟨_, H3, I3.tok _, getD_rel hrel rz, q3⟩
def sDPutN (P : Program) (w : World) (K : PySem.W.Frag) (td ty tv : TE) : TS := fun D σ H => tv σ H fun v H1 => td σ H1 fun x H2 => ty σ H2 fun y H3 => ∃ a xs b k, x = .ref a ∧ H3 a = some (DNO P w a xs) ∧ NOk K H3 xs ∧ NKy K H3 y b k ∧ xs.length < 1000 ∧ ∀ u, RelV v u → D.nx σ (upd H3 a (DNO P w a (storedH xs k b u)))
theorem ps_dputN (hr : Room k X.A) (ho : PE X o td) (hi : PE X i ty) (hv : PE X value tv) (hs : swapsWith value (some (.Subscript o i pos')) pos.line X.env = pure false) :
    PS X (.Assign [.Subscript o i pos'] value pos) (sDPutN X.prog X.w X.K td ty tv) := by
  refine ⟨fun pins s σ H D I h => ?_⟩
  refine wpAny_Assign_Subscript (thn (hv.run pins s σ H _ I h) fun r s1 ⟨v, H1, I1, rv, q1⟩ => thn (ho.run pins s1 σ H1 _ I1 q1) fun u s2 ⟨x, H2, I2, rx, q2⟩ => thn (hi.run pins s2 σ H2 _ I2 q2) fun iv s3 ⟨y, H3, I3, ry, a, xs, b, kk, ex, hH, hk, ⟨hy, hnk, hdep⟩, hl, q3⟩ => ?_) hs
  subst ex hy
  obtain rfl : u = Value.ref a := rx
  cases (show iv = Value.ref b from ry)
  obtain ⟨hsm, dd⟩ := dn_at I3 hH hk
  refine wpAny_setItem_heap (hsz := by rw [sizeLine_eq]; omega) (knd := nestedKind X.prog X.w) (by show X.A.units + 1 + 8 < cLine; have := hr.un; omega) ⟨NKv.is I3 hnk rfl, hdep⟩ dd fun h' dd' hs => ?_
  obtain ⟨q, es, ep, hq, h2, h3, h4, _, h5⟩ := dd'
  exact ⟨σ, _, d_write I3 (by rw [hH]; exact True.intro) hs ⟨q, hq⟩ (dno_ok hsm ⟨q, es, ep, hq, h2, h3, h4⟩), q3 r rv⟩
/-- d.values() -/
def tValsN (P : Program) (w : World) (t : TE) : TE := fun σ H Q => t σ H fun x H1 => ∃ a xs, x = .ref a ∧ H1 a = some (DNO P w a xs) ∧ ∀ p, H1 p = none → Q (.ref p) (upd H1 p (viewO "dict_values" p a))
theorem pe_valsN {t : TE} (he : PE X e t) (hbase : attributeBase e "values" X.env (eval e X.env) = eval e X.env := by rfl) (hline : (apos.endLine == cpos.line) = true := by rfl) : PE X (.Call (.Attribute e "values" apos) [] [] cpos) (tValsN X.prog X.w t) := by
  refine ⟨fun pins s σ H Q I h => ?_⟩
  refine wpAny_Call_method (T := "dict") (id := "dict.values") hbase rfl hline F.plainAttrs_dict F.slot_dict_values F.type_dict_values (thn (he.run pins s σ H _ I h) fun u s1 ⟨x, H1, I1, rx, a, xs, ex, hd, q⟩ => ?_)
  subst ex
  obtain rfl : u = Value.ref a := rx
  obtain ⟨⟨hd0, ob, es0, ep0, hob, hxd, hdt, _⟩, _, _⟩ := (show ObjOk X.prog X.w H1 s1.heap a (DNO X.prog X.w a xs) from I1.hok a _ hd)
  refine ⟨⟨ob, hob, hxd.1⟩, fun b q => by cases q; exact ⟨ob, hob, hxd.2.1⟩, ?_⟩
  show wpAny _ _ (callWith cpos (.builtin "dict.values") [.ref a] [] []) _ X.xe s1
  refine method_meetsIn F.slot_dict_values F.entry_dict_values rfl (PySem.evalArgs_none ⟨rfl, ⟨ob, hob, hxd.1⟩, F.args_dict_values_1 _, _, meets_dict_values_raw a hd0, ⟨es0, ep0, ob, hob, hxd, hdt⟩, ?_⟩)
  exact ⟨.ref s1.heap.objs.size, _, I1.laid (t' := s1.toks) (fun b o q => Heap.get?_push_of_some _ q) (Nat.le_refl _) (viewO_ok (Heap.get?_push_size _ rfl)), rfl, q _ (I1.hok.fresh (Nat.le_refl _))⟩
end
end DD
namespace DD
open PySem PySem.Spec PyProof.Rows L2
/-! ### sorted(d.values()), the values tuples of ints -/
theorem readsAll_ints {h : Heap} : ∀ {ns : List Int} {us : List Value}, Vals (ns.map V.int) us → ∃ as, ReadsAll h us (ns.map PyData.int) as ∧ ∀ a, a ∉ as
  | [], _, .nil => ⟨_, .nil, fun _ h => nomatch h⟩
  | n :: ns, _, .cons ⟨t, e⟩ r => by
    obtain ⟨as, h1, h2⟩ := readsAll_ints (h := h) (ns := ns) r
    subst e
    exact ⟨_, .cons (.int n t) h1, fun a hm => by
      rcases List.mem_append.mp hm with hm | hm
      · exact nomatch hm
      · exact h2 a hm⟩
theorem dp_ints_of {K : PySem.W.Frag} {H : Hp} : ∀ {ns : List Int} {vs : List V}, DpAll K H vs (ns.map PyData.int) → vs = ns.map V.int
  | [], _, .nil => rfl
  | n :: ns, _, .cons h t => by
    cases h
    rw [dp_ints_of (ns := ns) t]; rfl
theorem tup_rd {X : Cx} {pins : List (Addr × Obj)} {σ : L2.St} {H : Hp} {s : Shared} (I : Inv X pins σ H s) {v : V} {u : Value} {ns : List Int} (hd : Dp X.K H v (tupPy ns)) (r : RelV v u) (h' : Heap) (hk : ∀ b o, s.heap.get? b = some o → h'.get? b = some o) : ∃ as, Reads h' u (tupPy ns) as ∧ ∀ a, a ∉ as := by
  cases hd with
  | tup hs ra =>
    cases r
    have e := dp_ints_of ra
    subst e
    obtain ⟨its, rv, ⟨o, ho, hc, n, hdt⟩, _⟩ := I.tuple hs
    obtain ⟨as, h1, h2⟩ := readsAll_ints (h := h') rv
    exact ⟨_, .tuple (hk _ _ ho) hc hdt (by simpa using h1), h2⟩
section
variable {X : Cx}
def rSortVN (P : Program) (w : World) (K : PySem.W.Frag) : List V → Hp → VK → Prop := fun vs H Q => ∃ (p a : Addr) (xs : NX) (L : List (V × List Int)), vs = [.ref p] ∧ H p = some (viewO "dict_values" p a) ∧ H a = some (DNO P w a xs) ∧ Paired (fun (l : V × List Int) (x : NestedKey × Addr × Value) => RelV l.1 x.2.2) L xs ∧ L.length ≤ 1000 ∧ (∀ l ∈ L, l.2 ≠ [] ∧ Dp K H l.1 (tupPy l.2)) ∧
  ∀ (L' : List (V × List Int)) q, L' = L.mergeSort (fun x y => decide (x.2 ≤ y.2)) → H q = none → Q (.ref q) (upd H q (.lst (L'.map (·.1))))
theorem each_of_paired {α β : Type} {R : α → β → Prop} : ∀ {as : List α} {bs : List β}, Paired (fun b a => R a b) bs as → PySem.W.EachIs R as bs
  | _, _, .nil => .nil
  | _, _, .cons h t => .cons h (each_of_paired t)
theorem cr_sortVN (hc : X.calm = true) {k : Nat} (hr : Room k X.A) : CallR X (.builtin "sorted") (rSortVN X.prog X.w X.K) := by
  intro pins s σ H xs us Q I r h
  obtain ⟨p, a, nx, L, rfl, hp, ha, hL, hl, hd, q⟩ := h
  obtain ⟨u, rfl, ru⟩ := vals1 r
  cases (show u = Value.ref p from ru)
  obtain ⟨⟨hsm, o, es, ep, ho, hx, hdt, he⟩, _, _⟩ := (show ObjOk X.prog X.w H s.heap a (DNO X.prog X.w a nx) from I.hok a _ ha)
  have hv : s.heap.get? p = some (DSub.viewOb "dict_values" a) := (show ObjOk X.prog X.w H s.heap p (viewO "dict_values" p a) from I.hok p _ hp).1
  have hraw : s.heap.DictRaw a es ep := ⟨o, ho, hx, hdt⟩
  have hes : es.size = nx.length := size_of_entries he
  have hll : L.length = nx.length := Paired.length hL
  refine Calls.call_function_entry PyProof.Rows.kind_sorted PyProof.Rows.plain_sorted PyProof.Rows.entry_sorted (PyProof.Rows.args_sorted1 _) ?_
  unfold Builtin.«sorted»
  refine wpAny_bind (m := checkCount "sorted" 1 1 _) (wpAny_pure ?_)
  refine wpAny_bind (PySem.W.kdu_collect (A := X.A.in1) (KdlSrc.rawValues (prog := X.prog) (w := X.w) (r := p) (d := a) (es := es) (ep := ep)) (I.ok.hd hc) ⟨⟨_, hv, rfl, rfl⟩, hraw⟩ (by rw [hes, ← hll, sizeLine_eq]; omega) fun h' tk acc hk hacc => ?_)
  have hal : acc.toList.length = L.length := by rw [Array.length_toList, hacc.1, hes, hll]
  have hS : PySem.W.EachIs (fun u (l : V × List Int) => RelV l.1 u) acc.toList L := by
    refine PySem.W.EachIs.of_zip hal fun z hz => ?_
    obtain ⟨j, hj⟩ := List.mem_iff_getElem?.mp hz
    rw [List.getElem?_zip_eq_some] at hj
    obtain ⟨hi, e1⟩ := hacc.2 j z.1 (by rw [← Array.getElem?_toList]; exact hj.1)
    obtain ⟨x, hx1, hx2⟩ := paired_get hL hj.2
    have e2 := entry_at he j
    rw [hx1, Array.getElem?_eq_getElem hi] at e2
    have e3 : es[j] = entryOfKey (nestedKind X.prog X.w) x := Option.some.inj e2
    rw [e1, e3]
    exact hx2
  have I1 : Inv X pins σ H { s with heap := h', toks := tk } := I.kept hk
  refine wpAny_bind (wpAny_newList ?_ (by rw [hal, sizeLine_eq]; omega))
  have hoL : (h'.push (seqObj "list" acc.toList.toArray 0)).get? h'.objs.size = some (seqObj "list" acc.toList.toArray 0) := Heap.get?_push_size _ rfl
  show wpAny _ _ _ _ _ { s with heap := h'.push (seqObj "list" acc.toList.toArray 0), toks := tk }
  have er : PySem.W.EachIs (fun u (l : V × List Int) => ∃ as, Reads (h'.push (seqObj "list" acc.toList.toArray 0)) u (tupPy l.2) as ∧ h'.objs.size ∉ as) acc.toList L := by
    refine PySem.W.EachIs.of_zip hal fun z hz => ?_
    have hz1 := hS.zip z hz
    obtain ⟨as, q1, q2⟩ := tup_rd I (hd z.2 (List.of_mem_zip hz).2).2 hz1 _ fun b o e => Heap.get?_push_of_some _ (hk b o e)
    exact ⟨as, q1, q2 _⟩
  refine wpAny_bind (wpAny_holding (PySem.W.list_sort_data (s := { s with heap := h'.push (seqObj "list" acc.toList.toArray 0), toks := tk }) (enc := fun l : V × List Int => tupPy l.2) (R := fun u (l : V × List Int) => RelV l.1 u) (bs := L) hoL hS er (PySem.W.AllAlike.of fun p p' => ?_) (.inl fun d hd' => ?_) (by rw [sizeLine_eq]; omega) (fun p hp => ?_) fun out hlo eo => ?_))
  · show PySem.W.alikeAll (p.2.map .int) (p'.2.map .int) = true
    exact PySem.W.alike_ints _ _
  · obtain ⟨p, hp, rfl⟩ := List.mem_map.mp hd'
    obtain ⟨h1, _⟩ := hd p hp
    cases e : p.2 with
    | nil => exact absurd e h1
    | cons x t => exact ⟨.int x, t.map .int, rfl⟩
  · have : (tupPy p.2).depth = 1 := by show PyData.depthAll (p.2.map .int) + 1 = 1; rw [PySem.W.depth_ints]
    rw [this]
    show X.A.units + 1 + 1 + 1 < cLine
    have := hr.un
    omega
  · have e2 : PySem.W.dataLe false (fun p : V × List Int => tupPy p.2) = fun x y => decide (x.2 ≤ y.2) := by
      funext p p'
      exact congrFun (congrFun dataLe_tups p.2) p'.2
    rw [e2] at eo
    have hvv := pair_each eo
    obtain ⟨c', he'⟩ := sortedHeap_at (vs := acc.toList) (out := List.toArray out) hoL
    have nw : H h'.objs.size = none := I1.hok.fresh (Nat.le_refl _)
    refine wpAny_pure ⟨_, rfl, .ref h'.objs.size, upd H h'.objs.size (.lst ((L.mergeSort fun x y => decide (x.2 ≤ y.2)).map (·.1))), I1.laid (t' := tk) (fun b u e => ?_) (Nat.le_refl _) ?_, rfl, q _ _ rfl nw⟩
    · have hb : b < h'.objs.size := Heap.lt_size e
      rw [sortedHeap_old (Nat.ne_of_lt hb) (by rw [size_push']; exact Nat.lt_succ_of_lt hb)]
      exact Heap.get?_push_of_some _ e
    · show ObjOk X.prog X.w _ _ _ (.lst _)
      refine ⟨by rw [List.length_map, List.length_mergeSort, sizeLine_eq]; omega, out, c', hvv, ?_⟩
      exact he'
end
end DD
namespace DD
open PySem PySem.Spec PyProof.Rows L2
/-! ### the same over data: keys told by things of a kind of their own -/
structure KEnc (α : Type) where
  enc : α → DV
  nk : α → NestedKey
  hnk : ∀ x, nkD (enc x) = some (nk x)
  inj : ∀ x y, nk x = nk y → x = y
  dep : ∀ x, (nk x).depth ≤ 8
section
variable {α β : Type} [DecidableEq α]
def getA (ps : List (α × β)) (x : α) : Option β := (ps.find? fun p => decide (p.1 = x)).map (·.2)
def putA (ps : List (α × β)) (x : α) (y : β) : List (α × β) := if (getA ps x).isSome = true then ps.map fun p => if p.1 = x then (p.1, y) else p else ps ++ [(x, y)]
theorem getA_nil {x : α} : getA ([] : List (α × β)) x = none := rfl
theorem getA_pos {p : α × β} {r : List (α × β)} {x : α} (e : p.1 = x) : getA (p :: r) x = some p.2 := by unfold getA; rw [List.find?_cons_of_pos (by exact decide_eq_true e)]; rfl
theorem getA_neg {p : α × β} {r : List (α × β)} {x : α} (e : p.1 ≠ x) : getA (p :: r) x = getA r x := by unfold getA; rw [List.find?_cons_of_neg (by simpa using e)]
theorem getA_iff {ps : List (α × β)} {x : α} : (getA ps x).isSome = true ↔ x ∈ ps.map (·.1) := by
  induction ps with
  | nil => simp [getA_nil]
  | cons p r ih =>
    by_cases e : p.1 = x
    · rw [getA_pos e]; simp [e]
    · rw [getA_neg e, ih]; simp [Ne.symm e]
theorem getA_mem {ps : List (α × β)} {x : α} {y : β} (h : getA ps x = some y) : (x, y) ∈ ps := by
  induction ps with
  | nil => cases h
  | cons p r ih =>
    by_cases e : p.1 = x
    · rw [getA_pos e] at h; cases h; rw [← e]; exact List.mem_cons_self
    · rw [getA_neg e] at h; exact List.mem_cons_of_mem _ (ih h)
theorem putA_new {ps : List (α × β)} {x : α} {y : β} (h : getA ps x = none) : putA ps x y = ps ++ [(x, y)] := by unfold putA; rw [h]; rfl
theorem putA_old {ps : List (α × β)} {x : α} {y z : β} (h : getA ps x = some z) : putA ps x y = ps.map fun p => if p.1 = x then (p.1, y) else p := by unfold putA; rw [h]; rfl
theorem getA_put {ps : List (α × β)} {x z : α} {y : β} : getA (putA ps x y) z = if z = x then some y else getA ps z := by
  cases h : getA ps x with
  | none =>
    rw [putA_new h]
    induction ps with
    | nil =>
      by_cases e : z = x
      · subst e; rw [if_pos rfl]; exact getA_pos rfl
      · rw [if_neg e]; exact getA_neg (p := (x, y)) fun q => e q.symm
    | cons p r ih =>
      by_cases e : p.1 = x
      · rw [getA_pos e] at h; cases h
      · rw [getA_neg e] at h
        by_cases ez : p.1 = z
        · show getA (p :: (r ++ [(x, y)])) z = _
          rw [getA_pos ez, getA_pos ez, if_neg]
          rintro rfl; exact e ez
        · show getA (p :: (r ++ [(x, y)])) z = _
          rw [getA_neg ez, getA_neg ez, ih h]
  | some w =>
    rw [putA_old h]
    have key : ∀ qs : List (α × β), getA (qs.map fun p => if p.1 = x then (p.1, y) else p) z = (getA qs z).map fun v => if z = x then y else v := fun qs => by
      induction qs with
      | nil => rfl
      | cons p r ih =>
        rw [List.map_cons]
        by_cases ez : p.1 = z
        · rw [getA_pos ez]
          by_cases e : p.1 = x
          · rw [if_pos e, getA_pos (p := (p.1, y)) ez]
            show _ = some (if z = x then y else p.2)
            rw [if_pos (ez ▸ e)]
          · rw [if_neg e, getA_pos ez]
            show _ = some (if z = x then y else p.2)
            rw [if_neg (ez ▸ e)]
        · rw [getA_neg ez, getA_neg (by split <;> exact ez), ih]
    rw [key]
    by_cases e : z = x
    · subst e; rw [h, if_pos rfl]; simp
    · rw [if_neg e]; simp [e]
theorem keysA_put {ps : List (α × β)} {x : α} {y : β} : (putA ps x y).map (·.1) = if (getA ps x).isSome = true then ps.map (·.1) else ps.map (·.1) ++ [x] := by
  unfold putA
  split
  · rw [List.map_map]
    refine List.map_congr_left fun p _ => ?_
    show (if p.1 = x then (p.1, y) else p).1 = p.1
    split <;> rfl
  · rw [List.map_append]; rfl
theorem putA_len {ps : List (α × β)} {x : α} {y : β} : (putA ps x y).length ≤ ps.length + 1 := by
  unfold putA
  split
  · rw [List.length_map]; omega
  · rw [List.length_append]; exact Nat.le_refl _
variable {K : PySem.W.Frag} {F H : Hp} {E : KEnc α} {ev : β → DV} {xs : NX} {ps : List (α × β)} {x : α}
abbrev encD (E : KEnc α) (ev : β → DV) (ps : List (α × β)) : List (DV × DV) := ps.map fun p => (E.enc p.1, ev p.2)
theorem rpn_len : ∀ {xs : NX} {ds : List (DV × DV)}, RpN K F xs ds → xs.length = ds.length
  | _, _, .nil => rfl
  | _, _, .cons _ _ _ _ _ t => congrArg (· + 1) (rpn_len t)
theorem rpn_get : ∀ {xs : NX} {ps : List (α × β)}, RpN K F xs (encD E ev ps) → match getA ps x with
    | none => atKey xs (E.nk x) = none
    | some y => ∃ p v, atKey xs (E.nk x) = some p ∧ RelV v p.2 ∧ Rp K F v (ev y)
  | _, [], .nil => rfl
  | _, p :: ps, .cons (k := k) (b := b) (u := u) (v := v) hk hd rk ru rv t => by
    have hk' : E.nk p.1 = k := by have := E.hnk p.1; rw [this] at hk; exact Option.some.inj hk
    have ih := rpn_get (ps := ps) t
    by_cases e : p.1 = x
    · rw [getA_pos e]
      refine ⟨(b, u), v, ?_, ru, rv⟩
      unfold atKey
      rw [List.find?_cons_of_pos (by exact decide_eq_true (by rw [← hk', e]))]; rfl
    · rw [getA_neg e]
      have hn : ¬ k = E.nk x := fun z => e (E.inj _ _ (hk'.trans z))
      cases hg : getA ps x with
      | none =>
        rw [hg] at ih
        show atKey _ _ = none
        unfold atKey at ih ⊢
        rw [List.find?_cons_of_neg (by simpa using hn)]; exact ih
      | some y =>
        rw [hg] at ih
        obtain ⟨p', v', h1, h2, h3⟩ := ih
        refine ⟨p', v', ?_, h2, h3⟩
        unfold atKey at h1 ⊢
        rw [List.find?_cons_of_neg (by simpa using hn)]; exact h1
theorem rpn_app : ∀ {xs ys : NX} {ds es : List (DV × DV)}, RpN K F xs ds → RpN K F ys es → RpN K F (xs ++ ys) (ds ++ es)
  | _, _, _, _, .nil, s => s
  | _, _, _, _, .cons a b c d e t, s => .cons a b c d e (rpn_app t s)
theorem rpn_rep {u : Value} {v : V} {y : β} (ru : RelV v u) (rv : Rp K F v (ev y)) : ∀ {xs : NX} {ps : List (α × β)}, RpN K F xs (encD E ev ps) → RpN K F (xs.map (putAt (E.nk x) u)) (encD E ev (ps.map fun p => if p.1 = x then (p.1, y) else p))
  | _, [], .nil => .nil
  | _, p :: ps, .cons (k := k) (b := b) (u := u0) hk hd rk ru0 rv0 t => by
    have hk' : E.nk p.1 = k := by have := E.hnk p.1; rw [this] at hk; exact Option.some.inj hk
    have ih := rpn_rep ru rv (ps := ps) t
    rw [List.map_cons, List.map_cons]
    by_cases e : p.1 = x
    · have e2 : k = E.nk x := by rw [← hk', e]
      rw [if_pos e]
      have : putAt (E.nk x) u (k, b, u0) = (k, b, u) := by unfold putAt; rw [if_pos e2]
      rw [this]
      exact .cons hk hd rk ru rv ih
    · have e2 : ¬ k = E.nk x := fun z => e (E.inj _ _ (hk'.trans z))
      rw [if_neg e]
      have : putAt (E.nk x) u (k, b, u0) = (k, b, u0) := by unfold putAt; rw [if_neg e2]
      rw [this]
      exact .cons hk hd rk ru0 rv0 ih
theorem rpn_put {b : Addr} {u : Value} {v : V} {y : β} (h : RpN K F xs (encD E ev ps)) (rk : Rp K F (.ref b) (E.enc x)) (ru : RelV v u) (rv : Rp K F v (ev y)) : RpN K F (storedH xs (E.nk x) b u) (encD E ev (putA ps x y)) := by
  have hg := rpn_get (x := x) h
  cases e : getA ps x with
  | none =>
    rw [e] at hg
    rw [storedH_new hg, putA_new e]
    show RpN K F _ (encD E ev (ps ++ [(x, y)]))
    unfold encD
    rw [List.map_append]
    exact rpn_app h (.cons (E.hnk x) (E.dep x) rk ru rv .nil)
  | some z =>
    rw [e] at hg
    obtain ⟨p, v', h1, _, _⟩ := hg
    rw [storedH_old h1, putA_old e]
    exact rpn_rep ru rv h
theorem rpn_keys : ∀ {xs : NX} {ps : List (α × β)}, RpN K F xs (encD E ev ps) → xs.map (·.1) = (ps.map (·.1)).map E.nk
  | _, [], .nil => rfl
  | _, p :: ps, .cons (k := k) hk hd rk ru rv t => by
    have hk' : E.nk p.1 = k := by have := E.hnk p.1; rw [this] at hk; exact Option.some.inj hk
    rw [List.map_cons, List.map_cons, List.map_cons, rpn_keys t, hk']
theorem rpn_nok (e : Ex F H) : ∀ {xs : NX} {ds : List (DV × DV)}, RpN K F xs ds → ∀ x ∈ xs, NKv K H (.ref x.2.1) x.1 ∧ x.1.depth ≤ 8
  | _, _, .nil, _, h => nomatch h
  | _, _, .cons hk hd rk ru rv t, x, h => by
    rcases List.mem_cons.mp h with rfl | h
    · exact ⟨rk.nkv e hk, hd⟩
    · exact rpn_nok e t x h
theorem nd_stored {k : NestedKey} {b : Addr} {u : Value} (h : (xs.map (·.1)).Nodup) : ((storedH xs k b u).map (·.1)).Nodup := by
  cases e : atKey xs k with
  | none =>
    rw [storedH_new e, List.map_append]
    refine List.nodup_append.mpr ⟨h, List.nodup_cons.mpr ⟨List.not_mem_nil, List.nodup_nil⟩, fun a ha c hc z => ?_⟩
    have : c = k := List.mem_singleton.mp hc
    obtain ⟨x, hx, rfl⟩ := List.mem_map.mp ha
    unfold atKey at e
    have e' := Option.map_eq_none_iff.mp e
    exact absurd (decide_eq_true (z.trans this)) (List.find?_eq_none.mp e' x hx)
  | some p => rw [storedH_old e, keys_map_putAt]; exact h
end
section
variable {K : KB} {ρ : Rho} {M : Ms} {te td ty tx tv : TE} {R : DV → Ms → Prop} {Po : Post} {P : Program} {w : World}
theorem evr_dnewN (h : ∀ p, R (.raw (.ref p)) ((p, .dN P w []) :: M)) : EvR K (tDNewN P w) ρ M R := fun N F σ H S Q q p hp =>
  q _ _ _ F _ (Evl.Ex.refl F) (h p) ((S.w.cell (mo := .dN P w []) hp ⟨[], upd_same, .nil, List.nodup_nil⟩).perm List.perm_middle) (.raw _)
variable {α β : Type} [DecidableEq α] (E : KEnc α) (ev : β → DV)
def DGet2A (E : KEnc α) (ev : β → DV) (P : Program) (w : World) (a : Addr) (k z : DV) (M : Ms) (R : DV → Ms → Prop) : Prop := ∃ (ps : List (α × β)) (x : α), k = E.enc x ∧ (∃ ds, E.enc x = .tup ds) ∧ (a, MO.dN P w (encD E ev ps)) ∈ M ∧ R (((getA ps x).map ev).getD z) M
theorem evr_dget2N (h : EvR K td ρ M fun d M1 => ∃ a kvs, d = .raw (.ref a) ∧ (a, MO.dN P w kvs) ∈ M1 ∧ EvR K ty ρ M1 fun k M2 => EvR K tx ρ M2 fun z M3 => DGet2A E ev P w a k z M3 R) : EvR K (tDGet2N P w K td ty tx) ρ M R := fun N F σ H S Q q =>
  h N F σ H S _ fun u d M1 F1 H1 e1 ⟨a, kvs, hd, hm, h1⟩ w1 r1 => by
    subst hd
    cases r1.raw_of
    obtain ⟨_, xs0, hx0, _⟩ := w1.ce a _ (List.mem_append_right N hm)
    refine ⟨a, xs0, rfl, hx0, h1 N F1 σ H1 ⟨w1, S.e.mono e1, S.bm e1⟩ _ fun y k M2 F2 H2 e2 h2 w2 r2 => h2 N F2 σ H2 ⟨w2, S.e.mono (e1.trans e2), S.bm (e1.trans e2)⟩ _ fun z zd M3 F3 H3 e3 ⟨ps, x, hk, ⟨ds, hds⟩, hm3, hR⟩ w3 r3 => ?_⟩
    subst hk
    obtain ⟨_, xs, hx, hr, hnd⟩ := w3.ce a _ (List.mem_append_right N hm3)
    have r2' := r2.mono e3
    obtain ⟨b, vs, rfl, _, _⟩ := (hds ▸ r2' : Rp K.fr F3 y (.tup ds)).tup_of
    have hg := rpn_get (x := x) hr
    cases e : getA ps x with
    | none =>
      rw [e] at hg hR
      exact ⟨xs, b, E.nk x, hx, ⟨rpn_nok w3.fr hr, hnd⟩, ⟨rfl, r2'.nkv w3.fr (E.hnk x), E.dep x⟩, none, by rw [hg]; exact True.intro, q z _ M3 F3 H3 ((e1.trans e2).trans e3) hR w3 r3⟩
    | some yv =>
      rw [e] at hg hR
      obtain ⟨p, v, h1', h2', h3'⟩ := hg
      exact ⟨xs, b, E.nk x, hx, ⟨rpn_nok w3.fr hr, hnd⟩, ⟨rfl, r2'.nkv w3.fr (E.hnk x), E.dep x⟩, some v, by rw [h1']; exact h2', q v _ M3 F3 H3 ((e1.trans e2).trans e3) hR w3 h3'⟩
def DPutA (E : KEnc α) (ev : β → DV) (P : Program) (w : World) (d k v : DV) (M : Ms) (R : Ms → Prop) : Prop := ∃ (n : Nat) (a : Addr) (ps : List (α × β)) (x : α) (y : β), d = .raw (.ref a) ∧ k = E.enc x ∧ (∃ ds, E.enc x = .tup ds) ∧ v = ev y ∧ M[n]? = some (a, MO.dN P w (encD E ev ps)) ∧ ps.length < 1000 ∧ R (M.set n (a, .dN P w (encD E ev (putA ps x y))))
theorem xs_dputN (h : EvR K tv ρ M fun v M1 => EvR K td ρ M1 fun d M2 => EvR K ty ρ M2 fun k M3 => DPutA E ev P w d k v M3 (Po.nx ρ)) : XS K (sDPutN P w K td ty tv) ρ M Po := fun N F σ H D S e =>
  h N F σ H S _ fun v dv M1 F1 H1 e1 h1 w1 r1 => h1 N F1 σ H1 ⟨w1, S.e.mono e1, S.bm e1⟩ _ fun u d M2 F2 H2 e2 h2 w2 r2 =>
    h2 N F2 σ H2 ⟨w2, S.e.mono (e1.trans e2), S.bm (e1.trans e2)⟩ _ fun yk k M3 F3 H3 e3 ⟨n, a, ps, x, yv, hd, hk, ⟨ds, hds⟩, hv, hi, hn, hq⟩ w3 r3 => by
      subst hd hk hv
      cases r2.raw_of
      obtain ⟨b, vs, rfl, _, _⟩ := (hds ▸ r3 : Rp K.fr F3 yk (.tup ds)).tup_of
      have hi' : (N ++ M3)[N.length + n]? = some (a, MO.dN P w (encD E ev ps)) := by rw [List.getElem?_append_right (Nat.le_add_right _ _), Nat.add_sub_cancel_left]; exact hi
      obtain ⟨_, xs, hx, hr, hnd⟩ := w3.ce a _ (List.mem_of_getElem? hi')
      have hlen := rpn_len hr
      refine ⟨a, xs, b, E.nk x, rfl, hx, ⟨rpn_nok w3.fr hr, hnd⟩, ⟨rfl, r3.nkv w3.fr (E.hnk x), E.dep x⟩, by rw [hlen]; unfold encD; rw [List.length_map]; exact hn, fun uv ruv => ?_⟩
      have e13 := (e1.trans e2).trans e3
      have w5 := w3.put hi' (mo' := .dN P w (encD E ev (putA ps x yv))) (o := DNO P w a (storedH xs (E.nk x) b uv)) ⟨_, upd_same, rpn_put hr r3 ruv (r1.mono (e2.trans e3)), nd_stored hnd⟩
      rw [List.set_append_right _ _ (Nat.le_add_right _ _), Nat.add_sub_cancel_left] at w5
      exact e.nx _ _ _ _ _ e13 hq ⟨w5, S.e.mono e13, S.bm e13⟩
/-- sorted(d.values()) -/
theorem rpn_rows {K : PySem.W.Frag} {F H : Hp} (ex : Ex F H) : ∀ {xs : NX} {ps : List (α × List Int)}, RpN K F xs (encD E tupI ps) → ∃ L : List (V × List Int), Paired (fun (l : V × List Int) (x : NestedKey × Addr × Value) => RelV l.1 x.2.2) L xs ∧ L.map (·.2) = ps.map (·.2) ∧ ∀ l ∈ L, Rp K F l.1 (tupI l.2)
  | _, [], .nil => ⟨[], .nil, rfl, fun _ h => nomatch h⟩
  | _, p :: ps, .cons (v := v) hk hd rk ru rv t => by
    obtain ⟨L, h1, h2, h3⟩ := rpn_rows ex (ps := ps) t
    refine ⟨(v, p.2) :: L, .cons ru h1, by rw [List.map_cons, List.map_cons, h2], fun l hl => ?_⟩
    rcases List.mem_cons.mp hl with rfl | hl
    · exact rv
    · exact h3 l hl
theorem w_sortVN {te : TE} (h : EvR K te ρ M fun d M1 => ∃ (a : Addr) (ps : List (α × List Int)), d = .raw (.ref a) ∧ (a, MO.dN P w (encD E tupI ps)) ∈ M1 ∧ ps.length ≤ 1000 ∧ (∀ p ∈ ps, p.2 ≠ []) ∧ R (.lst ((sortRows (ps.map (·.2))).map tupI)) M1) :
    EvR K (tCB (rSortVN P w K) (tCons (tValsN P w te) tNil)) ρ M R := fun N F σ H S Q q =>
  h N F σ H S _ fun v d M1 F1 H1 e1 ⟨a, ps, hd, hm, hl, hne, hR⟩ w1 r1 => by
    subst hd
    cases r1.raw_of
    obtain ⟨_, xs, hx, hr, hnd⟩ := w1.ce a _ (List.mem_append_right N hm)
    refine ⟨a, xs, rfl, hx, fun p hp => ?_⟩
    obtain ⟨L, hL1, hL2, hL3⟩ := rpn_rows E w1.fr hr
    have w2 := w1.new hp (viewO "dict_values" p a)
    have hn := w1.fresh hp
    have hap : a ≠ p := ne_of_none hx hp
    have hll : L.length = ps.length := by have := congrArg List.length hL2; rw [List.length_map, List.length_map] at this; exact this
    have hmem : ∀ l ∈ L, l.2 ∈ ps.map (·.2) := fun l hl => hL2 ▸ List.mem_map.mpr ⟨l, hl, rfl⟩
    refine ⟨p, a, xs, L, rfl, upd_same, by rw [upd_ne hap]; exact hx, hL1, by omega, fun l hl => ⟨fun z => ?_, ((hL3 l hl).mono (ex_new hn)).dp w2.fr (toPy_tupI _)⟩, fun L' p2 hL' hp2 => ?_⟩
    · obtain ⟨pp, hpp, hpe⟩ := List.mem_map.mp (hmem l hl)
      exact hne pp hpp (hpe.trans z)
    · have hn2 := w2.fresh hp2
      have hm2 : ∀ l ∈ L', Rp K.fr F1 l.1 (tupI l.2) := fun l hl => hL3 l (by rw [hL'] at hl; exact (List.mergeSort_perm _ _).mem_iff.mp hl)
      have e4 : L'.map (·.2) = sortRows (ps.map (·.2)) := by
        rw [hL', ← hL2]
        exact PySem.W.sort_maps (r := fun x y : V × List Int => decide (x.2 ≤ y.2)) (s := fun x y : List Int => decide (x ≤ y)) (fun p : V × List Int => p.2) (l := L) fun a _ b _ => rfl
      have hx2 := (ex_new (o := viewO "dict_values" p a) hn).trans (ex_new (o := .lst (L'.map (·.1))) hn2)
      have := (unzip_rpa hm2).mono hx2
      rw [e4] at this
      exact q _ _ M1 _ _ (e1.trans hx2) hR (w2.new hp2 _) (.lst upd_same this)
end
end DD
namespace DD
open PySem PySem.Spec PyProof.Rows L2
section
variable {X : Cx} (P : Program) (w : World) (K : PySem.W.Frag) (hP : X.prog = P) (hw : X.w = w) (hK : X.K = K) {o e f i value : Expr} {apos cpos pos pos' : Pos} {td ty tx tv t : TE} {k : Nat}
include hP hw in
theorem wDnewN {pos : Pos} : PE X (.Dict [] [] pos) (tDNewN P w) := by subst hP hw; exact pe_dnewN
include hP hw hK in
theorem wDget2N (hr : Room k X.A) (ho : PE X o td) (he : PE X e ty) (hf : PE X f tx) (m : M2 X o "get" apos e f cpos) : PE X (.Call (.Attribute o "get" apos) [e, f] [] cpos) (tDGet2N P w K td ty tx) := by subst hP hw hK; exact pe_dget2N hr ho he hf m
include hP hw hK in
theorem wDputN (hr : Room k X.A) (ho : PE X o td) (hi : PE X i ty) (hv : PE X value tv) (hs : swapsWith value (some (.Subscript o i pos')) pos.line X.env = pure false) : PS X (.Assign [.Subscript o i pos'] value pos) (sDPutN P w K td ty tv) := by subst hP hw hK; exact ps_dputN hr ho hi hv hs
include hP hw in
theorem wValsN (he : PE X e t) (hbase : attributeBase e "values" X.env (eval e X.env) = eval e X.env := by rfl) (hline : (apos.endLine == cpos.line) = true := by rfl) : PE X (.Call (.Attribute e "values" apos) [] [] cpos) (tValsN P w t) := by subst hP hw; exact pe_valsN he hbase hline
include hP hw hK in
theorem wSortVN (hc : X.calm = true) (hr : Room k X.A) : CallR X (.builtin "sorted") (rSortVN P w K) := by subst hP hw hK; exact cr_sortVN hc hr
end
/-! ### comprehensions with a test over tuples and lists of things of a kind -/
section
variable {K : KB} {ρ : Rho} {M : Ms} {te te0 : TE} {tt : TT} {R : DV → Ms → Prop} {vs : List Nat} {g : TG}
theorem w_lcQ {α : Type} {wi : TI} {G : Ms} {RM : Ms → Prop} {xs : List α} {f : α → DV} (q : α → Bool) (F : α → DV) (hn : xs.length ≤ 100000) (hI : EvI K wi ρ M [] (xs.map f).length (nth (xs.map f)) fun M' => M' = M) (hb : BdW g vs)
    (hs : ∀ x, x ∈ xs → BdG K g (wipeD ρ vs) M (f x) fun ρ2 M2 => EvTR K tt ρ2 M2 fun b M3 => b = q x ∧ M3 = M ∧ (q x = true → EvR K te ρ2 M fun d' M' => d' = F x ∧ M' = M)) (kk : R (.lst ((xs.filter q).map F)) M) : EvR K (tLc wi g tt te vs) ρ M R := by
  have e : ∀ i, i < (xs.map f).length → ∃ x, xs[i]? = some x ∧ nth (xs.map f) i = f x := fun i hi => by
    rw [List.length_map] at hi
    exact ⟨xs[i], List.getElem?_eq_getElem hi, nth_of (by rw [List.getElem?_map, List.getElem?_eq_getElem hi]; rfl)⟩
  refine evr_lc hI (by rw [List.length_map]; exact hn) (fun i acc M' => M' = M ∧ acc = ((xs.take i).filter q).map F) (fun M' e => ⟨e, rfl⟩) (fun _ _ _ _ _ c hc => nomatch hc) hb (fun i acc M' hi ⟨hM, ha⟩ => ?_) fun acc M' _ ⟨hM, ha⟩ => ?_
  · subst hM ha
    obtain ⟨x, h1, h2⟩ := e i hi
    rw [h2]
    have hlt := List.getElem?_eq_some_iff.mp h1
    have et : xs.take (i + 1) = xs.take i ++ [x] := by rw [List.take_succ_eq_append_getElem hlt.1, hlt.2]
    intro N F' σ H v Q S r k
    refine hs x (List.mem_of_getElem? h1) N F' σ H v Q S r fun σ' F2 H' ρ' M2 e1 he S1 => k σ' F2 H' ρ' M2 e1 ?_ S1
    intro N F σ H S Q k
    refine he N F σ H S Q fun b M' F' H' e hb w => k b M' F' H' e ?_ w
    obtain ⟨hb1, hM3, hte⟩ := hb
    subst hb1 hM3
    cases hq : q x with
    | true =>
      show EvR K te _ _ _
      refine (hte hq).mono fun d M4 ⟨h3, h4⟩ => ⟨h4, ?_⟩
      rw [et, List.filter_append, List.map_append, List.filter_cons_of_pos hq, h3]; rfl
    | false =>
      refine ⟨rfl, ?_⟩
      rw [et, List.filter_append, List.map_append, List.filter_cons_of_neg (by rw [hq]; decide)]; simp
  · subst hM ha
    rw [List.length_map, List.take_length]
    exact kk
theorem w_lcTq {α : Type} {xs : List α} {f : α → DV} (q : α → Bool) (F : α → DV) (hn : xs.length ≤ 100000) (hI : EvR K te0 ρ M fun d M' => d = .tup (xs.map f) ∧ M' = M) (hb : BdW g vs)
    (hs : ∀ x, x ∈ xs → BdG K g (wipeD ρ vs) M (f x) fun ρ2 M2 => EvTR K tt ρ2 M2 fun b M3 => b = q x ∧ M3 = M ∧ (q x = true → EvR K te ρ2 M fun d' M' => d' = F x ∧ M' = M)) (kk : R (.lst ((xs.filter q).map F)) M) : EvR K (tLc (iTup K te0) g tt te vs) ρ M R := w_lcQ (G := []) (RM := fun _ => True) q F hn (ei_tup hI) hb hs kk
theorem w_lcLq {α : Type} {xs : List α} {f : α → DV} (q : α → Bool) (F : α → DV) (hn : xs.length ≤ 100000) (hI : EvR K te0 ρ M fun d M' => d = .lst (xs.map f) ∧ M' = M) (hb : BdW g vs)
    (hs : ∀ x, x ∈ xs → BdG K g (wipeD ρ vs) M (f x) fun ρ2 M2 => EvTR K tt ρ2 M2 fun b M3 => b = q x ∧ M3 = M ∧ (q x = true → EvR K te ρ2 M fun d' M' => d' = F x ∧ M' = M)) (kk : R (.lst ((xs.filter q).map F)) M) : EvR K (tLc (iList K te0) g tt te vs) ρ M R := w_lcQ (G := []) (RM := fun _ => True) q F hn (ei_lst hI) hb hs kk
end
end DD

set_option Elab.async false
set_option linter.all false
set_option maxRecDepth 100000
set_option maxHeartbeats 4000000
/-! ### dicts with tuples as keys: a display of one pair, in, not in -/
namespace DD
open PySem PySem.Spec PyProof.Rows L2
section
variable {X : Cx} {key val i o : Expr} {pos : Pos} {tk tv ty td : TE} {k : Nat}
def tDisp1N (P : Program) (w : World) (K : PySem.W.Frag) (tk tv : TE) : TE := fun σ H Q => ∀ p, H p = none → tk σ (upd H p (DNO P w p [])) fun y H1 => tv σ H1 fun z H2 => H2 p = some (DNO P w p []) ∧ ∃ b k, NKy K H2 y b k ∧ ∀ u, RelV z u → Q (.ref p) (upd H2 p (DNO P w p [(k, b, u)]))
theorem pe_disp1N (hr : Room k X.A) (hk : PE X key tk) (hv : PE X val tv) : PE X (.Dict [some key] [val] pos) (tDisp1N X.prog X.w X.K tk tv) := by
  refine ⟨fun pins s σ H Q I q => ?_⟩
  have hn := I.hok.fresh (Nat.le_refl s.heap.objs.size)
  have I1 := I.laid (a := s.heap.objs.size) (o := DNO X.prog X.w s.heap.objs.size []) (h' := s.heap.push { cls := .type "dict", data := .dict #[] }) (t' := s.toks) (fun _ _ q => Heap.get?_push_of_some _ q) (Nat.le_refl _) (dno_ok (beq_eq_false_iff_ne.mpr (Ne.symm (Nat.ne_of_lt I.big))) ⟨_, #[], 0, Heap.get?_push_size _ rfl, ⟨rfl, rfl, rfl⟩, rfl, rfl⟩)
  rw [arm_eval_Dict, zip_pairTrees [some key] [val] X.env pos rfl rfl, dictDisplay_pairs _ (by simp [pairTrees]) (by simp [pairTrees])]
  refine wpAny_bind (wpAny_standAt (wpAny_bind (wpAny_subDictH (knd := nestedKind X.prog X.w) (Q := fun d s' => wpAny (model X.prog X.w) X.A (pure (Value.ref d)) _ X.xe s') ?_ (by simp [pairTrees]) ?_)))
  · show X.A.units + 8 < cLine
    have := hr.un
    omega
  refine pairTrees_cons_walk (thn (hk.run pins _ σ _ _ I1 (q _ hn)) fun iv s2 ⟨y, H2, I2, ry, q2⟩ => thn (hv.run pins s2 σ H2 _ I2 q2) fun fv s3 ⟨z, H3, I3, rz, hH, b, kk, ⟨hy, hnk, hdep⟩, q3⟩ => pairTrees_nil_walk ?_)
  subst hy
  cases (show iv = Value.ref b from ry)
  obtain ⟨hsm, dd⟩ := dn_at I3 hH ⟨fun _ h => (nomatch h), List.nodup_nil⟩
  refine ⟨[(kk, b, fv)], ⟨rfl, rfl, ⟨NKv.is I3 hnk rfl, hdep⟩, True.intro⟩, dd, fun h' t' dd' hs => wpAny_pure ?_⟩
  obtain ⟨q, es, ep, hq, h2, h3, h4, _, h5⟩ := dd'
  exact ⟨.ref s.heap.objs.size, _, d_write I3 (by rw [hH]; exact True.intro) hs ⟨q, hq⟩ (dno_ok hsm ⟨q, es, ep, hq, h2, h3, h4⟩), rfl, q3 fv rz⟩
def tDInN (P : Program) (w : World) (K : PySem.W.Frag) (ty td : TE) : TE := fun σ H Q => ty σ H fun y H1 => td σ H1 fun x H2 => ∃ a xs b k, x = .ref a ∧ H2 a = some (DNO P w a xs) ∧ NOk K H2 xs ∧ NKy K H2 y b k ∧ Q (.bl (atKey xs k).isSome) H2
def tDNotInN (P : Program) (w : World) (K : PySem.W.Frag) (ty td : TE) : TE := fun σ H Q => ty σ H fun y H1 => td σ H1 fun x H2 => ∃ a xs b k, x = .ref a ∧ H2 a = some (DNO P w a xs) ∧ NOk K H2 xs ∧ NKy K H2 y b k ∧ Q (.bl (!(atKey xs k).isSome)) H2
theorem pc_dinN (hr : Room k X.A) (hi : PE X i ty) (ho : PE X o td) : PC X .In i o (tDInN X.prog X.w X.K ty td) := by
  refine ⟨fun pins s σ H Q I h => ?_⟩
  refine thn (hi.run pins s σ H _ I h) fun iv s1 ⟨y, H1, I1, ry, q1⟩ => thn (ho.run pins s1 σ H1 _ I1 q1) fun u s2 ⟨x, H2, I2, rx, a, xs, b, kk, ex, hH, hk, ⟨hy, hnk, hdep⟩, q2⟩ => ?_
  subst ex hy
  obtain rfl : u = Value.ref a := rx
  cases (show iv = Value.ref b from ry)
  obtain ⟨hsm, dd⟩ := dn_at I2 hH hk
  refine wpAny_in_heap (knd := nestedKind X.prog X.w) ?_ ⟨NKv.is I2 hnk rfl, hdep⟩ hsm dd ⟨.bl (atKey xs kk).isSome, H2, I2.tok _, rfl, q2⟩
  show X.A.units + 1 + 8 < cLine
  have := hr.un
  omega
theorem pc_dnotinN (hr : Room k X.A) (hi : PE X i ty) (ho : PE X o td) : PC X .NotIn i o (tDNotInN X.prog X.w X.K ty td) := by
  refine ⟨fun pins s σ H Q I h => ?_⟩
  refine thn (hi.run pins s σ H _ I h) fun iv s1 ⟨y, H1, I1, ry, q1⟩ => thn (ho.run pins s1 σ H1 _ I1 q1) fun u s2 ⟨x, H2, I2, rx, a, xs, b, kk, ex, hH, hk, ⟨hy, hnk, hdep⟩, q2⟩ => ?_
  subst ex hy
  obtain rfl : u = Value.ref a := rx
  cases (show iv = Value.ref b from ry)
  obtain ⟨hsm, dd⟩ := dn_at I2 hH hk
  show wpAny _ _ (do return Value.bool (!(← contains (.ref a) (.ref b))) : Sem Value) _ _ _
  refine wpAny_bind (wpAny_contains_heap (knd := nestedKind X.prog X.w) ?_ ⟨NKv.is I2 hnk rfl, hdep⟩ hsm dd (wpAny_pure ⟨.bl (!(atKey xs kk).isSome), H2, I2.tok _, rfl, q2⟩))
  show X.A.units + 1 + 8 < cLine
  have := hr.un
  omega
end
section
variable {K : KB} {ρ : Rho} {M : Ms} {tk td ty tv : TE} {R : DV → Ms → Prop} {P : Program} {w : World} {α β : Type} [DecidableEq α] (E : KEnc α) (ev : β → DV)
theorem evr_disp1N (h : ∀ p, EvR K tk ρ ((p, .dN P w []) :: M) fun kd M1 => EvR K tv ρ M1 fun vd M2 => M2 = (p, .dN P w []) :: M ∧ ∃ (x : α) (y : β), kd = E.enc x ∧ (∃ ds, E.enc x = .tup ds) ∧ vd = ev y ∧ R (.raw (.ref p)) ((p, .dN P w (encD E ev [(x, y)])) :: M)) : EvR K (tDisp1N P w K tk tv) ρ M R := fun N F σ H S Q q p hp => by
  have w1 := (S.w.cell (mo := .dN P w []) hp ⟨[], upd_same, .nil, List.nodup_nil⟩).perm List.perm_middle
  exact h p N F σ _ ⟨w1, S.e, S.bm (Evl.Ex.refl F)⟩ _ fun y kd M1 F1 H1 e1 h1 w2 r2 => h1 N F1 σ H1 ⟨w2, S.e.mono e1, S.bm e1⟩ _ fun z vd M2 F2 H2 e2 ⟨hM, x, yv, hk, ⟨ds, hds⟩, hv, hR⟩ w3 r3 => by
    subst hM hk hv
    have r2' := r2.mono e2
    obtain ⟨b, vs, rfl, _, _⟩ := (hds ▸ r2' : Rp K.fr F2 y (.tup ds)).tup_of
    have hi : (N ++ ((p, MO.dN P w []) :: M))[N.length]? = some (p, MO.dN P w []) := by rw [List.getElem?_append_right (Nat.le_refl _), Nat.sub_self]; rfl
    obtain ⟨_, xs, hx, hr, _⟩ := w3.ce p _ (List.mem_of_getElem? hi)
    cases hr
    refine ⟨hx, b, E.nk x, ⟨rfl, r2'.nkv w3.fr (E.hnk x), E.dep x⟩, fun u ru => ?_⟩
    have w5 := w3.put hi (mo' := .dN P w (encD E ev [(x, yv)])) (o := DNO P w p [(E.nk x, b, u)]) ⟨_, upd_same, .cons (E.hnk x) (E.dep x) r2' ru r3 .nil, List.nodup_cons.mpr ⟨List.not_mem_nil, List.nodup_nil⟩⟩
    rw [List.set_append_right _ _ (Nat.le_refl _), Nat.sub_self] at w5
    exact q _ _ _ F2 _ (e1.trans e2) hR w5 (.raw _)
def DInA (E : KEnc α) (ev : β → DV) (P : Program) (w : World) (k d : DV) (M : Ms) (R : Bool → Prop) : Prop := ∃ (a : Addr) (ps : List (α × β)) (x : α), d = .raw (.ref a) ∧ k = E.enc x ∧ (∃ ds, E.enc x = .tup ds) ∧ (a, MO.dN P w (encD E ev ps)) ∈ M ∧ R (getA ps x).isSome
theorem at_get {K : PySem.W.Frag} {F : Hp} {ps : List (α × β)} {xs : NX} {x : α} (h : RpN K F xs (encD E ev ps)) : (atKey xs (E.nk x)).isSome = (getA ps x).isSome := by
  have := rpn_get (x := x) h
  cases e : getA ps x with
  | none =>
    rw [e] at this
    have t : atKey xs (E.nk x) = none := this
    rw [t]; rfl
  | some y =>
    rw [e] at this
    obtain ⟨p, v, h1, _⟩ := this
    rw [h1]; rfl
theorem evr_dinN (h : EvR K ty ρ M fun k M1 => EvR K td ρ M1 fun d M2 => DInA E ev P w k d M2 fun b => R (.bl b) M2) : EvR K (tDInN P w K ty td) ρ M R := fun N F σ H S Q q =>
  h N F σ H S _ fun y kd M1 F1 H1 e1 h1 w1 r1 => h1 N F1 σ H1 ⟨w1, S.e.mono e1, S.bm e1⟩ _ fun u d M2 F2 H2 e2 ⟨a, ps, x, hd, hk, ⟨ds, hds⟩, hm, hR⟩ w2 r2 => by
    subst hd hk
    cases r2.raw_of
    have r1' := r1.mono e2
    obtain ⟨b, vs, rfl, _, _⟩ := (hds ▸ r1' : Rp K.fr F2 y (.tup ds)).tup_of
    obtain ⟨_, xs, hx, hr, hnd⟩ := w2.ce a _ (List.mem_append_right N hm)
    exact ⟨a, xs, b, E.nk x, rfl, hx, ⟨rpn_nok w2.fr hr, hnd⟩, ⟨rfl, r1'.nkv w2.fr (E.hnk x), E.dep x⟩, q _ _ M2 F2 H2 (e1.trans e2) (by rw [at_get E ev hr]; exact hR) w2 (.bl _)⟩
theorem evr_dnotinN (h : EvR K ty ρ M fun k M1 => EvR K td ρ M1 fun d M2 => DInA E ev P w k d M2 fun b => R (.bl (!b)) M2) : EvR K (tDNotInN P w K ty td) ρ M R := fun N F σ H S Q q =>
  h N F σ H S _ fun y kd M1 F1 H1 e1 h1 w1 r1 => h1 N F1 σ H1 ⟨w1, S.e.mono e1, S.bm e1⟩ _ fun u d M2 F2 H2 e2 ⟨a, ps, x, hd, hk, ⟨ds, hds⟩, hm, hR⟩ w2 r2 => by
    subst hd hk
    cases r2.raw_of
    have r1' := r1.mono e2
    obtain ⟨b, vs, rfl, _, _⟩ := (hds ▸ r1' : Rp K.fr F2 y (.tup ds)).tup_of
    obtain ⟨_, xs, hx, hr, hnd⟩ := w2.ce a _ (List.mem_append_right N hm)
    exact ⟨a, xs, b, E.nk x, rfl, hx, ⟨rpn_nok w2.fr hr, hnd⟩, ⟨rfl, r1'.nkv w2.fr (E.hnk x), E.dep x⟩, q _ _ M2 F2 H2 (e1.trans e2) (by rw [at_get E ev hr]; exact hR) w2 (.bl _)⟩
end
end DD
namespace DD
open PySem PySem.Spec PyProof.Rows L2
section
variable {X : Cx} (P : Program) (w : World) (K : PySem.W.Frag) (hP : X.prog = P) (hw : X.w = w) (hK : X.K = K) {key val i o : Expr} {pos : Pos} {tk tv ty td : TE} {k : Nat}
include hP hw hK in
theorem wDisp1N (hr : Room k X.A) (hk : PE X key tk) (hv : PE X val tv) : PE X (.Dict [some key] [val] pos) (tDisp1N P w K tk tv) := by subst hP hw hK; exact pe_disp1N hr hk hv
include hP hw hK in
theorem wDinN (hr : Room k X.A) (hi : PE X i ty) (ho : PE X o td) : PC X .In i o (tDInN P w K ty td) := by subst hP hw hK; exact pc_dinN hr hi ho
include hP hw hK in
theorem wDnotinN (hr : Room k X.A) (hi : PE X i ty) (ho : PE X o td) : PC X .NotIn i o (tDNotInN P w K ty td) := by subst hP hw hK; exact pc_dnotinN hr hi ho
end
end DD

set_option Elab.async false
set_option linter.all false
set_option maxRecDepth 100000
set_option maxHeartbeats 4000000
/-! ### dicts of ints: copies, ==, sorted(d.items()) -/
namespace DD
open PySem PySem.Spec PyProof.Rows L2 L2.DX
def rCopyDI : List V → Hp → VK → Prop := fun xs H Q => ∃ (a : Addr) (kvs : List (Key × V)), xs = [.ref a] ∧ Rd H a (.dK kvs) ∧ ∀ p, H p = none → Q (.ref p) (upd H p (.dK kvs))
theorem wCopyDI {X : Cx} : CallR X (.type "dict") rCopyDI := call_dictD
theorem rcr_copyDI {K : PySem.W.Frag} {M : Ms} {d : DV} {kvs : List (Int × Int)} {R : DV → Ms → Prop} (h : IsDI d kvs M) (k : ∀ p, R (.raw (.ref p)) ((p, .dK (kdI kvs)) :: M)) : RCR K rCopyDI [d] M R := fun N F us H w hr Q q => by
  obtain ⟨u, rfl, r1⟩ := rpa1 hr
  obtain ⟨a, rfl, ha⟩ := h.at.rd w r1
  refine ⟨a, _, rfl, ha, fun p hp => ?_⟩
  exact q _ _ ((p, .dK (kdI kvs)) :: M) F _ (Evl.Ex.refl F) (k p) ((w.cell (mo := .dK (kdI kvs)) hp ⟨kvI kvs, upd_same, rpk_of kvs⟩).perm List.perm_middle) (.raw _)
/-- every pair of the one is in the other -/
def eqDI (ks ls : List (Int × Int)) : Bool := (ks.length == ls.length) && ks.all fun p => decide (getI ls p.1 = some p.2)
theorem hits_I {A : Around} {s : Shared} {ls : List (Int × Int)} {vb : List (Key × Value)} (rb : KV (kvI ls) vb) : ∀ {ks : List (Int × Int)} {va : List (Key × Value)}, KV (kvI ks) va → PySem.W.KeqHits A s vb va (ks.all fun p => decide (getI ls p.1 = some p.2))
  | [], _, h => by cases h; exact .nil
  | p :: r, _, h => by
    cases h with
    | @cons _ q _ qs h t =>
      obtain ⟨h1, h2⟩ := h
      have ih := hits_I (A := A) (s := s) rb (ks := r) t
      obtain ⟨k, v⟩ := q
      obtain ⟨t1, rfl⟩ : ∃ t1, v = .int p.2 t1 := h2
      have hk : (Sum.inl p.1 : Key) = k := h1
      subst hk
      have rr := rb.val (.inl p.1)
      rw [valV_kvI] at rr
      cases e : getI ls p.1 with
      | none =>
        rw [e] at rr
        have hn : valueAt vb (.inl p.1) = none := by
          cases e2 : valueAt vb (.inl p.1) with
          | none => rfl
          | some y => rw [e2] at rr; exact rr.elim
        rw [List.all_cons, e, decide_eq_false (fun z => nomatch z), Bool.false_and]
        exact .miss hn
      | some y =>
        rw [e] at rr
        obtain ⟨z, hz, t2, rfl⟩ : ∃ z, valueAt vb (.inl p.1) = some z ∧ RelV (.int y) z := rr.some_of
        have he := PySem.SeqAt.EqAt.int_int (A := A) (s := s) p.2 t1 y t2
        rw [List.all_cons, e]
        have e3 : decide (some y = some p.2) = (p.2 == y) := by
          by_cases hh : p.2 = y
          · rw [hh]; simp
          · rw [decide_eq_false (fun z => hh (Option.some.inj z).symm)]; exact (beq_eq_false_iff_ne.mpr hh).symm
        rw [e3]
        exact .hit hz he ih
section
variable {X : Cx}
def rEqDI : R2 := fun x y H Q => ∃ a b ks ls, x = .ref a ∧ y = .ref b ∧ Rd H a (.dK (kvI ks)) ∧ Rd H b (.dK (kvI ls)) ∧ Q (.bl (eqDI ks ls)) H
theorem op_eqDI (hu : X.A.units < cLine) : OpR X (compareOp .Eq) rEqDI := by
  intro pins s σ H x y v u Q I rx ry h
  obtain ⟨a, b, ks, ls, rfl, rfl, ea, eb, q⟩ := h
  obtain rfl : v = Value.ref a := rx
  obtain rfl : u = Value.ref b := ry
  obtain ⟨_, ya, va, ra, da⟩ := dk_rd I.hok ea
  obtain ⟨_, yb, vb, rb, db⟩ := dk_rd I.hok eb
  have l1 : va.length = ks.length := by rw [← ra.length, kvI_len]
  have l2 : vb.length = ls.length := by rw [← rb.length, kvI_len]
  exact PySem.W.keq_eq (knd := mixKind X.prog X.w) (r := ks.all fun p => decide (getI ls p.1 = some p.2)) ya yb da db hu (fun _ => hits_I rb ra) (fin_bl I q (by unfold eqDI; rw [l1, l2]))
theorem wEqDI {k : Nat} (hr : Room k X.A) : OpR X (compareOp .Eq) rEqDI := op_eqDI (by have := hr.un; omega)
end
theorem rv_eqDI {K : PySem.W.Frag} {M : Ms} {x y : DV} {ks ls : List (Int × Int)} (hx : IsDI x ks M) (hy : IsDI y ls M) : RV K rEqDI x y M (.bl (eqDI ks ls)) := fun N F u v H w h1 h2 Q k => by
  obtain ⟨a, rfl, ha⟩ := hx.at.rd w h1
  obtain ⟨b, rfl, hb⟩ := hy.at.rd w h2
  exact ⟨a, b, ks, ls, rfl, rfl, ha, hb, k _ _ M F H (Evl.Ex.refl F) ⟨rfl, rfl⟩ w (.bl _)⟩
/-! many new pairs at once -/
def updT : List (Addr × Int × Int) → Hp → Hp
  | [], H => H
  | l :: r, H => updT r (upd H l.1 (.tup [.int l.2.1, .int l.2.2]))
theorem updT_out {b : Addr} : ∀ {L : List (Addr × Int × Int)} {H : Hp}, b ∉ L.map (·.1) → updT L H b = H b
  | [], _, _ => rfl
  | l :: r, H, h => by
    have h' := fun z => h (List.mem_cons_of_mem _ z)
    show updT r _ b = H b
    rw [updT_out h', upd_ne fun z => h (by rw [z]; exact List.mem_cons_self)]
theorem updT_in : ∀ {L : List (Addr × Int × Int)} {H : Hp}, (L.map (·.1)).Nodup → ∀ l ∈ L, updT L H l.1 = some (.tup [.int l.2.1, .int l.2.2])
  | [], _, _, _, h => nomatch h
  | l :: r, H, hn, x, h => by
    obtain ⟨h1, h2⟩ := List.nodup_cons.mp hn
    rcases List.mem_cons.mp h with rfl | h
    · show updT r _ x.1 = _
      rw [updT_out h1, upd_same]
    · exact updT_in h2 x h
theorem wd_updT {K : PySem.W.Frag} : ∀ {L : List (Addr × Int × Int)} {F H : Hp} {M : Ms}, (L.map (·.1)).Nodup → (∀ l ∈ L, H l.1 = none) → Wd K F M H → Wd K (updT L F) M (updT L H) ∧ Ex F (updT L F)
  | [], F, _, _, _, _, w => ⟨w, Evl.Ex.refl F⟩
  | l :: r, F, H, M, hn, h0, w => by
    obtain ⟨h1, h2⟩ := List.nodup_cons.mp hn
    have hl := h0 l List.mem_cons_self
    have w1 := w.new hl (.tup [.int l.2.1, .int l.2.2])
    have hx := ex_new (o := HO.tup [.int l.2.1, .int l.2.2]) (w.fresh hl)
    have := wd_updT h2 (fun x hx => by rw [upd_ne fun z => h1 (by show l.1 ∈ _; rw [← z]; exact List.mem_map.mpr ⟨x, hx, rfl⟩)]; exact h0 x (List.mem_cons_of_mem _ hx)) w1
    exact ⟨this.1, hx.trans this.2⟩
section
variable {X : Cx} {pins : List (Addr × Obj)} {σ : L2.St} {H : Hp} {s : Shared}
theorem hok_updT {P : Program} {w : World} {h' : Heap} : ∀ (L : List (Addr × Int × Int)) {H : Hp}, (L.map (·.1)).Nodup → (∀ l ∈ L, H l.1 = none) → (∀ l ∈ L, ∃ t u, h'.get? l.1 = some { cls := .type "tuple", data := .seq #[.int l.2.1 t, .int l.2.2 u] }) → HOk P w H h' → HOk P w (updT L H) h' := fun L => by
  induction L with
  | nil => intro H _ _ _ x; exact x
  | cons l r ih =>
    intro H hn h0 ho x
    obtain ⟨h1, h2⟩ := List.nodup_cons.mp hn
    obtain ⟨t, u, e⟩ := ho l List.mem_cons_self
    refine ih h2 (fun y hy => by rw [upd_ne fun z => h1 (by show l.1 ∈ _; rw [← z]; exact List.mem_map.mpr ⟨y, hy, rfl⟩)]; exact h0 y (List.mem_cons_of_mem _ hy)) (fun y hy => ho y (List.mem_cons_of_mem _ hy)) ?_
    exact HOk.laidN x (fun _ _ z => z) (h0 l List.mem_cons_self) ⟨by show 2 ≤ sizeLine; rw [sizeLine_eq]; decide, [.int l.2.1 t, .int l.2.2 u], .cons ⟨_, rfl⟩ (.cons ⟨_, rfl⟩ .nil), ⟨_, e, rfl, _, rfl⟩⟩
theorem inv_updT {h' : Heap} {t' : Nat} {L : List (Addr × Int × Int)} (I : Inv X pins σ H s) (k : ∀ b u, s.heap.get? b = some u → h'.get? b = some u) (hn : (L.map (·.1)).Nodup) (ha : ∀ l ∈ L, s.heap.objs.size ≤ l.1)
    (ho : ∀ l ∈ L, ∃ t u, h'.get? l.1 = some { cls := .type "tuple", data := .seq #[.int l.2.1 t, .int l.2.2 u] }) : Inv X pins σ (updT L H) { s with heap := h', toks := t' } := by
  have hs : ∀ b, b < s.heap.objs.size → updT L H b = H b := fun b hb => updT_out fun z => by
    obtain ⟨l, hl, rfl⟩ := List.mem_map.mp z
    have := ha l hl
    omega
  refine I.un ⟨fun b ob q _ _ _ => k b ob q, fun b ob q _ _ _ => ⟨ob.slots, k b ob q⟩, fun b ob q n _ => by rw [hs b (Heap.lt_size q)]; exact n, fun b ob q _ => ⟨ob, k b ob q⟩, fun b xs q => by rw [hs b (I.hok.lt q)]; exact q, fun b o u q => by rw [hs b (I.hok.lt q)]; exact q, fun b ps q => ⟨#[], by rw [hs b (I.hok.lt q), q]; simp⟩⟩ ?_
  exact hok_updT L hn (fun l hl => I.hok.fresh (ha l hl)) ho (I.hok.kept k)
end
section
variable {X : Cx} {e : Expr} {apos cpos : Pos}
/-- d.items() -/
def tItemsI (t : TE) : TE := fun σ H Q => t σ H fun x H1 => ∃ a kvs, x = .ref a ∧ H1 a = some (.dK (kvI kvs)) ∧ ∀ p, H1 p = none → Q (.ref p) (upd H1 p (itemsO p a))
theorem pe_itemsI {t : TE} (he : PE X e t) (hbase : attributeBase e "items" X.env (eval e X.env) = eval e X.env := by rfl) (hline : (apos.endLine == cpos.line) = true := by rfl) : PE X (.Call (.Attribute e "items" apos) [] [] cpos) (tItemsI t) := by
  refine ⟨fun pins s σ H Q I h => ?_⟩
  refine wpAny_Call_method (T := "dict") (id := "dict.items") hbase rfl hline F.plainAttrs_dict F.slot_dict_items F.type_dict_items (thn (he.run pins s σ H _ I h) fun u s1 ⟨x, H1, I1, rx, a, kvs, ex, hd, q⟩ => ?_)
  subst ex
  obtain rfl : u = Value.ref a := rx
  obtain ⟨_, hd0, vs, _, dd⟩ := dk_rd I1.hok (Or.inl hd)
  obtain ⟨es0, ep0, ⟨ob, hob, hxd, hdt⟩, _, _⟩ := dd.raw
  refine ⟨⟨ob, hob, hxd.1⟩, fun b q => by cases q; exact ⟨ob, hob, hxd.2.1⟩, ?_⟩
  show wpAny _ _ (callWith cpos (.builtin "dict.items") [.ref a] [] []) _ X.xe s1
  refine method_meetsIn F.slot_dict_items F.entry_dict_items rfl (PySem.evalArgs_none ⟨rfl, ⟨ob, hob, hxd.1⟩, F.args_dict_items_1 _, _, meets_dict_items_raw a hd0, ⟨es0, ep0, ob, hob, hxd, hdt⟩, ?_⟩)
  exact ⟨.ref s1.heap.objs.size, _, I1.laid (t' := s1.toks) (fun b o q => Heap.get?_push_of_some _ q) (Nat.le_refl _) (itemsO_ok (Heap.get?_push_size _ rfl)), rfl, q _ (I1.hok.fresh (Nat.le_refl _))⟩
def rowOf (l : Addr × Int × Int) : List Int := [l.2.1, l.2.2]
def rSortIt : List V → Hp → VK → Prop := fun vs H Q => ∃ (p a : Addr) (ks : List (Int × Int)), vs = [.ref p] ∧ H p = some (itemsO p a) ∧ H a = some (.dK (kvI ks)) ∧ ks.length ≤ 1000 ∧
  ∀ (L L' : List (Addr × Int × Int)) q, L.map (·.2) = ks → (L.map (·.1)).Nodup → (∀ l ∈ L, H l.1 = none) → L' = L.mergeSort (fun x y => decide (rowOf x ≤ rowOf y)) → q ∉ L.map (·.1) → H q = none → Q (.ref q) (upd (updT L H) q (.lst (L'.map fun l => .ref l.1)))
theorem refs_each : ∀ {L : List (Addr × Int × Int)} {us : List Value}, PySem.W.EachIs (fun u (l : Addr × Int × Int) => u = Value.ref l.1) us L → Vals (L.map fun l => V.ref l.1) us
  | [], _, .nil => .nil
  | l :: r, _, .cons h t => by subst h; exact .cons rfl (refs_each t)
theorem cr_sortIt (hc : X.calm = true) {k : Nat} (hr : Room k X.A) : CallR X (.builtin "sorted") rSortIt := by
  intro pins s σ H xs us Q I r h
  obtain ⟨p, a, ks, rfl, hp, ha, hl, q⟩ := h
  obtain ⟨u, rfl, ru⟩ := vals1 r
  cases (show u = Value.ref p from ru)
  obtain ⟨_, hd0, vs, rel, dd⟩ := dk_rd I.hok (Or.inl ha)
  obtain ⟨es, ep, hraw, hes, hent⟩ := dd.raw
  have hv : s.heap.IsItemsView p a := (show ObjOk X.prog X.w H s.heap p (itemsO p a) from I.hok p _ hp).1
  have hvl : vs.length = ks.length := by rw [← rel.length, kvI_len]
  refine Calls.call_function_entry PyProof.Rows.kind_sorted PyProof.Rows.plain_sorted PyProof.Rows.entry_sorted (PyProof.Rows.args_sorted1 _) ?_
  unfold Builtin.«sorted»
  refine wpAny_bind (m := checkCount "sorted" 1 1 _) (wpAny_pure ?_)
  refine wpAny_bind (PySem.W.dil_collect (A := X.A.in1) (I.ok.hd hc) hv hraw (by rw [hes, hvl, sizeLine_eq]; omega) fun h' tk as hk hal hG => ?_)
  have hak : as.length = ks.length := by rw [hal, hes, hvl]
  generalize hL : as.zip ks = L
  have hL1 : L.map (·.1) = as := by rw [← hL]; exact List.map_fst_zip (by omega)
  have hL2 : L.map (·.2) = ks := by rw [← hL]; exact List.map_snd_zip (by omega)
  have hnd : (L.map (·.1)).Nodup := by rw [hL1]; exact hG.rise.imp fun h => Nat.ne_of_lt h
  have hab : ∀ l ∈ L, s.heap.objs.size ≤ l.1 := fun l hl' => Nat.le_of_lt (hG.above l.1 (by rw [← hL1]; exact List.mem_map.mpr ⟨l, hl', rfl⟩))
  have hob : ∀ l ∈ L, ∃ t u, h'.get? l.1 = some { cls := .type "tuple", data := .seq #[.int l.2.1 t, .int l.2.2 u] } := fun l hl' => by
    obtain ⟨j, hj⟩ := List.mem_iff_getElem?.mp hl'
    rw [← hL, List.getElem?_zip_eq_some] at hj
    obtain ⟨hjs, he⟩ := hG.pairs j l.1 hj.1
    have hkj : (kvI ks)[j]? = some (.inl l.2.1, .int l.2.2) := by unfold kvI; rw [List.getElem?_map, hj.2]; rfl
    obtain ⟨x, hx, h1, h2⟩ := paired_get rel hkj
    obtain ⟨kk, vv⟩ := x
    obtain ⟨t2, rfl⟩ : ∃ t2, vv = .int l.2.2 t2 := h2
    have hk1 : (Sum.inl l.2.1 : Key) = kk := h1
    subst hk1
    obtain ⟨e1, e2⟩ := hent j hjs _ _ hx
    rcases keyIs_shape (k := Sum.inl l.2.1) (v := es[j].key) e1 with ⟨i, t, ek, ev⟩ | ⟨z, t, ek, ev⟩
    · cases ek
      exact ⟨t, t2, by rw [he, ev, e2]⟩
    · cases ek
  have I1 : Inv X pins σ (updT L H) { s with heap := h', toks := tk } := inv_updT I hk hnd hab hob
  have hlen : (as.map Value.ref).length = L.length := by rw [List.length_map, ← hL1, List.length_map]
  have hll : L.length ≤ 1000 := by rw [← List.length_map (f := (·.2)), hL2]; exact hl
  refine wpAny_bind (wpAny_newList ?_ (by rw [hlen, sizeLine_eq]; omega))
  have hoL : (h'.push (seqObj "list" (as.map Value.ref).toArray 0)).get? h'.objs.size = some (seqObj "list" (as.map Value.ref).toArray 0) := Heap.get?_push_size _ rfl
  show wpAny _ _ _ _ _ { s with heap := h'.push (seqObj "list" (as.map Value.ref).toArray 0), toks := tk }
  have hS : PySem.W.EachIs (fun u (l : Addr × Int × Int) => u = Value.ref l.1) (as.map Value.ref) L := by
    rw [← hL1]
    clear hL hL1 hL2 hnd hab hob I1 hlen hll hoL
    induction L with
    | nil => exact .nil
    | cons l r ih => exact .cons rfl ih
  have er : PySem.W.EachIs (fun u (l : Addr × Int × Int) => ∃ rs, Reads (h'.push (seqObj "list" (as.map Value.ref).toArray 0)) u (tupPy (rowOf l)) rs ∧ h'.objs.size ∉ rs) (as.map Value.ref) L := by
    refine PySem.W.EachIs.of_zip (by rw [hlen]) fun z hz => ?_
    have hz1 := hS.zip z hz
    obtain ⟨t, u, e⟩ := hob z.2 (List.of_mem_zip hz).2
    obtain ⟨bs, q1, q2⟩ := readsAll_ints (h := h'.push (seqObj "list" (as.map Value.ref).toArray 0)) (ns := [z.2.2.1, z.2.2.2]) (us := [.int z.2.2.1 t, .int z.2.2.2 u]) (.cons ⟨_, rfl⟩ (.cons ⟨_, rfl⟩ .nil))
    rw [hz1]
    exact ⟨_, .tuple (Heap.get?_push_of_some _ e) rfl rfl (by simpa [rowOf] using q1), q2 _⟩
  refine wpAny_bind (wpAny_holding (PySem.W.list_sort_data (s := { s with heap := h'.push (seqObj "list" (as.map Value.ref).toArray 0), toks := tk }) (enc := fun l : Addr × Int × Int => tupPy (rowOf l)) (R := fun u (l : Addr × Int × Int) => u = Value.ref l.1) (bs := L) hoL hS er (PySem.W.AllAlike.of fun p p' => ?_) (.inl fun d hd' => ?_) (by rw [sizeLine_eq]; omega) (fun p hp => ?_) fun out hlo eo => ?_))
  · show PySem.W.alikeAll ((rowOf p).map .int) ((rowOf p').map .int) = true
    exact PySem.W.alike_ints _ _
  · obtain ⟨p, hp, rfl⟩ := List.mem_map.mp hd'
    exact ⟨.int p.2.1, [.int p.2.2], rfl⟩
  · have : (tupPy (rowOf p)).depth = 1 := by show PyData.depthAll ((rowOf p).map .int) + 1 = 1; rw [PySem.W.depth_ints]
    rw [this]
    show X.A.units + 1 + 1 + 1 < cLine
    have := hr.un
    omega
  · have e2 : PySem.W.dataLe false (fun p : Addr × Int × Int => tupPy (rowOf p)) = fun x y => decide (rowOf x ≤ rowOf y) := by
      funext p p'
      exact congrFun (congrFun dataLe_tups (rowOf p)) (rowOf p')
    rw [e2] at eo
    have hvv := refs_each eo
    obtain ⟨c', he'⟩ := sortedHeap_at (vs := as.map Value.ref) (out := List.toArray out) hoL
    have nh : h'.objs.size ∉ L.map (·.1) := fun z => by
      obtain ⟨l, hl', e⟩ := List.mem_map.mp z
      obtain ⟨t, u, e3⟩ := hob l hl'
      have hz2 := Heap.lt_size e3
      rw [show l.1 = h'.objs.size from e] at hz2
      exact Nat.lt_irrefl _ hz2
    have nw0 : H h'.objs.size = none := (show Inv X pins σ H { s with heap := h', toks := tk } from I.kept hk).hok.fresh (Nat.le_refl _)
    have nw : updT L H h'.objs.size = none := by rw [updT_out nh]; exact nw0
    refine wpAny_pure ⟨_, rfl, .ref h'.objs.size, upd (updT L H) h'.objs.size (.lst ((L.mergeSort fun x y => decide (rowOf x ≤ rowOf y)).map fun l => .ref l.1)), I1.laid (t' := tk) (fun b u e => ?_) (Nat.le_refl _) ?_, rfl, q L _ _ hL2 hnd (fun l hl' => I.hok.fresh (hab l hl')) rfl nh nw0⟩
    · have hb : b < h'.objs.size := Heap.lt_size e
      rw [sortedHeap_old (Nat.ne_of_lt hb) (by rw [size_push']; exact Nat.lt_succ_of_lt hb)]
      exact Heap.get?_push_of_some _ e
    · show ObjOk X.prog X.w _ _ _ (.lst _)
      refine ⟨Nat.le_trans (by rw [List.length_map, List.length_mergeSort]; exact hll) (by rw [sizeLine_eq]; decide), out, c', hvv, ?_⟩
      exact he'
end
end DD
namespace DD
open PySem PySem.Spec PyProof.Rows L2 L2.DX
/-! ### a statement ahead of which an owned dict is shut -/
def sFrz (i : Nat) (t : TS) : TS := fun D σ H => t D σ H ∨ ∃ d kvs, σ[i]? = some (some (.ref d)) ∧ H d = some (.dK kvs) ∧ ∀ od, t D σ (upd H d (.frz od (.dK kvs)))
theorem ps_sfrz {X : Cx} {st : Stmt} {t : TS} (i : Nat) (h : PS X st t) : PS X st (sFrz i t) := by
  refine ⟨fun pins s σ H D I hw => ?_⟩
  rcases hw with hw | ⟨d, kvs, _, hd, hw⟩
  · exact h.run pins s σ H D I hw
  · obtain ⟨od, I2⟩ := I.lock hd (by trivial)
    exact h.run pins s σ _ D I2 (hw od)
section
variable {K : KB} {ρ : Rho} {M M2 : Ms} {te td : TE} {R : DV → Ms → Prop} {P : Post} {t : TS}
theorem xs_sfrz {i : Nat} {a : Addr} {kvs : List (Int × Int)} (hi : ρ[i]? = some (some (.raw (.ref a)))) (hm : M.Perm ((a, .dK (kdI kvs)) :: M2)) (h : XS K t (ρ.set i (some (.dki kvs))) M2 P) : XS K (sFrz i t) ρ M P := fun N F σ H D S e => by
  obtain ⟨v, hv, hr⟩ := S.e.get hi
  cases hr.raw_of
  have w2 := S.w.perm (((List.Perm.append_left N hm).trans List.perm_middle).symm)
  refine .inr ⟨a, _, hv, (w2.freezeD default).1, fun od => ?_⟩
  obtain ⟨_, F2, e2, w3, r3⟩ := w2.freezeD od
  have e4 : σ.set i (some (V.ref a)) = σ := by
    apply List.ext_getElem?
    intro j
    rw [List.getElem?_set]
    split
    · rename_i hj; subst hj
      split
      · exact hv.symm
      · rename_i hl
        rw [List.getElem?_eq_none (by omega)]
    · rfl
  refine h N F2 σ _ D ⟨w3, ?_, S.bm e2⟩ (e.mono e2)
  have := EnvD.set r3 i (S.e.mono e2)
  rw [e4] at this
  exact this
theorem rpa_at : ∀ {L : List (Addr × Int × Int)} {KF : PySem.W.Frag} {F : Hp}, (∀ l ∈ L, F l.1 = some (.tup [.int l.2.1, .int l.2.2])) → RpA KF F (L.map fun l => V.ref l.1) ((L.map rowOf).map tupI)
  | [], _, _, _ => .nil
  | l :: r, _, _, h => .cons (.tup (SqT.of (h l List.mem_cons_self)) (RpA.ints [l.2.1, l.2.2])) (rpa_at fun x hx => h x (List.mem_cons_of_mem _ hx))
/-- sorted(d.items()) -/
def rowsI (kvs : List (Int × Int)) : List (List Int) := kvs.map fun p => [p.1, p.2]
theorem w_sortIt (h : EvR K te ρ M fun d M1 => ∃ a kvs, d = .raw (.ref a) ∧ (a, MO.dK (kdI kvs)) ∈ M1 ∧ kvs.length ≤ 1000 ∧ R (.lst ((sortRows (rowsI kvs)).map tupI)) M1) : EvR K (tCB rSortIt (tCons (tItemsI te) tNil)) ρ M R := fun N F σ H S Q q =>
  h N F σ H S _ fun v d M1 F1 H1 e1 ⟨a, kvs, hd, hm, hl, hR⟩ w1 r1 => by
    subst hd
    cases r1.raw_of
    obtain ⟨hna, ws, hx, hr⟩ := w1.ce a _ (List.mem_append_right N hm)
    rw [rpk_kdI hr] at hx
    refine ⟨a, kvs, rfl, hx, fun p hp => ?_⟩
    have w2 := w1.new hp (itemsO p a)
    have hn := w1.fresh hp
    have hap : a ≠ p := ne_of_none hx hp
    refine ⟨p, a, kvs, rfl, upd_same, by rw [upd_ne hap]; exact hx, hl, fun L L' q2 h1 h2 h3 h4 h5 h6 => ?_⟩
    obtain ⟨w3, ex3⟩ := wd_updT h2 h3 w2
    have hq2 : updT L (upd H1 p (itemsO p a)) q2 = none := by rw [updT_out h5]; exact h6
    have w4 := w3.new hq2 (.lst (L'.map fun l => .ref l.1))
    have ex4 := ex_new (o := HO.lst (L'.map fun l => V.ref l.1)) (w3.fresh hq2)
    have hL : ∀ l ∈ L', updT L (upd F1 p (itemsO p a)) l.1 = some (.tup [.int l.2.1, .int l.2.2]) := fun l hl' => updT_in h2 l (by rw [h4] at hl'; exact (List.mergeSort_perm _ _).mem_iff.mp hl')
    have e5 : L'.map rowOf = sortRows (rowsI kvs) := by
      rw [h4]
      have := PySem.W.sort_maps (r := fun x y : Addr × Int × Int => decide (rowOf x ≤ rowOf y)) (s := fun x y : List Int => decide (x ≤ y)) rowOf (l := L) fun a _ b _ => rfl
      rw [this]
      show sortRows (L.map rowOf) = _
      rw [← h1]
      unfold rowsI
      rw [List.map_map]; rfl
    have hp2 := (rpa_at (KF := K.fr) hL).mono ex4
    rw [e5] at hp2
    exact q _ _ M1 _ _ (((e1.trans (ex_new hn)).trans ex3).trans ex4) hR w4 (.lst upd_same hp2)
end
end DD

set_option Elab.async false
set_option linter.all false
set_option maxRecDepth 100000
set_option maxHeartbeats 4000000
/-! ### tuples that are exactly such: made by tuple(..); dict(t), t.index(x) -/
namespace DD
open PySem PySem.Spec PyProof.Rows L2
theorem Rp.tx_tup {K : PySem.W.Frag} {F : Hp} {v : V} {ds : List DV} (h : Rp K F v (.tx ds)) : Rp K F v (.tup ds) := by
  cases h with
  | tx h hc r => exact .tup (.inl (.inr ⟨_, h⟩)) r
theorem Rp.tx_of {K : PySem.W.Frag} {F : Hp} {v : V} {ds : List DV} (h : Rp K F v (.tx ds)) : ∃ a o xs, v = .ref a ∧ F a = some (.frz o (.tup xs)) ∧ (o.cls = .type "tuple" ∧ o.dict = none) ∧ RpA K F xs ds := by
  cases h with
  | tx h hc r => exact ⟨_, _, _, rfl, h, hc, r⟩
section
variable {K : KB} {ρ : Rho} {M : Ms} {te : TE} {R : DV → Ms → Prop}
/-- read as any tuple -/
theorem evr_tx (h : EvR K te ρ M fun d M1 => R d M1 ∨ ∃ ds, d = .tx ds ∧ R (.tup ds) M1) : EvR K te ρ M R := fun N F σ H S Q q => h N F σ H S _ fun v d M1 F1 H1 e1 hr w1 r1 => by
  rcases hr with hr | ⟨ds, rfl, hr⟩
  · exact q v d M1 F1 H1 e1 hr w1 r1
  · exact q v _ M1 F1 H1 e1 hr w1 r1.tx_tup
theorem evr_varX {i : Nat} {ds : List DV} (h : ρ[i]? = some (some (.tx ds))) (k : R (.tup ds) M) : EvR K (tVar i) ρ M R := evr_tx (Ev.go (ev_var h) (.inr ⟨ds, rfl, k⟩))
end
/-! tuple(list) -/
section
variable {X : Cx}
def rTupX (K : PySem.W.Frag) : List V → Hp → VK → Prop := fun xs H Q => ∃ p ys, xs = [.ref p] ∧ SqL K H p ys ∧ ∀ l o, H l = none → o.cls = .type "tuple" → o.dict = none → Q (.ref l) (upd H l (.frz o (.tup ys)))
theorem call_tupX : CallR X (.type "tuple") (rTupX X.K) := by
  intro pins s σ H xs us Q I r h
  obtain ⟨p, ys, rfl, hq, q⟩ := h
  obtain ⟨u, rfl, rx⟩ := vals1 r
  cases rx
  obtain ⟨its, r', pl, hz⟩ := I.list hq
  have hlen := r'.length
  refine call_tuple_list pl.isList (fun h' kp => ?_) (by simp only [List.size_toArray] <;> omega)
  have I1 : Inv X pins σ H { s with heap := h' } := I.kept (t' := s.toks) kp
  have I2 : Inv X pins σ (upd H h'.objs.size (.frz { cls := .type "tuple", data := .seq its.toArray } (.tup ys))) { s with heap := h'.push { cls := .type "tuple", data := .seq its.toArray } } :=
    I1.laid (t' := s.toks) (fun b o e => Heap.get?_push_of_some _ e) (Nat.le_refl _) (show ObjOk X.prog X.w _ _ _ (.frz _ (.tup ys)) from ⟨Heap.get?_push_size _ rfl, hz, its, r', IsTup.new _ _⟩)
  exact ⟨.ref h'.objs.size, _, I2, rfl, q _ _ (I1.hok.fresh (Nat.le_refl _)) rfl rfl⟩
theorem wTupX (K : PySem.W.Frag) (hK : X.K = K) : CallR X (.type "tuple") (rTupX K) := hK ▸ call_tupX
end
section
variable {K : PySem.W.Frag} {M : Ms} {ds : List DV}
theorem rc_tupX : RC K (rTupX K) [.lst ds] M (.tx ds) := fun N F us H w hr Q k => by
  obtain ⟨u, rfl, r1⟩ := rpa1 hr
  obtain ⟨a, xs, rfl, ha, ra⟩ := r1.lst_of
  exact ⟨a, xs, rfl, SqL.of (w.fr _ _ ha), fun p o hp h1 h2 => k _ _ M _ _ (ex_new (w.fresh hp)) ⟨rfl, rfl⟩ (w.new hp _) (.tx upd_same ⟨h1, h2⟩ (ra.mono (ex_new (w.fresh hp))))⟩
theorem rc_tupXC {a : Addr} (hm : (a, MO.lst ds) ∈ M) : RC K (rTupX K) [.raw (.ref a)] M (.tx ds) := fun N F us H w hr Q k => by
  obtain ⟨u, rfl, r1⟩ := rpa1 hr
  cases r1.raw_of
  obtain ⟨_, xs, ha, ra⟩ := w.ce a _ (List.mem_append_right N hm)
  exact ⟨a, xs, rfl, SqL.of ha, fun p o hp h1 h2 => k _ _ M _ _ (ex_new (w.fresh hp)) ⟨rfl, rfl⟩ (w.new hp _) (.tx upd_same ⟨h1, h2⟩ (ra.mono (ex_new (w.fresh hp))))⟩
end
/-! dict(t) of a tuple of pairs of ints -/
section
variable {X : Cx}
theorem pairs_of2 {pins : List (Addr × Obj)} {σ : L2.St} {H : Hp} {s : Shared} (I : Inv X pins σ H s) : ∀ {ps : List Addr} {kvs : List (Int × Int)}, Paired (fun p (kv : Int × Int) => SqT X.K H p [.int kv.1, .int kv.2]) ps kvs →
    ∃ (vps : List (Value × Value)) (prs : List (Key × Value)), KV (kvI kvs) prs ∧ vps.length = ps.length ∧ prs.length = ps.length ∧ ∀ (j : Nat) (u v : Value), vps[j]? = some (u, v) → ∃ (b : Addr) (k : Key), ps[j]? = some b ∧ s.heap.IsTuple b #[u, v] ∧ prs[j]? = some (k, v) ∧ (mixKind X.prog X.w).is k u = true
  | _, _, .nil => ⟨[], [], .nil, rfl, rfl, fun j u v e => by simp at e⟩
  | _, _, .cons (a := p) (b := kv) h t => by
    obtain ⟨vps, prs, r, l1, l2, hp⟩ := pairs_of2 I t
    obtain ⟨its, rv, ht, _⟩ := I.tuple h
    obtain ⟨u, y, ei, ⟨t1, ru⟩, ry⟩ := vals2 rv
    subst ei ru
    refine ⟨(.int kv.1 t1, y) :: vps, (.inl kv.1, y) :: prs, .cons ⟨rfl, ry⟩ r, by rw [List.length_cons, List.length_cons, l1], by rw [List.length_cons, List.length_cons, l2], fun j u v e => ?_⟩
    cases j with
    | zero =>
      cases e
      exact ⟨p, .inl kv.1, rfl, ht, rfl, kV_is (P := X.prog) (w := X.w) (k := .inl kv.1) ⟨t1, rfl⟩⟩
    | succ j =>
      obtain ⟨b, k, e1, e2, e3, e4⟩ := hp j u v (by simpa using e)
      exact ⟨b, k, by simpa using e1, e2, by simpa using e3, e4⟩
def rDictT (K : PySem.W.Frag) : List V → Hp → VK → Prop := fun xs H Q => ∃ (a : Addr) (o : Obj) (ps : List Addr) (kvs : List (Int × Int)), xs = [.ref a] ∧ H a = some (.frz o (.tup (ps.map V.ref))) ∧ o.cls = .type "tuple" ∧ o.dict = none ∧ Paired (fun p (kv : Int × Int) => SqT K H p [.int kv.1, .int kv.2]) ps kvs ∧ kvs.length ≤ 1000 ∧
  ∀ p, H p = none → Q (.ref p) (upd H p (.dK (mergeK [] (kvI kvs))))
theorem call_dictT (hcalm : X.calm = true) : CallR X (.type "dict") (rDictT X.K) := by
  intro pins s σ H xs us Q I r h
  obtain ⟨a, o, ps, kvs, rfl, ha, hc, hdn, hp, hl, q⟩ := h
  obtain ⟨u, rfl, rx⟩ := vals1 r
  cases rx
  obtain ⟨ho, hz, its, rv, o', ho', hc', n, hdat⟩ := (show ObjOk X.prog X.w H s.heap a (.frz o (.tup (ps.map V.ref))) from I.hok a _ ha)
  rw [ho] at ho'
  cases ho'
  have ei := refs_at rv
  subst ei
  obtain ⟨vps, prs, rel, l1, l2, hpr⟩ := pairs_of2 I hp
  have l3 : kvs.length = prs.length := by rw [← kvI_len]; exact rel.length
  have hits : ((ps.map Value.ref).toArray).size = vps.length := by simp [l1]
  refine call_dict_pairs (knd := mixKind X.prog X.w) (kvs := prs) (PairArg.tuple (prog := X.prog) (w := X.w) a (ps.map Value.ref).toArray (fun j => ps.getD j 0) vps) (I.ok.hd hcalm) ⟨⟨o, n, ho, hc, hdn, hdat⟩, hits, fun j k v e => ?_⟩ ⟨by omega, fun j key v e => ?_⟩ (by rw [sizeLine_eq]; omega) fun h' tk hd' k => ?_
  · obtain ⟨b, kk, e1, e2, _, _⟩ := hpr j k v e
    have e4 : ps.getD j 0 = b := by rw [List.getD_eq_getElem?_getD, e1]; rfl
    refine ⟨by simp [e1, e4], ?_⟩
    show PairAt s.heap (ps.getD j 0) k v
    rw [e4]
    exact .inl e2
  · obtain ⟨b, kk, e1, e2, e3, e4⟩ := hpr j key v e
    exact ⟨kk, e3, e4⟩
  · have hm : (s.heap.objs.size == sysModules) = false := beq_eq_false_iff_ne.mpr (Nat.ne_of_gt I.big)
    have hlen : (mergeK [] (kvI kvs)).length ≤ sizeLine := by
      refine Nat.le_trans (length_mergeK (kvI kvs) []) ?_
      rw [List.length_nil, Nat.zero_add, kvI_len, sizeLine_eq]
      omega
    have k' : ∀ b ob, s.heap.get? b = some ob → h'.get? b = some ob := fun b ob e => k b ob (fun z => nomatch z) e
    exact ⟨.ref s.heap.objs.size, upd H s.heap.objs.size (.dK (mergeK [] (kvI kvs))), I.laid (t' := tk) k' (Nat.le_refl _) (show ObjOk X.prog X.w _ _ _ (.dK (mergeK [] (kvI kvs))) from ⟨hlen, hm, merged [] prs, KV.merge rel .nil, hd'⟩), rfl, q _ (I.hok.fresh (Nat.le_refl _))⟩
theorem wDictT (K : PySem.W.Frag) (hK : X.K = K) (hcalm : X.calm = true) : CallR X (.type "dict") (rDictT K) := hK ▸ call_dictT hcalm
end
/-- dict(pairs), as a list of pairs -/
def mergeI (kvs : List (Int × Int)) : List (Int × Int) := kvs.foldl (fun acc p => putI acc p.1 p.2) []
theorem mergeK_kvI : ∀ (kvs acc : List (Int × Int)), mergeK (kvI acc) (kvI kvs) = kvI (kvs.foldl (fun acc p => putI acc p.1 p.2) acc)
  | [], acc => rfl
  | p :: r, acc => by
    show mergeK (putK (kvI acc) (.inl p.1) (.int p.2)) (kvI r) = _
    rw [putK_kvI]
    exact mergeK_kvI r _
section
variable {K : PySem.W.Frag} {M : Ms}
theorem pairI_of {F H : Hp} (ex : Ex F H) : ∀ {xs : List V} {kvs : List (Int × Int)}, RpA K F xs (kvs.map fun p => tupI [p.1, p.2]) → ∃ ps : List Addr, xs = ps.map V.ref ∧ Paired (fun p (kv : Int × Int) => SqT K H p [.int kv.1, .int kv.2]) ps kvs
  | _, [], .nil => ⟨[], rfl, .nil⟩
  | _, p :: r, .cons h t => by
    obtain ⟨ps, h1, h2⟩ := pairI_of ex (kvs := r) t
    obtain ⟨a, vs, rfl, hs, hv⟩ := h.tup_of
    have hv' : vs = [V.int p.1, V.int p.2] := RpA.ints_of (ns := [p.1, p.2]) hv
    subst hv'
    exact ⟨a :: ps, by rw [h1]; rfl, .cons (Evl.ex_t ex hs) h2⟩
theorem rcr_dictT {kvs : List (Int × Int)} {R : DV → Ms → Prop} (hl : kvs.length ≤ 1000) (k : ∀ p, R (.raw (.ref p)) ((p, .dK (kdI (mergeI kvs))) :: M)) : RCR K (rDictT K) [.tx (kvs.map fun p => tupI [p.1, p.2])] M R := fun N F us H w hr Q q => by
  obtain ⟨u, rfl, r1⟩ := rpa1 hr
  obtain ⟨a, o, xs, rfl, ha, ⟨hc, hd⟩, ra⟩ := r1.tx_of
  obtain ⟨ps, rfl, hp⟩ := pairI_of w.fr ra
  refine ⟨a, o, ps, kvs, rfl, w.fr _ _ ha, hc, hd, hp, hl, fun p hp => ?_⟩
  rw [show mergeK [] (kvI kvs) = kvI (mergeI kvs) from mergeK_kvI kvs []]
  exact q _ _ ((p, .dK (kdI (mergeI kvs))) :: M) F _ (Evl.Ex.refl F) (k p) ((w.cell (mo := .dK (kdI (mergeI kvs))) hp ⟨kvI (mergeI kvs), upd_same, rpk_of _⟩).perm List.perm_middle) (.raw _)
end
end DD
namespace DD
open PySem PySem.Spec PyProof.Rows L2
/-- from now on as any tuple -/
theorem xs_weakX {K : KB} {ρ : Rho} {M : Ms} {P : Post} {t : TS} {i : Nat} {ds : List DV} (hi : ρ[i]? = some (some (.tx ds))) (h : XS K t (ρ.set i (some (.tup ds))) M P) : XS K t ρ M P := fun N F σ H D S e => by
  obtain ⟨v, hv, hr⟩ := S.e.get hi
  have e4 : σ.set i (some v) = σ := by
    apply List.ext_getElem?
    intro j
    rw [List.getElem?_set]
    split
    · rename_i hj; subst hj
      split
      · exact hv.symm
      · rename_i hl
        rw [List.getElem?_eq_none (by omega)]
    · rfl
  have := EnvD.set hr.tx_tup i S.e
  rw [e4] at this
  exact h N F σ H D ⟨S.w, this, S.b⟩ e
end DD

set_option maxHeartbeats 1000000
/-! the head by a Hook: facts by names, tables of defs with lambdas -/
namespace HK
open PySem PySem.Spec PyProof.Rows L2 DD
section
variable {fa : List He.Fa} {fn : List He.DefD} {ts : List He.Tab} {tf : List He.Defn} {xl : List (PySem.W.Frag → Bool)} {w : World} {h : Heap} {K : PySem.W.Frag}
theorem fun_ {c0 : PySem.W.Frag → Bool} (c : He.SaysX fa fn ts tf c0 w h K) (i : Nat) {p : Str × Option Str} {x qual : Str} {st : Stmt} (hi : fn[i]? = some (dd p x qual st)) : ∃ fd, Fun K x qual st (He.fAd K p) fd ∧ fd.code = .ref (He.codeOf K p) := by
  obtain ⟨fd, F⟩ := c.t.d.def_ i hi
  obtain ⟨oc, od, dV, kV, doc, pm, an, cdv, ct, osl, e, lk, hcd, hd, _⟩ := F.ex
  rcases hd with ⟨_, hz⟩ | ⟨hne, _⟩
  · subst hz
    obtain ⟨cc, hc⟩ := He.codeIn_ref hcd
    have hcode : fd.code = .ref cc := by rw [e]; exact hc
    refine ⟨fd, ⟨⟨oc, od, kV, doc, pm, an, cdv, ct, osl, e, lk, hcd⟩, F.kp⟩, ?_⟩
    rw [He.codeOf_eq (p := p) lk hcode]
    exact hcode
  · exact absurd rfl hne
theorem x (c : He.SaysX fa fn ts tf (exOf xl) w h K) (i : Nat) {f : PySem.W.Frag → Bool} (hi : xl[i]? = some f) : f K = true := List.all_eq_true.mp (show (xl.all fun f => f K) = true from c.more) f (List.mem_of_getElem? hi)
theorem binds1 {x qual p : Str} {st : Stmt} {f : Addr} {fd : FuncData} (F : Fun K x qual st f fd) (hb : ∀ (kV doc pm : Value) (an : Option Addr) (cdv ct u : Value), bindArgs (PySem.W.fnOf x qual (defArgs st) (defBody st) (defScope st) .none kV doc pm an cdv ct) ⟨[u], []⟩ = pure [(p, u)]) (s : Shared) (u : Value) : BindsTo s fd ⟨[u], []⟩ [(p, u)] := by
  obtain ⟨oc, od, kV, doc, pm, an, cdv, ct, osl, rfl, lk, hcd⟩ := F.ex
  exact .of_eq (hb kV doc pm an cdv ct u)
end
theorem funV {fa : List He.Fa} {fn : List He.DefD} {ts : List He.Tab} {tf : List He.Defn} {w : World} {h : Heap} {K : PySem.W.Frag} {c0 : PySem.W.Frag → Bool} (c : He.SaysX fa fn ts tf c0 w h K) (i : Nat) {kn : Str} {p : Str × Option Str} {x qual : Str} {st : Stmt} (hi : fn[i]? = some (ddV kn p x qual st)) : ∃ fd, FunD K x qual (defArgs st) (defBody st) (defScope st) [] [(kn, .non)] (He.fAd K p) fd := c.t.d.def_ i hi
/-- the end, the tables by name -/
theorem walk {l : PySem.W.OpenLaw} {k : Nat} {q : Program} {loose : List Str} {XP : (Str → Option Value) → Heap → Prop} {d : DefRec} {x : Str} {fa : List He.Fa} {fn : List He.DefD} {ts : List He.Tab} {tf : List He.Defn} {c0 : PySem.W.Frag → Bool} {as : (Addr → Option Obj) → List Addr}
    (hn : l.most = some 63) (hdf : d.params.defaults = []) (hr : Room k callerA)
    (F : ∀ (w : World) (mg : Str → Option Value) (f : Addr) (h : Heap) (K : PySem.W.Frag), K.In h → He.SaysX fa fn ts tf c0 w h K → h.Ns mainGlobals mg → mg d.name = some (.ref f) → ∃ (fd : FuncData) (nm : List (Addr × Str)), nm.map (·.1) = (tf.map (He.cT K)).map (·.2) ∧ ((tf.map (He.cT K)).map (·.2)).Nodup ∧
      (∀ (s : Shared) (u : Value), BindsTo s fd ⟨[u], []⟩ [(x, u)]) ∧ ∀ base : Heap, K.In base → base.Ns mainGlobals mg → (∀ p ∈ tf.map (He.cT K), LamX.TabB base mg p.1 p.2) → FnG l.prog w K mg base CX0 k f fd [x] (spLawT K nm)) :
    PySem.W.WalkO q loose XP (hookY as fa fn ts tf c0).says l.row.toRowW d [] (fun f vs => PySem.call f vs) := by
  refine Att.attach_call hn hdf fun w s0 s1 mg mb fa o pm cd doc a vs ns G Y ho hd hcd hmg hobj hints hlen hg => ?_
  obtain ⟨K, KX, c⟩ := Y
  obtain ⟨fd, nm, e, nd, hb, hF⟩ := F w mg fa s1.heap K KX c G.T.g hmg
  have all : ∀ {R : Addr × Addr → Prop}, (∀ p ∈ tf, R (He.cT K p)) → ∀ p ∈ tf.map (He.cT K), R p := fun hR p hp => by
    obtain ⟨z, hz, ez⟩ := List.mem_map.mp hp
    exact ez ▸ hR z hz
  exact lawGT KX G.T.g G.T.b G.T.builtins G.T.nolimit hg (all (R := fun p => s1.heap.get? p.2 = some { cls := .none, data := .fields #[] }) c.empty) (all (R := fun p => K.lookup p.2 = none) c.out) (fun p hp => PySem.W.codeHd_of_K KX (all (R := fun p => PySem.W.codeHdIn K p.1 p.2 = true) c.hd p hp)) G.T.bmain hobj hints (Nat.le_trans hlen (by decide)) hr hF hb
    (fun H hO hS => law_asksT nm (e ▸ nd) hlen (e ▸ hO) hS) fun H e s' z => z
end HK

set_option Elab.async false
set_option linter.all false
set_option maxRecDepth 100000
set_option maxHeartbeats 4000000
namespace My
open PySem PySem.Spec PyProof.Rows L2 DD
theorem sc_is_between : FnScope ["value", "low", "high"] ["value", "low", "high"] (defScope s_is_between) := ⟨rfl, rfl, rfl, by decide +kernel, rfl, by decide +kernel, by decide +kernel⟩
theorem sc_check_amount : FnScope ["value", "high"] ["value", "high"] (defScope s_check_amount) := ⟨rfl, rfl, rfl, by decide +kernel, rfl, by decide +kernel, by decide +kernel⟩
theorem sc_is_sight : FnScope ["value"] ["value"] (defScope s_is_sight) := ⟨rfl, rfl, rfl, by decide +kernel, rfl, by decide +kernel, by decide +kernel⟩
theorem sc_check_sights : FnScope ["value", "index", "sight"] ["value"] (defScope s_check_sights) := ⟨rfl, rfl, rfl, by decide +kernel, rfl, by decide +kernel, by decide +kernel⟩
theorem sc_best_parts : FnScope ["sights", "size", "found", "amount", "best", "part", "told"] ["sights", "size"] (defScope s_best_parts) := ⟨rfl, rfl, rfl, by decide +kernel, rfl, by decide +kernel, by decide +kernel⟩
theorem sc_barring_of : FnScope ["sights", "found", "amount", "told"] ["sights"] (defScope s_barring_of) := ⟨rfl, rfl, rfl, by decide +kernel, rfl, by decide +kernel, by decide +kernel⟩
theorem sc_fits : FnScope ["sights"] ["sights"] (defScope s_fits) := ⟨rfl, rfl, rfl, by decide +kernel, rfl, by decide +kernel, by decide +kernel⟩
theorem sc_barring_parts : FnScope ["sights"] ["sights"] (defScope s_barring_parts) := ⟨rfl, rfl, rfl, by decide +kernel, rfl, by decide +kernel, by decide +kernel⟩
theorem sc_least_values : FnScope ["sights", "count", "best", "parts"] ["sights", "count"] (defScope s_least_values) := ⟨rfl, rfl, rfl, by decide +kernel, rfl, by decide +kernel, by decide +kernel⟩
theorem sc__law_jug : FnScope ["script", "k", "own", "mixed", "entry"] ["script", "k"] (defScope s__law_jug) := ⟨rfl, rfl, rfl, by decide +kernel, rfl, by decide +kernel, by decide +kernel⟩
theorem sc__law_pour : FnScope ["jug", "many", "digit"] ["jug", "many"] (defScope s__law_pour) := ⟨rfl, rfl, rfl, by decide +kernel, rfl, by decide +kernel, by decide +kernel⟩
theorem sc__law_one : FnScope ["jug", "things"] ["jug", "things"] (defScope s__law_one) := ⟨rfl, rfl, rfl, by decide +kernel, rfl, by decide +kernel, by decide +kernel⟩
theorem sc__law_sights : FnScope ["jug", "pool", "found", "k", "top", "x"] ["jug"] (defScope s__law_sights) := ⟨rfl, rfl, rfl, by decide +kernel, rfl, by decide +kernel, by decide +kernel⟩
theorem sc__law_least : FnScope ["sights_here", "size", "found", "x", "some", "amount", "told"] ["sights_here", "size"] (defScope s__law_least) := ⟨rfl, rfl, rfl, by decide +kernel, rfl, by decide +kernel, by decide +kernel⟩
theorem sc__law_right : FnScope ["jug", "again", "sights_here", "found", "value_of", "due", "amount", "told", "pair", "size", "whole", "parts_here", "part", "x", "y"] ["jug"] (defScope s__law_right) := ⟨rfl, rfl, rfl, by decide +kernel, rfl, by decide +kernel, by decide +kernel⟩
theorem sc_law : FnScope ["script", "k"] ["script"] (defScope s_law) := ⟨rfl, rfl, rfl, by decide +kernel, rfl, by decide +kernel, by decide +kernel⟩
/-- where the defs and classes stand -/
structure Ad where
  f_is_between : Addr
  d_is_between : FuncData
  f_check_amount : Addr
  d_check_amount : FuncData
  f_is_sight : Addr
  d_is_sight : FuncData
  f_check_sights : Addr
  d_check_sights : FuncData
  f_best_parts : Addr
  d_best_parts : FuncData
  f_barring_of : Addr
  d_barring_of : FuncData
  f_fits : Addr
  d_fits : FuncData
  f_barring_parts : Addr
  d_barring_parts : FuncData
  f_least_values : Addr
  d_least_values : FuncData
  f__law_jug : Addr
  d__law_jug : FuncData
  f__law_pour : Addr
  d__law_pour : FuncData
  f__law_one : Addr
  d__law_one : FuncData
  f__law_sights : Addr
  d__law_sights : FuncData
  f__law_least : Addr
  d__law_least : FuncData
  f__law_right : Addr
  d__law_right : FuncData
  f_law : Addr
  d_law : FuncData
/-- what the top has left -/
structure Tx (K : PySem.W.Frag) (mg : Str → Option Value) (A : Ad) : Prop where
  F_is_between : Fun K "is_between" "is_between" s_is_between A.f_is_between A.d_is_between
  g_is_between : mg "is_between" = some (.ref A.f_is_between)
  F_check_amount : Fun K "check_amount" "check_amount" s_check_amount A.f_check_amount A.d_check_amount
  g_check_amount : mg "check_amount" = some (.ref A.f_check_amount)
  F_is_sight : Fun K "is_sight" "is_sight" s_is_sight A.f_is_sight A.d_is_sight
  g_is_sight : mg "is_sight" = some (.ref A.f_is_sight)
  F_check_sights : Fun K "check_sights" "check_sights" s_check_sights A.f_check_sights A.d_check_sights
  g_check_sights : mg "check_sights" = some (.ref A.f_check_sights)
  F_best_parts : Fun K "best_parts" "best_parts" s_best_parts A.f_best_parts A.d_best_parts
  g_best_parts : mg "best_parts" = some (.ref A.f_best_parts)
  F_barring_of : Fun K "barring_of" "barring_of" s_barring_of A.f_barring_of A.d_barring_of
  g_barring_of : mg "barring_of" = some (.ref A.f_barring_of)
  F_fits : Fun K "fits" "fits" s_fits A.f_fits A.d_fits
  g_fits : mg "fits" = some (.ref A.f_fits)
  F_barring_parts : Fun K "barring_parts" "barring_parts" s_barring_parts A.f_barring_parts A.d_barring_parts
  g_barring_parts : mg "barring_parts" = some (.ref A.f_barring_parts)
  F_least_values : Fun K "least_values" "least_values" s_least_values A.f_least_values A.d_least_values
  g_least_values : mg "least_values" = some (.ref A.f_least_values)
  F__law_jug : Fun K "_law_jug" "_law_jug" s__law_jug A.f__law_jug A.d__law_jug
  g__law_jug : mg "_law_jug" = some (.ref A.f__law_jug)
  F__law_pour : Fun K "_law_pour" "_law_pour" s__law_pour A.f__law_pour A.d__law_pour
  g__law_pour : mg "_law_pour" = some (.ref A.f__law_pour)
  F__law_one : Fun K "_law_one" "_law_one" s__law_one A.f__law_one A.d__law_one
  g__law_one : mg "_law_one" = some (.ref A.f__law_one)
  F__law_sights : Fun K "_law_sights" "_law_sights" s__law_sights A.f__law_sights A.d__law_sights
  g__law_sights : mg "_law_sights" = some (.ref A.f__law_sights)
  F__law_least : Fun K "_law_least" "_law_least" s__law_least A.f__law_least A.d__law_least
  g__law_least : mg "_law_least" = some (.ref A.f__law_least)
  F__law_right : Fun K "_law_right" "_law_right" s__law_right A.f__law_right A.d__law_right
  g__law_right : mg "_law_right" = some (.ref A.f__law_right)
  F_law : Fun K "law" "law" s_law A.f_law A.d_law
  g_law : mg "law" = some (.ref A.f_law)
  c_MOST_GIFT : ∃ t : Tok, mg "MOST_GIFT" = some (.int 1000000 t)
  c_MOST_VALUES : ∃ t : Tok, mg "MOST_VALUES" = some (.int 24 t)
  c_MOST_SIGHTS : ∃ t : Tok, mg "MOST_SIGHTS" = some (.int 8 t)
  n_abs : mg "abs" = none
  n_all : mg "all" = none
  n_any : mg "any" = none
  n_bool : mg "bool" = none
  n_dict : mg "dict" = none
  n_divmod : mg "divmod" = none
  n_enumerate : mg "enumerate" = none
  n_int : mg "int" = none
  n_isinstance : mg "isinstance" = none
  n_len : mg "len" = none
  n_list : mg "list" = none
  n_max : mg "max" = none
  n_min : mg "min" = none
  n_range : mg "range" = none
  n_repr : mg "repr" = none
  n_sorted : mg "sorted" = none
  n_sum : mg "sum" = none
  n_tuple : mg "tuple" = none
structure Tb (base : Heap) (mg : Str → Option Value) (A : Ad) : Prop
abbrev tabsOf (A : Ad) : List (Addr × Str) := []
section
variable {P : Program} {w : World} {K : PySem.W.Frag} {mg : Str → Option Value} {base : Heap} {A : Ad}
theorem b_is_between (T : Tx K mg A) : Binds K A.d_is_between ["value", "low", "high"] [] := T.F_is_between.binds (ps := ["value", "low", "high"]) fun _ _ _ _ _ _ us hl => match us, hl with | [_, _, _], _ => rfl
theorem b_check_amount (T : Tx K mg A) : Binds K A.d_check_amount ["value", "high"] [] := T.F_check_amount.binds (ps := ["value", "high"]) fun _ _ _ _ _ _ us hl => match us, hl with | [_, _], _ => rfl
theorem b_is_sight (T : Tx K mg A) : Binds K A.d_is_sight ["value"] [] := T.F_is_sight.binds (ps := ["value"]) fun _ _ _ _ _ _ us hl => match us, hl with | [_], _ => rfl
theorem b_check_sights (T : Tx K mg A) : Binds K A.d_check_sights ["value"] [] := T.F_check_sights.binds (ps := ["value"]) fun _ _ _ _ _ _ us hl => match us, hl with | [_], _ => rfl
theorem b_best_parts (T : Tx K mg A) : Binds K A.d_best_parts ["sights", "size"] [] := T.F_best_parts.binds (ps := ["sights", "size"]) fun _ _ _ _ _ _ us hl => match us, hl with | [_, _], _ => rfl
theorem b_barring_of (T : Tx K mg A) : Binds K A.d_barring_of ["sights"] [] := T.F_barring_of.binds (ps := ["sights"]) fun _ _ _ _ _ _ us hl => match us, hl with | [_], _ => rfl
theorem b_fits (T : Tx K mg A) : Binds K A.d_fits ["sights"] [] := T.F_fits.binds (ps := ["sights"]) fun _ _ _ _ _ _ us hl => match us, hl with | [_], _ => rfl
theorem b_barring_parts (T : Tx K mg A) : Binds K A.d_barring_parts ["sights"] [] := T.F_barring_parts.binds (ps := ["sights"]) fun _ _ _ _ _ _ us hl => match us, hl with | [_], _ => rfl
theorem b_least_values (T : Tx K mg A) : Binds K A.d_least_values ["sights", "count"] [] := T.F_least_values.binds (ps := ["sights", "count"]) fun _ _ _ _ _ _ us hl => match us, hl with | [_, _], _ => rfl
theorem b__law_jug (T : Tx K mg A) : Binds K A.d__law_jug ["script", "k"] [] := T.F__law_jug.binds (ps := ["script", "k"]) fun _ _ _ _ _ _ us hl => match us, hl with | [_, _], _ => rfl
theorem b__law_pour (T : Tx K mg A) : Binds K A.d__law_pour ["jug", "many"] [] := T.F__law_pour.binds (ps := ["jug", "many"]) fun _ _ _ _ _ _ us hl => match us, hl with | [_, _], _ => rfl
theorem b__law_one (T : Tx K mg A) : Binds K A.d__law_one ["jug", "things"] [] := T.F__law_one.binds (ps := ["jug", "things"]) fun _ _ _ _ _ _ us hl => match us, hl with | [_, _], _ => rfl
theorem b__law_sights (T : Tx K mg A) : Binds K A.d__law_sights ["jug"] [] := T.F__law_sights.binds (ps := ["jug"]) fun _ _ _ _ _ _ us hl => match us, hl with | [_], _ => rfl
theorem b__law_least (T : Tx K mg A) : Binds K A.d__law_least ["sights_here", "size"] [] := T.F__law_least.binds (ps := ["sights_here", "size"]) fun _ _ _ _ _ _ us hl => match us, hl with | [_, _], _ => rfl
theorem b__law_right (T : Tx K mg A) : Binds K A.d__law_right ["jug"] [] := T.F__law_right.binds (ps := ["jug"]) fun _ _ _ _ _ _ us hl => match us, hl with | [_], _ => rfl
theorem b_law (T : Tx K mg A) : Binds K A.d_law ["script"] [] := T.F_law.binds (ps := ["script"]) fun _ _ _ _ _ _ us hl => match us, hl with | [_], _ => rfl
end
section
variable {P : Program} {w : World} {K : PySem.W.Frag} {mg : Str → Option Value} {base : Heap} {A : Ad}
/-! ### short ways for readings -/
local macro_rules | `(tactic| walk_at "lk") => `(tactic| first | rfl | assumption)
local macro_rules | `(tactic| walk_at "ln") => `(tactic| first | (simp; done) | (simp only [List.length_cons, List.length_nil, List.length_append, List.length_map, List.length_range, List.length_replicate]; omega) | assumption)
local macro_rules | `(tactic| walk_at "rv") => `(tactic| first
  | exact rv_add | exact rv_I0 | exact rv_B0 | exact rv_eqI | exact rv_neI | exact rv_isN | exact rv_notN
  | exact rv_ixT (by walk_at "lk") | exact rv_ixL (by walk_at "lk") | exact rv_ixC (by assumption) (by walk_at "lk") | exact rv_ixR (by walk_at "lk")
  | exact rv_mul (.inr (by decide)) | exact rv_mul (.inl (by decide)) | exact rv_mul (.inr (by omega)) | exact rv_mul (.inl (by omega))
  | exact rv_I (by show CPow _ _; exact ⟨by decide, by decide, by decide⟩) | exact rv_I (by show CDiv _ _; exact ⟨by omega, by omega⟩) | exact rv_I (by omega) | exact rv_I (by decide))
local macro_rules | `(tactic| walk_at "rc") => `(tactic| first
  | exact rc_lenT | exact rc_lenL | exact rc_lenR | exact rc_lenC (by assumption) | exact rc_int | exact rc_abs | exact rc_max2 | exact rc_min2 | exact rc_tupL | exact rc_tupC (by assumption)
  | exact rc_isiInt (by walk_at "lk") | exact rc_isiBool (by walk_at "lk") | exact rc_isiTup (by walk_at "lk") | exact rc_isiStr (by walk_at "lk") | exact rc_isiLst (by walk_at "lk")
  | exact rc_divmod (by omega) | exact rc_sumL | exact rc_allL | exact rc_anyL)
local macro_rules | `(tactic| walk_at "sp") => `(tactic| fail)
local macro_rules | `(tactic| walk_at "ev") => `(tactic| first
  | exact ev_var rfl | exact ev_cI | exact ev_cN | exact ev_cB | exact ev_cS | exact ev_cT | exact ev_cR
  | (refine' ev_op ?aa ?bb ?cc; (case aa => walk_at "ev"); (case bb => walk_at "ev"); (case cc => walk_at "rv"))
  | (refine' ev_un ?aa ?cc; (case aa => walk_at "ev"); (case cc => exact ru_neg))
  | (refine' ev_cb ?aa ?cc; (case aa => walk_at "ea"); (case cc => walk_at "rc"))
  | (refine' ev_tup ?aa ?bb; (case aa => walk_at "ea"); (case bb => walk_at "ln"))
  | (refine' ev_lst ?aa ?bb; (case aa => walk_at "ea"); (case bb => walk_at "ln"))
  | (refine' ev_call ?aa ?cc; (case aa => walk_at "ea"); (case cc => walk_at "sp"))
  | (refine' ev_callK ?aa ?bb ?cc; (case aa => walk_at "ea"); (case bb => walk_at "ea"); (case cc => walk_at "sp"))
  | (refine' ev_fld ?aa ?bb ?cc ?dd; (case aa => walk_at "ev"); (case bb => walk_at "cl"); (case cc => walk_at "na"); (case dd => walk_at "fl"))
  | (refine' ev_meth ?aa ?dd ?bb ?cc; (case aa => walk_at "ev"); (case dd => walk_at "fl"); (case bb => walk_at "ea"); (case cc => walk_at "sp"))
  | (refine' ev_slT ?aa ?bb ?cc; (case aa => walk_at "ev"); (case bb => walk_at "eo"); (case cc => walk_at "eo"))
  | (refine' ev_slL ?aa ?bb ?cc; (case aa => walk_at "ev"); (case bb => walk_at "eo"); (case cc => walk_at "eo"))
  | (refine' ev_slR ?aa ?bb ?cc; (case aa => walk_at "ev"); (case bb => walk_at "eo"); (case cc => walk_at "eo"))
  | (refine' ev_notV ?aa; (case aa => walk_at "ev")))
local macro_rules | `(tactic| walk_at "eo") => `(tactic| first | exact eo_none | (refine' eo_some ?aa; (case aa => walk_at "ev")))
local macro_rules | `(tactic| walk_at "ea") => `(tactic| first | exact ea_nil | (refine' ea_cons ?aa ?bb; (case aa => walk_at "ev"); (case bb => walk_at "ea")))
local macro_rules | `(tactic| walk_at "et") => `(tactic| first
  | (refine' et_test ?aa; (case aa => walk_at "ev"))
  | (refine' et_B ?aa; (case aa => walk_at "ev"))
  | (refine' et_not ?aa; (case aa => walk_at "et")))

/-! ### walks by word: «st» a step, «go» steps as far as they go -/
local macro_rules | `(tactic| walk_at "ar") => `(tactic| first
  | assumption | omega | (simp only [List.length_map, List.length_append, List.length_cons, List.length_nil, List.length_range, List.length_replicate, List.length_set]; omega))
local macro_rules | `(tactic| walk_at "mu") => `(tactic| first
  | exact .inr ⟨by decide, by decide⟩ | exact .inl ⟨by decide, by decide⟩ | exact .inr (by omega) | exact .inl (by omega))
local macro_rules | `(tactic| walk_at "mem") => `(tactic| first | assumption | exact List.mem_cons_self | exact List.mem_cons_of_mem _ (by first | assumption | exact List.mem_cons_self | exact List.mem_cons_of_mem _ (by first | assumption | exact List.mem_cons_self)))
local macro_rules | `(tactic| walk_at "cpow") => `(tactic| (show CPow _ _; exact ⟨by decide, by decide, by decide⟩))
local macro_rules | `(tactic| walk_at "cdiv") => `(tactic| (show CDiv _ _; exact ⟨by omega, by omega⟩))
local macro_rules | `(tactic| walk_at "cmod") => `(tactic| (show (0 : Int) < _; omega))
local macro_rules | `(tactic| walk_at "spc") => `(tactic| fail)
local macro_rules | `(tactic| walk_at "ix") => `(tactic| first | rfl | assumption | ((with_reducible show atI (List.map DV.int _) _ = _); exact atI_ints (by omega) (by omega)) | ((with_reducible show atI (List.map DV.int (List.map _ (List.range _))) _ = _); exact atI_rowI (by omega) (by omega)) | ((with_reducible show atI (List.map DV.int (List.map _ (List.range (_ + 1)))) (-1) = _); exact atI_lastI))
local macro_rules | `(tactic| walk_at "fit2") => `(tactic| assumption)
local macro_rules | `(tactic| walk_at "fit1") => `(tactic| first
  | ((with_reducible show Fs _ _ _); (first | exact Fs.non | exact Fs.bl | ((with_reducible refine' Fs.int ?_); omega) | (with_reducible refine' Fs.tup ?_) | (with_reducible refine' Fs.lst ?_) | exact Fs.str (by decide +kernel) (by decide +kernel) | walk_at "fit2"))
  | ((with_reducible show FsA _ _ _); (first | exact FsA.nil | (with_reducible refine' FsA.cons ?_ ?_) | walk_at "fit2")))
local macro_rules | `(tactic| walk_at "fit") => `(tactic| repeat' (walk_at "fit1"))
local macro_rules | `(tactic| walk_at "fitA") => `(tactic| first | assumption | exact Fs.fit (by walk_at "fit") (by exact Nat.le_of_ble_eq_true rfl) (by exact Nat.le_of_ble_eq_true rfl))
local macro_rules | `(tactic| walk_at "st_rv") => `(tactic| first
  | (with_reducible refine' RV.go rv_add ?_) | (with_reducible refine' RV.go rv_I0 ?_) | (with_reducible refine' RV.go rv_B0 ?_)
  | (with_reducible refine' RV.go rv_eqI ?_) | (with_reducible refine' RV.go rv_neI ?_) | (with_reducible refine' RV.go rv_eqB ?_) | (with_reducible refine' RV.go rv_neB ?_)
  | (with_reducible refine' RV.go rv_eqS ?_) | (with_reducible refine' RV.go rv_neS ?_)
  | (with_reducible refine' RV.go rv_isN ?_) | (with_reducible refine' RV.go rv_notN ?_) | (with_reducible refine' RV.go rv_notB ?_)
  | ((with_reducible refine' RV.go (rv_neNilL ?ff) ?_); (case' ff => try walk_at "fitA"))
  | ((with_reducible refine' RV.go (rv_eqNilL ?ff) ?_); (case' ff => try walk_at "fitA"))
  | ((with_reducible refine' RV.go (rv_neNilT ?ff) ?_); (case' ff => try walk_at "fitA"))
  | ((with_reducible refine' RV.go (rv_eqNilT ?ff) ?_); (case' ff => try walk_at "fitA"))
  | ((with_reducible refine' RV.go (rv_neSelf ?ff) ?_); (case' ff => try walk_at "fitA"))
  | ((with_reducible refine' RV.go (rv_eqSelf ?ff) ?_); (case' ff => try walk_at "fitA"))
  | (with_reducible refine' RV.go rv_x2 ?_)
  | ((with_reducible refine' RV.go (rv_xn ?aa ?bb) ?_); (case' aa => try omega); (case' bb => try omega))
  | (with_reducible refine' RV.go rv_inLI ?_) | (with_reducible refine' RV.go rv_ninLI ?_) | (with_reducible refine' RV.go rv_inTI ?_) | (with_reducible refine' RV.go rv_ninTI ?_)
  | ((with_reducible refine' RV.go (rv_mul ?aa) ?_); (case' aa => try walk_at "mu"))
  | ((with_reducible refine' RV.go (rv_addT ?aa) ?_); (case' aa => try walk_at "ar"))
  | ((with_reducible refine' RV.go (rv_addL ?aa) ?_); (case' aa => try walk_at "ar"))
  | ((with_reducible refine' RV.go (rv_addC ?bb ?aa) ?_); (case' aa => try walk_at "ar"); (case' bb => try walk_at "mem"))
  | ((with_reducible refine' RV.go (rv_mulL ?bb ?aa) ?_); (case' aa => try walk_at "ar"); (case' bb => try exact ⟨by decide, by decide⟩))
  | ((with_reducible refine' RV.go (rv_ixT ?aa) ?_); (case' aa => try walk_at "ix"))
  | ((with_reducible refine' RV.go (rv_ixL ?aa) ?_); (case' aa => try walk_at "ix"))
  | ((with_reducible refine' RV.go (rv_ixR ?aa) ?_); (case' aa => try walk_at "ix"))
  | ((with_reducible refine' RV.go (rv_ixC ?bb ?aa) ?_); (case' bb => try walk_at "mem"); (case' aa => try walk_at "ix"))
  | (with_reducible refine' RV.go rv_p6 ?_) | (with_reducible refine' RV.go rv_p12 ?_) | (with_reducible refine' RV.go rv_p14 ?_) | (with_reducible refine' RV.go rv_p18 ?_) | (with_reducible refine' RV.go rv_p19 ?_) | (with_reducible refine' RV.go rv_p20 ?_)
  | ((with_reducible refine' RV.go (rv_I ?aa) ?_); (case' aa => first | walk_at "cpow" | walk_at "cdiv" | walk_at "cmod" | skip)))
local macro_rules | `(tactic| walk_at "st_rc") => `(tactic| first
  | (with_reducible refine' RC.go w_lenTm ?_) | (with_reducible refine' RC.go w_lenLm ?_)
  | (with_reducible refine' RC.go rc_lenT ?_) | (with_reducible refine' RC.go rc_lenL ?_) | (with_reducible refine' RC.go rc_lenR ?_)
  | ((with_reducible refine' RC.go (rc_lenC ?aa) ?_); (case' aa => try walk_at "mem"))
  | (with_reducible refine' RC.go rc_listT ?_) | (with_reducible refine' RC.go rc_listL ?_)
  | (with_reducible refine' RC.go rc_int ?_) | (with_reducible refine' RC.go rc_abs ?_) | (with_reducible refine' RC.go rc_max2 ?_) | (with_reducible refine' RC.go rc_min2 ?_)
  | ((with_reducible refine' RC.go (rc_show ?ff) ?_); (case' ff => try walk_at "fitA"))
  | ((with_reducible refine' RC.go (rc_showU ?ff) ?_); (case' ff => try walk_at "fitA"))
  | (with_reducible refine' RC.go rc_tupL ?_) | ((with_reducible refine' RC.go (rc_tupC ?aa) ?_); (case' aa => try walk_at "mem"))
  | ((with_reducible refine' RC.go (rc_isiInt ?aa) ?_); (case' aa => first | rfl | assumption | skip)) | ((with_reducible refine' RC.go (rc_isiBool ?aa) ?_); (case' aa => first | rfl | assumption | skip))
  | ((with_reducible refine' RC.go (rc_isiTup ?aa) ?_); (case' aa => first | rfl | assumption | skip)) | ((with_reducible refine' RC.go (rc_isiStr ?aa) ?_); (case' aa => first | rfl | assumption | skip))
  | ((with_reducible refine' RC.go (rc_isiLst ?aa) ?_); (case' aa => first | rfl | assumption | skip))
  | ((with_reducible refine' RC.go (rc_divmod ?aa) ?_); (case' aa => try exact ⟨by omega, by omega⟩))
  | (with_reducible refine' RC.go rc_allM ?_) | (with_reducible refine' RC.go rc_anyM ?_) | (with_reducible refine' RC.go rc_sumL ?_) | (with_reducible refine' RC.go rc_allL ?_) | (with_reducible refine' RC.go rc_anyL ?_))
local macro_rules | `(tactic| walk_at "st_evr") => `(tactic| first
  | ((with_reducible refine' w_var ?aa ?_); (case aa => exact rfl))
  | (with_reducible refine' w_cI ?_) | (with_reducible refine' w_cN ?_) | (with_reducible refine' w_cB ?_) | (with_reducible refine' w_cS ?_) | (with_reducible refine' w_cT ?_) | (with_reducible refine' w_cR ?_)
  | (with_reducible refine' w_sortedSet ?_)
  | (with_reducible refine' evr_op ?_) | (with_reducible refine' evr_un ?_) | (with_reducible refine' evr_cb ?_) | (with_reducible refine' evr_tup ?_) | (with_reducible refine' evr_lst ?_)
  | (with_reducible refine' evr_if ?_) | (with_reducible refine' evr_andV ?_) | (with_reducible refine' evr_orV ?_) | (with_reducible refine' evr_notV ?_) | (with_reducible refine' evr_chain ?_)
  | (with_reducible refine' w_fld ?_) | ((with_reducible show EvR _ (tMeth _ _ _ _ _ _ _) _ _ _); refine' w_meth ?_) | (with_reducible refine' w_append ?_) | ((with_reducible show EvR _ (tCall _ _ _ _) _ _ _); refine' evr_call ?_) | ((with_reducible show EvR _ (tCallK _ _ _ _ _) _ _ _); refine' evr_callK ?_)
  | ((with_reducible refine' Ev.go (ev_slT ?aa ?bb ?cc) ?_); (case aa => walk_at "ev"); (case bb => walk_at "eo"); (case cc => walk_at "eo"))
  | ((with_reducible refine' Ev.go (ev_slL ?aa ?bb ?cc) ?_); (case aa => walk_at "ev"); (case bb => walk_at "eo"); (case cc => walk_at "eo"))
  | ((with_reducible refine' Ev.go (ev_slC ?dd ?aa ?bb ?cc) ?_); (case aa => walk_at "ev"); (case dd => walk_at "mem"); (case bb => walk_at "eo"); (case cc => walk_at "eo"))
  | ((with_reducible refine' Ev.go (ev_slR ?aa ?bb ?cc) ?_); (case aa => walk_at "ev"); (case bb => walk_at "eo"); (case cc => walk_at "eo")))
local macro_rules | `(tactic| walk_at "st_xs") => `(tactic| first
  | (with_reducible refine' xs_seq ?_) | (with_reducible refine' xs_asg ?_) | (with_reducible refine' xs_ret ?_) | (with_reducible refine' xs_retN ?_) | (with_reducible refine' xs_if ?_)
  | (with_reducible refine' xs_drop ?_) | (with_reducible refine' xs_next ?_) | (with_reducible refine' w_par ?_) | (with_reducible refine' w_par3 ?_)
  | ((with_reducible refine' w_aug ?aa ?_); (case aa => exact rfl)) | (with_reducible refine' w_putF ?_) | (with_reducible refine' xs_brk ?_) | (with_reducible refine' xs_cont ?_))
local macro_rules | `(tactic| walk_at "st_et") => `(tactic| first
  | (with_reducible refine' etr_test ?_) | (with_reducible refine' etr_B ?_) | (with_reducible refine' etr_and ?_) | (with_reducible refine' etr_or ?_) | (with_reducible refine' etr_not ?_) | (with_reducible refine' etr_yes ?_))
local macro_rules | `(tactic| walk_at "st_if") => `(tactic| first
  | (with_reducible refine' w_same ?_) | (with_reducible refine' w_sameT ?_) | (with_reducible refine' w_not ?_)
  | ((with_reducible refine' w_T ?aa ?_); (case aa => with_reducible rfl)) | ((with_reducible refine' w_F ?aa ?_); (case aa => with_reducible rfl))
  | ((with_reducible refine' w_decT ?aa ?_); (case aa => omega)) | ((with_reducible refine' w_decF ?aa ?_); (case aa => omega))
  | ((with_reducible refine' w_T ?aa ?_); (case aa => exact rfl)) | ((with_reducible refine' w_F ?aa ?_); (case aa => exact rfl))
  | (with_reducible refine' w_dec (fun hh => ?_) (fun hh => ?_))
  | (with_reducible refine' w_bool (fun hh => ?_) (fun hh => ?_)))
local macro_rules | `(tactic| walk_at "st") => `(tactic| first
  | ((with_reducible show EvR _ _ _ _ _); walk_at "st_evr")
  | ((with_reducible show EvAR _ _ _ _ _); (first | (with_reducible refine' ear_nil ?_) | (with_reducible refine' ear_cons ?_)))
  | ((with_reducible show RVR _ _ _ _ _ _); walk_at "st_rv")
  | ((with_reducible show RCR _ _ _ _ _); walk_at "st_rc")
  | ((with_reducible show RUR _ _ _ _ _); with_reducible refine' w_neg ?_)
  | ((with_reducible show XS _ _ _ _ _); walk_at "st_xs")
  | ((with_reducible show EvTR _ _ _ _ _); walk_at "st_et")
  | ((with_reducible show BdG _ _ _ _ _ _); (first | (with_reducible refine' bd_name ?_) | ((with_reducible refine' bd_tup ?_ ?aa); (case aa => exact rfl))))
  | ((with_reducible show BdGs _ _ _ _ _ _); (first | (with_reducible refine' bds_nil ?_) | (with_reducible refine' bds_cons ?_)))
  | ((with_reducible show FldR _ _ _ _ _); (first | ((with_reducible refine' FldR.ins ?aa ?bb ?cc ?_); (case aa => walk_at "cl"); (case bb => walk_at "na"); (case cc => walk_at "fl")) | ((with_reducible refine' FldR.own ?dd ?aa ?bb ?cc ?_); (case dd => walk_at "mem"); (case aa => walk_at "cl"); (case bb => walk_at "na"); (case cc => exact rfl))))
  | ((with_reducible show PutR _ _ _ _ _ _); (first | ((with_reducible refine' PutR.at 0 ?aa ?bb ?cc ?dd ?_); (case aa => exact rfl); (case bb => walk_at "cl"); (case cc => walk_at "na"); (case dd => exact Nat.le_of_ble_eq_true rfl)) | ((with_reducible refine' PutR.at 1 ?aa ?bb ?cc ?dd ?_); (case aa => exact rfl); (case bb => walk_at "cl"); (case cc => walk_at "na"); (case dd => exact Nat.le_of_ble_eq_true rfl))))
  | ((with_reducible show MethR _ _ _ _ _ _ _ _ _); (first | ((with_reducible refine' MethR.ins ?aa ?_); (case aa => exact rfl)) | ((with_reducible refine' MethR.own ?bb ?aa ?_); (case bb => walk_at "mem"); (case aa => exact rfl))))
  | ((with_reducible show AppR _ _ _ _ _ _); (first | ((with_reducible refine' AppR.at 0 ?aa ?bb ?_); (case aa => exact rfl); (case' bb => try walk_at "ar")) | ((with_reducible refine' AppR.at 1 ?aa ?bb ?_); (case aa => exact rfl); (case' bb => try walk_at "ar")) | ((with_reducible refine' AppR.at 2 ?aa ?bb ?_); (case aa => exact rfl); (case' bb => try walk_at "ar")) | ((with_reducible refine' AppR.at 3 ?aa ?bb ?_); (case aa => exact rfl); (case' bb => try walk_at "ar"))))
  | ((with_reducible refine' AppR.fin ?aa ?_); (case aa => exact rfl))
  | (with_reducible refine' w_bl ?_) | (with_reducible refine' w_int ?_) | (with_reducible refine' w_2 ?_) | (with_reducible refine' w_3 ?_)
  | ((with_reducible refine' w_le ?aa ?_); (case aa => exact rfl))
  | ((with_reducible show ite _ _ _); walk_at "st_if")
  | (walk_at "spc"))
local macro_rules | `(tactic| walk_at "go") => `(tactic| repeat' (walk_at "st"))

/-! ### numbers -/
def betw : DV → Int → Int → Bool
  | .int i, lo, hi => decide (lo ≤ i) && decide (i ≤ hi)
  | _, _, _ => false
def S_is_between : SpecD := fun ds M R => ∃ (v : DV) (lo hi : Int), ds = [v, .int lo, .int hi] ∧ (tyN v).isSome = true ∧ R (.bl (betw v lo hi)) M
theorem ok_is_between (T : Tx K mg A) : FnOk P w K mg base CX0 1 A.f_is_between A.d_is_between ["value", "low", "high"] (spD K S_is_between) := by
  refine fnD T.F_is_between sc_is_between (fun ds M R h => by obtain ⟨v, lo, hi, rfl, _⟩ := h; rfl) fun cdv B up z H E hr ds M R h => ?_
  obtain ⟨v, lo, hi, rfl, hv, hR⟩ := h
  refine ⟨_, (pss_one (ps_ret (pe_and (pe_callB (wIsi K rfl) (by rfl) T.n_isinstance (by decide +kernel) (pa_cons (pv 0) (pa_cons (pe_bltn (v := .ty "int") (by rfl) T.n_int (by decide +kernel) rfl) pa_nil))) (pe_and (pe_not (pe_callB (wIsi K rfl) (by rfl) T.n_isinstance (by decide +kernel) (pa_cons (pv 0) (pa_cons (pe_bltn (v := .ty "bool") (by rfl) T.n_bool (by decide +kernel) rfl) pa_nil)))) (pe_one (pe_chain op_le op_le (pv 1) (pv 0) (pv 2))))))), ?_⟩
  have h1 : Ev K (tCB (rIsi K) (tCons (tVar 0) (tCons (tC (.ty "int")) tNil))) (rho0 ["value", "low", "high"] [v, .int lo, .int hi]) M (.bl (isIntD v)) := by walk_at "ev"
  have h2 : Ev K (tNotV (tCB (rIsi K) (tCons (tVar 0) (tCons (tC (.ty "bool")) tNil)))) (rho0 ["value", "low", "high"] [v, .int lo, .int hi]) M (.bl (!isBoolD v)) := by walk_at "ev"
  cases v with
  | int i => exact xs_retE (ev_andTr h1 (ev_andTr h2 (ev_chain (ev_var rfl) (ev_var rfl) rv_B0 (fun _ => ev_var rfl) (fun _ => rv_B0)))) hR
  | bl b => exact xs_retE (ev_andTr h1 (ev_andF h2)) hR
  | _ => first | exact xs_retE (ev_andF h1) hR | cases hv
theorem sp_is_between {v : DV} {lo hi : Int} {M : Ms} (h : (tyN v).isSome = true) : S_is_between [v, .int lo, .int hi] M fun d' M' => d' = .bl (betw v lo hi) ∧ M' = M := ⟨v, lo, hi, rfl, h, rfl, rfl⟩
local macro_rules | `(tactic| walk_at "sp") => `(tactic| exact sp_is_between (by walk_at "lk"))
/-- where the first number stands that is none from 0 to hi -/
def optD : Option Nat → DV
  | none => .non
  | some i => .int i
def wrongIx (xs : List DV) (hi : Int) : Option Nat := xs.findIdx? fun d => !betw d 0 hi
theorem nth_mem {xs : List DV} {i : Nat} (h : i < xs.length) : nth xs i ∈ xs := List.mem_of_getElem? (nth_get h)
theorem findIdx_some {xs : List DV} {p : DV → Bool} {i : Nat} (hi : i < xs.length) (h0 : ∀ j, j < i → p (nth xs j) = false) (h1 : p (nth xs i) = true) : xs.findIdx? p = some i := by
  rw [List.findIdx?_eq_some_iff_getElem]
  refine ⟨hi, ?_, fun j hj => ?_⟩
  · have := nth_get hi
    rw [List.getElem?_eq_getElem hi] at this
    rw [Option.some.inj this]; exact h1
  · have hl : j < xs.length := by omega
    have := nth_get hl
    rw [List.getElem?_eq_getElem hl] at this
    rw [Option.some.inj this, h0 j hj]; decide
theorem findIdx_none {xs : List DV} {p : DV → Bool} (h0 : ∀ j, j < xs.length → p (nth xs j) = false) : xs.findIdx? p = none := by
  rw [List.findIdx?_eq_none_iff]
  intro x hx
  obtain ⟨j, hj, e⟩ := List.mem_iff_getElem.mp hx
  have := nth_get hj
  rw [List.getElem?_eq_getElem hj, e] at this
  rw [Option.some.inj this]; exact h0 j hj
def S_wrong_number : SpecD := fun ds M R => ∃ (xs : List DV) (hi : Int), ds = [.tup xs, .int hi] ∧ (∀ x ∈ xs, (tyN x).isSome = true) ∧ R (optD (wrongIx xs hi)) M
theorem sp_wrong_number {xs : List DV} {hi : Int} {M : Ms} (h : ∀ x ∈ xs, (tyN x).isSome = true) : S_wrong_number [.tup xs, .int hi] M fun d' M' => d' = optD (wrongIx xs hi) ∧ M' = M := ⟨xs, hi, rfl, h, rfl, rfl⟩
theorem ints_ty {ns : List Int} : ∀ x ∈ ns.map DV.int, (tyN x).isSome = true := fun x hx => by
  obtain ⟨n, _, rfl⟩ := List.mem_map.mp hx; rfl
theorem wrongIx_ints {ns : List Int} {hi : Int} (h : ∀ n ∈ ns, 0 ≤ n ∧ n ≤ hi) : wrongIx (ns.map DV.int) hi = none := by
  unfold wrongIx
  rw [List.findIdx?_eq_none_iff]
  intro x hx
  obtain ⟨n, hn, rfl⟩ := List.mem_map.mp hx
  have := h n hn
  simp [betw, this.1, this.2]
/-- an amount that is let -/
def S_check_amount : SpecD := fun ds M R => ∃ (i hi : Int), ds = [.int i, .int hi] ∧ 0 ≤ i ∧ i ≤ hi ∧ R .non M
theorem ok_check_amount (T : Tx K mg A) : FnOk P w K mg base CX0 2 A.f_check_amount A.d_check_amount ["value", "high"] (spD K S_check_amount) := by
  refine fnD T.F_check_amount sc_check_amount (fun ds M R h => by obtain ⟨i, hi, rfl, _⟩ := h; rfl) fun cdv B up z H E hr ds M R h => ?_
  obtain ⟨i, hi, rfl, h0, h1, hR⟩ := h
  refine ⟨_, (pss_one (ps_if (pt_not (pt_val (pe_call (ok_is_between T) (hr.mono (by decide)) (by rfl) T.g_is_between T.F_is_between.kp (b_is_between T) .nil pass0 (pa_cons (pv 0) (pa_cons pe_int (pa_cons (pv 1) pa_nil)))))) (pss_one ps_never) pss_nil)), ?_⟩
  refine xs_if2 (et_not (et_B (ev_call (by walk_at "ea") (sp_is_between rfl)))) (fun hb => ?_) (fun _ => xs_next hR)
  simp [betw, h0, h1] at hb
theorem sp_check_amount {i hi : Int} {M : Ms} (h0 : 0 ≤ i) (h1 : i ≤ hi) : S_check_amount [.int i, .int hi] M fun d' M' => d' = .non ∧ M' = M := ⟨i, hi, rfl, h0, h1, rfl, rfl⟩

theorem w_betwT {M : Ms} {R : DV → Ms → Prop} {i lo hi : Int} (h : lo ≤ i ∧ i ≤ hi) (k : R (.bl true) M) : S_is_between [.int i, .int lo, .int hi] M R := ⟨.int i, lo, hi, rfl, rfl, by show R (.bl (decide (lo ≤ i) && decide (i ≤ hi))) M; rw [decide_eq_true h.1, decide_eq_true h.2]; exact k⟩
theorem w_betwF {M : Ms} {R : DV → Ms → Prop} {i lo hi : Int} (h : ¬ (lo ≤ i ∧ i ≤ hi)) (k : R (.bl false) M) : S_is_between [.int i, .int lo, .int hi] M R := ⟨.int i, lo, hi, rfl, rfl, by
  show R (.bl (decide (lo ≤ i) && decide (i ≤ hi))) M
  rw [show (decide (lo ≤ i) && decide (i ≤ hi)) = false by
    rw [← Bool.decide_and]; exact decide_eq_false h]
  exact k⟩
theorem w_betw {M : Ms} {R : DV → Ms → Prop} {v : DV} {lo hi : Int} (h : (tyN v).isSome = true) (k : R (.bl (betw v lo hi)) M) : S_is_between [v, .int lo, .int hi] M R := ⟨v, lo, hi, rfl, h, k⟩
theorem w_amount {M : Ms} {R : DV → Ms → Prop} {i hi : Int} (h : 0 ≤ i ∧ i ≤ hi) (k : R .non M) : S_check_amount [.int i, .int hi] M R := ⟨i, hi, rfl, h.1, h.2, k⟩
local macro_rules | `(tactic| walk_at "spc") => `(tactic| first
  | ((with_reducible refine' w_betwT ?aa ?_); (case aa => omega)) | ((with_reducible refine' w_betwF ?aa ?_); (case aa => omega)) | ((with_reducible refine' w_betw ?aa ?_); (case aa => first | rfl | assumption))
  | ((with_reducible refine' w_amount ?aa ?_); (case' aa => try omega)))

/-! ### ints by their place -/
theorem getD_get {vs : List Int} {n : Nat} (h : n < vs.length) : vs[n]? = some (vs.getD n 0) := by
  rw [List.getD_eq_getElem?_getD, List.getElem?_eq_getElem h]; rfl
theorem atI_ints {vs : List Int} {x : Int} (h0 : 0 ≤ x) (h1 : x < vs.length) : atI (vs.map DV.int) x = some (.int (vs.getD x.toNat 0)) := by
  have e : atI (vs.map DV.int) ((x.toNat : Nat) : Int) = some (.int (vs.getD x.toNat 0)) := atI_nat (by rw [List.getElem?_map, getD_get (show x.toNat < vs.length by omega)]; rfl)
  rw [show ((x.toNat : Nat) : Int) = x by omega] at e
  exact e
local macro_rules | `(tactic| walk_at "ix") => `(tactic| ((with_reducible show atI (List.map DV.int _) _ = _); exact atI_ints (by omega) (by omega)))

/-! all of a list -/
theorem all_cons {α : Type} {P : α → Prop} {x : α} {xs : List α} (h : P x) (t : ∀ d ∈ xs, P d) : ∀ d ∈ x :: xs, P d := fun d hd => by
  rcases List.mem_cons.mp hd with rfl | hd
  · exact h
  · exact t d hd
theorem all_nil {α : Type} {P : α → Prop} : ∀ d ∈ ([] : List α), P d := fun _ h => nomatch h
theorem all_app {α : Type} {P : α → Prop} {xs ys : List α} (h : ∀ d ∈ xs, P d) (t : ∀ d ∈ ys, P d) : ∀ d ∈ xs ++ ys, P d := fun d hd => by
  rcases List.mem_append.mp hd with hd | hd
  · exact h d hd
  · exact t d hd
theorem all_rep {α : Type} {P : α → Prop} {x : α} {n : Nat} (h : P x) : ∀ d ∈ (List.replicate n [x]).flatten, P d := fun d hd => by
  obtain ⟨l, hl, hd⟩ := List.mem_flatten.mp hd
  rw [List.eq_of_mem_replicate hl] at hd
  rw [List.mem_singleton.mp hd]; exact h
theorem all_rp {α : Type} {P : α → Prop} {x : α} {n : Nat} (h : P x) : ∀ d ∈ List.replicate n x, P d := fun d hd => by rw [List.eq_of_mem_replicate hd]; exact h
theorem findIdx_rep {p : DV → Bool} {g w : DV} (hg : p g = false) (hw : p w = true) : ∀ {a b : Nat}, 0 < b → (List.replicate a g ++ List.replicate b w).findIdx? p = some a
  | 0, b + 1, _ => by rw [List.replicate_zero, List.nil_append, List.replicate_succ, List.findIdx?_cons, hw]; rfl
  | a + 1, b, hb => by
    rw [List.replicate_succ, List.cons_append, List.findIdx?_cons, hg, findIdx_rep hg hw hb]; rfl
theorem findIdx_rep2 {p : DV → Bool} {g w : DV} {r : List DV} (hg : p g = false) (hw : p w = true) : ∀ {a : Nat}, (List.replicate a g ++ w :: r).findIdx? p = some a
  | 0 => by rw [List.replicate_zero, List.nil_append, List.findIdx?_cons, hw]; rfl
  | a + 1 => by
    rw [List.replicate_succ, List.cons_append, List.findIdx?_cons, hg, findIdx_rep2 hg hw]; rfl

/-! ### the law's jug -/
def JugOk (ds : List DV) : Prop := ∃ a b c : Int, ds = [.int a, .int b, .int c] ∧ 0 ≤ b ∧ 0 ≤ c
abbrev jugO : MO := .lstP JugOk
theorem mem_ix {α : Type} {l : List α} {x : α} (h : x ∈ l) : ∃ i : Nat, l[i]? = some x := List.mem_iff_getElem?.mp h
theorem set_get {i : Nat} {M : Ms} {c x : Addr × MO} (h : M[i]? = some c) : (M.set i x)[i]? = some x := List.getElem?_set_self (List.getElem?_eq_some_iff.mp h).1
theorem set_back {i : Nat} {M : Ms} {c x : Addr × MO} (h : M[i]? = some c) : (M.set i x).set i c = M := by
  rw [List.set_set]
  refine List.ext_getElem? fun j => ?_
  rw [List.getElem?_set]
  split
  · rename_i e; subst e; rw [if_pos (List.getElem?_eq_some_iff.mp h).1, h]
  · rfl
/-- many, from 1 on: a number below many -/
def S_pour : SpecD := fun ds M R => ∃ (j : Addr) (n : Int), ds = [.raw (.ref j), .int n] ∧ (j, jugO) ∈ M ∧ 0 < n ∧ n < 1073741824 ∧ ∀ r : Int, 0 ≤ r → r < n → R (.int r) M
theorem ok__law_pour (T : Tx K mg A) : FnOk P w K mg base CX0 1 A.f__law_pour A.d__law_pour ["jug", "many"] (spD K S_pour) := by
  refine fnD T.F__law_pour sc__law_pour (fun ds M R h => by obtain ⟨j, n, rfl, _⟩ := h; rfl) fun cdv B up z H E hr ds M R h => ?_
  obtain ⟨j, n, rfl, hm, h0, h1, hR⟩ := h
  obtain ⟨i, hi⟩ := mem_ix hm
  refine ⟨_, (pss_cons (ps_asg (pe_op (wAdd K rfl) (pe_ix (wIx K rfl) (pv 0) pe_int (fun _ _ => rfl)) pe_int) (pg_sub (pv 0) pe_int set_list)) (pss_cons (ps_if (pt_cmpR op_gt (pe_ix (wIx K rfl) (pv 0) pe_int (fun _ _ => rfl)) pe_int (nomark _)) (pss_cons (ps_asg (pe_callB wDivmod (by rfl) T.n_divmod (by decide +kernel) (pa_cons (pe_callTy wInt (by rfl) T.n_int (by decide +kernel) (pa_cons (pe_ix (wIx K rfl) (pv 0) pe_int (fun _ _ => rfl)) pa_nil)) (pa_cons (pv 1) pa_nil))) (wTupG (n := 2) K rfl (pg_tup rfl (pgs_cons (pg_sub (pv 0) pe_int set_list) (pgs_cons (pg_name (i := 2) sc__law_pour.nd rfl (.inl rfl)) pgs_nil))))) (pss_one (ps_ret (pv 2)))) pss_nil) (pss_cons (ps_asg (pe_op op_mod (pe_callTy wInt (by rfl) T.n_int (by decide +kernel) (pa_cons (pe_op (wAdd K rfl) (pe_op (wAdd K rfl) (pe_op (wMul K rfl) (pe_ix (wIx K rfl) (pv 0) pe_int (fun _ _ => rfl)) pe_int) (pe_op (wMul K rfl) (pe_ix (wIx K rfl) (pv 0) pe_int (fun _ _ => rfl)) pe_int)) (pe_op (wMul K rfl) (pe_op op_fdiv (pe_ix (wIx K rfl) (pv 0) pe_int (fun _ _ => rfl)) pe_int) pe_int)) pa_nil)) pe_int) (pg_sub (pv 0) pe_int set_list)) (pss_one (ps_ret (pe_op op_mod (pe_callTy wInt (by rfl) T.n_int (by decide +kernel) (pa_cons (pe_op op_fdiv (pe_ix (wIx K rfl) (pv 0) pe_int (fun _ _ => rfl)) pe_int) pa_nil)) (pv 1))))))), ?_⟩
  refine xs_op hi fun ds hp => ?_
  obtain ⟨a, b, c, rfl, hb, hc⟩ := hp
  have hg : ∀ o, (M.set i (j, o))[i]? = some (j, o) := fun o => set_get hi
  have hmm : ∀ o, (j, o) ∈ M.set i (j, o) := fun o => List.mem_of_getElem? (hg o)
  have fin : ∀ (r : Int) (ds : List DV), JugOk ds → 0 ≤ r → r < n → ∃ ds', (M.set i (j, MO.lst ds))[i]? = some (j, MO.lst ds') ∧ JugOk ds' ∧ R (.int r) ((M.set i (j, MO.lst ds)).set i (j, jugO)) := fun r ds hd r0 r1 => ⟨ds, hg _, hd, by rw [set_back hi]; exact hR r r0 r1⟩
  -- jug[0] = jug[0] + 2
  refine xs_seq (xs_asg ((ev_op (ev_op (ev_var rfl) ev_cI (rv_ixC (ds := [.int a, .int b, .int c]) (hmm _) rfl)) ev_cI rv_add).go (bd_subL (i := i) (a := j) (xs := [.int a, .int b, .int c]) (Ev.go (ev_var rfl) ⟨rfl, Ev.go ev_cI ⟨0, 0, rfl, hg _, rfl, ?_⟩⟩))))
  rw [List.set_set]
  show XS K _ _ (M.set i (j, MO.lst [.int (a + 2), .int b, .int c])) _
  have rd : ∀ k : Int, ∀ d, atI [DV.int (a + 2), .int b, .int c] k = some d → ∀ {ρ : Rho}, ρ[0]? = some (some (.raw (.ref j))) → Ev K (tOp (rIx K) (tVar 0) (tC (.int k))) ρ (M.set i (j, MO.lst [.int (a + 2), .int b, .int c])) d := fun k d h ρ hρ => ev_op (ev_var hρ) ev_cI (rv_ixC (hmm _) h)
  refine xs_whenE (et_test (ev_op (rd 1 (.int b) rfl rfl) ev_cI rv_B0)) (fun hb' => ?_) fun _ => ?_
  · -- jug[1], digit = divmod(..); return digit
    refine xs_seq (xs_asg ((ev_cb (ea_cons (ev_cb (ea_cons (rd 1 (.int b) rfl rfl) ea_nil) rc_int) (ea_cons (ev_var rfl) ea_nil)) (rc_divmod ⟨h0, h1⟩)).go (bd_tup (bds_cons (bd_subL (i := i) (a := j) (xs := [.int (a + 2), .int b, .int c]) (Ev.go (ev_var rfl) ⟨rfl, Ev.go ev_cI ⟨1, 1, rfl, hg _, rfl, bds_nm (bds_nil ?_)⟩⟩))) rfl)))
    rw [List.set_set]
    refine xs_ret (evr_cl (i := i) (a := j) (p := JugOk) (Ev.go (ev_var rfl) (fin _ _ ⟨_, _, _, rfl, ?_, hc⟩ ?_ ?_)))
    · exact Int.ediv_nonneg hb (by omega)
    · exact Int.emod_nonneg b (by omega)
    · exact Int.emod_lt_of_pos b h0
  · -- jug[2] = ..
    refine xs_seq (xs_asg (Ev.go (ev_op (ev_cb (ea_cons (ev_op (ev_op (ev_op (rd 2 (.int c) rfl rfl) ev_cI (rv_mul (.inr (by decide)))) (ev_op (rd 0 (.int (a + 2)) rfl rfl) ev_cI (rv_mul (.inr (by decide)))) rv_add) (ev_op (ev_op (rd 2 (.int c) rfl rfl) ev_cI (rv_I (by show CDiv _ _; exact ⟨by decide, by decide⟩))) ev_cI (rv_mul (.inr (by decide)))) rv_add) ea_nil) rc_int) ev_cI (rv_I (by decide)))
      (bd_subL (i := i) (a := j) (xs := [.int (a + 2), .int b, .int c]) (Ev.go (ev_var rfl) ⟨rfl, Ev.go ev_cI ⟨2, 2, rfl, hg _, rfl, ?_⟩⟩))))
    rw [List.set_set]
    generalize hc' : (c * 48029 + (a + 2) * 70003 + c / 9001 * 61) % 1999999529 = c'
    have hc0 : 0 ≤ c' := by rw [← hc']; exact Int.emod_nonneg _ (by decide)
    show XS K _ _ (M.set i (j, MO.lst [.int (a + 2), .int b, .int c'])) _
    refine xs_ret (evr_cl (i := i) (a := j) (p := JugOk) (Ev.go (ev_op (ev_cb (ea_cons (ev_op (ev_op (ev_var rfl) ev_cI (rv_ixC (hmm _) rfl)) ev_cI (rv_I (by show CDiv _ _; exact ⟨by decide, by decide⟩))) ea_nil) rc_int) (ev_var rfl) (rv_I h0)) (fin _ _ ⟨_, _, _, rfl, hb, hc0⟩ ?_ ?_)))
    · exact Int.emod_nonneg _ (by omega)
    · exact Int.emod_lt_of_pos _ h0
section
variable {ρ : Rho} {M : Ms} {i : Nat} {j : Addr} {te : TE} {R : DV → Ms → Prop}
theorem evr_pour {n : Int} (hj : ρ[i]? = some (some (.raw (.ref j)))) (hm : (j, jugO) ∈ M) (he : Ev K te ρ M (.int n)) (h0 : 0 < n) (h1 : n < 1073741824) (k : ∀ r : Int, 0 ≤ r → r < n → R (.int r) M) : EvR K (tCall (spD K S_pour) [] E0 (tCons (tVar i) (tCons te tNil))) ρ M R :=
  evr_call ((ea_cons (ev_var hj) (ea_cons he ea_nil)).go ⟨j, n, rfl, hm, h0, h1, k⟩)
/-- any one of the things -/
def S_one : SpecD := fun ds M R => ∃ (j : Addr) (xs : List DV), ds = [.raw (.ref j), .lst xs] ∧ (j, jugO) ∈ M ∧ 0 < xs.length ∧ xs.length < 1000 ∧ ∀ d, d ∈ xs → R d M
theorem ok__law_one (T : Tx K mg A) : FnOk P w K mg base CX0 2 A.f__law_one A.d__law_one ["jug", "things"] (spD K S_one) := by
  refine fnD T.F__law_one sc__law_one (fun ds M R h => by obtain ⟨j, xs, rfl, _⟩ := h; rfl) fun cdv B up z H E hr ds M R h => ?_
  obtain ⟨j, xs, rfl, hm, h0, h1, hR⟩ := h
  refine ⟨_, (pss_one (ps_ret (pe_ix (wIx K rfl) (pv 1) (pe_call (ok__law_pour T) (hr.mono (by decide)) (by rfl) T.g__law_pour T.F__law_pour.kp (b__law_pour T) .nil pass0 (pa_cons (pv 0) (pa_cons (pe_callB (wLen K rfl) (by rfl) T.n_len PySem.boot_len (pa_cons (pv 1) pa_nil)) pa_nil))) (fun _ _ => rfl)))), ?_⟩
  refine xs_ret (evr_op (Ev.go (ev_var rfl) (evr_pour rfl hm (n := xs.length) (by walk_at "ev") (by omega) (by omega) fun r r0 r1 => ?_)))
  obtain ⟨d, hd⟩ : ∃ d, xs[r.toNat]? = some d := ⟨_, List.getElem?_eq_getElem (show r.toNat < xs.length by omega)⟩
  have e : atI xs ((r.toNat : Nat) : Int) = some d := atI_nat hd
  rw [show ((r.toNat : Nat) : Int) = r by omega] at e
  exact (rv_ixL e).go (hR d (List.mem_of_getElem? hd))
theorem evr_one {xs : List DV} (hj : ρ[i]? = some (some (.raw (.ref j)))) (hm : (j, jugO) ∈ M) (he : Ev K te ρ M (.lst xs)) (h0 : 0 < xs.length) (h1 : xs.length < 1000) (k : ∀ d, d ∈ xs → R d M) : EvR K (tCall (spD K S_one) [] E0 (tCons (tVar i) (tCons te tNil))) ρ M R :=
  evr_call ((ea_cons (ev_var hj) (ea_cons he ea_nil)).go ⟨j, xs, rfl, hm, h0, h1, k⟩)
end
/-- a new jug -/
def S_jug : SpecD := fun ds M R => ∃ (ns : List Int) (k : Int), ds = [.rd (ns.map .int), .int k] ∧ 0 ≤ k ∧ ns.length ≤ 63 ∧ ∀ p : Addr, R (.raw (.ref p)) ((p, jugO) :: M)
theorem cut_ints {ns : List Int} {lo hi : Option Int} : ∃ ms : List Int, cutL (ns.map DV.int) lo hi = ms.map .int := by
  unfold cutL
  rw [← List.map_drop, ← List.map_take]
  exact ⟨_, rfl⟩
theorem ok__law_jug (T : Tx K mg A) : FnOk P w K mg base CX0 1 A.f__law_jug A.d__law_jug ["script", "k"] (spD K S_jug) := by
  refine fnD T.F__law_jug sc__law_jug (fun ds M R h => by obtain ⟨ns, k, rfl, _⟩ := h; rfl) fun cdv B up z H E hr ds M R h => ?_
  obtain ⟨ns, k, rfl, h0, h1, hR⟩ := h
  refine ⟨_, (pss_cons (ps_set (i := 2) sc__law_jug.nd rfl (.inl rfl) (pe_ifExp (pt_cmpR op_lt (pv 1) (pe_callB (wLen K rfl) (by rfl) T.n_len PySem.boot_len (pa_cons (pv 0) pa_nil)) (nomark _)) (pe_callTy wInt (by rfl) T.n_int (by decide +kernel) (pa_cons (pe_ix (wIx K rfl) (pv 0) (pv 1) (fun _ _ => rfl)) pa_nil)) (pe_op (wAdd K rfl) (pe_op (wMul K rfl) pe_int (pv 1)) pe_int))) (pss_cons (ps_set (i := 3) sc__law_jug.nd rfl (.inl rfl) (pe_op (wAdd K rfl) pe_int (pe_op (wMul K rfl) pe_int (pv 1)))) (pss_cons (ps_for PassesOwn.never rfl (wList K rfl (pe_slice (wSl K rfl) (pv 0) po_none (po_some pe_int))) (pg_name (i := 4) sc__law_jug.nd rfl (.inl rfl)) (pss_one (ps_set (i := 3) sc__law_jug.nd rfl (.inl rfl) (pe_op op_mod (pe_callTy wInt (by rfl) T.n_int (by decide +kernel) (pa_cons (pe_op (wAdd K rfl) (pe_op (wMul K rfl) (pv 3) pe_int) (pe_op op_mod (pe_callTy wInt (by rfl) T.n_int (by decide +kernel) (pa_cons (pv 4) pa_nil)) pe_int)) pa_nil)) pe_int)))) (pss_one (ps_ret (pe_lst (pa_cons pe_int (pa_cons (pe_ifExp (PW.pt (pw_or (pt_cmpR op_lt (pv 2) pe_int (nomark _)) (pw_or1 (pt_cmpR op_ge (pv 2) (pe_op op_pow pe_int pe_int) (nomark _))))) (pe_callB wAbs (by rfl) T.n_abs (by decide +kernel) (pa_cons (pv 2) pa_nil)) pe_int) (pa_cons (pe_op op_mod (pe_callTy wInt (by rfl) T.n_int (by decide +kernel) (pa_cons (pe_op (wAdd K rfl) (pe_op (wMul K rfl) (pv 3) pe_int) (pe_op op_mod (pv 2) pe_int)) pa_nil)) pe_int) pa_nil))))))))), ?_⟩
  refine xs_cut (fun ρ' M' => M' = M ∧ ∃ o : Int, ρ' = [some (.rd (ns.map .int)), some (.int k), some (.int o), none, none]) (xs_asg (evr_if (EvT.go (et_test (ev_op (ev_var rfl) (by walk_at "ev") rv_B0)) ?_))) fun ρ' M' h => ?_
  · split
    · rename_i hb
      have hk : k < ns.length := by have := of_decide_eq_true hb; rw [List.length_map] at this; exact this
      exact Ev.go (ev_cb (ea_cons (ev_op (ev_var rfl) (ev_var rfl) (rv_ixR (atI_ints h0 hk))) ea_nil) rc_int) (bd_name ⟨rfl, _, rfl⟩)
    · exact Ev.go (by walk_at "ev") (bd_name ⟨rfl, _, rfl⟩)
  obtain ⟨rfl, o, rfl⟩ := h
  refine xs_setE (by walk_at "ev") ?_
  obtain ⟨ms, hms⟩ := cut_ints (ns := ns) (lo := none) (hi := some 15)
  refine xs_seq (xs_for (ei_lst (ds := ms.map .int) (RM := fun M'' => M'' = M') (Ev.go (Ev.is (by walk_at "ev") (congrArg DV.lst hms)) ⟨rfl, rfl⟩)) (fun i ρ M'' => M'' = M' ∧ ∃ (m : Int) (e : Option DV), ρ = [some (.rd (ns.map .int)), some (.int k), some (.int o), some (.int m), e])
    (fun M'' e => ⟨e, _, none, rfl⟩) (fun _ _ _ _ _ c hc => nomatch hc) (fun i ρ M'' hlt hinv => ?_) fun ρ M'' hinv => ?_)
  · obtain ⟨rfl, m, e, rfl⟩ := hinv
    obtain ⟨v, hv⟩ : ∃ v, nth (ms.map DV.int) i = .int v := by
      rw [List.length_map] at hlt
      exact ⟨_, nth_of (by rw [List.getElem?_map, List.getElem?_eq_getElem hlt]; rfl)⟩
    rw [hv]
    refine bd_name (xs_set (by walk_at "ev") ⟨rfl, _, _, rfl⟩)
  · obtain ⟨rfl, m, e, rfl⟩ := hinv
    have hor : ∀ {ρ : Rho}, ρ[2]? = some (some (.int o)) → ∃ b : Bool, EvT K (tOr (tTest (tOp (rI0 fun i j => .bl (decide (i < j))) (tVar 2) (tC (.int 0)))) (tTest (tOp (rI0 fun i j => .bl (decide (j ≤ i))) (tVar 2) (tOp (rI CPow fun i j => .int (i ^ j.toNat)) (tC (.int 10)) (tC (.int 14)))))) ρ M'' b := fun {ρ} h2 =>
      ⟨_, et_or (et_test (ev_op (ev_var h2) ev_cI rv_B0)) fun _ => et_test (ev_op (ev_var h2) (ev_op ev_cI ev_cI (rv_I (by show CPow 10 14; exact ⟨by decide, by decide, by decide⟩))) rv_B0)⟩
    obtain ⟨b, hb⟩ := hor (ρ := [some (.rd (ns.map .int)), some (.int k), some (.int o), some (.int m), e]) rfl
    refine xs_ret (evr_clN (p := JugOk) (evr_lstC (ear_cons (Ev.go ev_cI (ear_cons (evr_if (hb.go ?_)))))))
    have last : ∀ c : Int, 0 ≤ c → EvAR K (tCons (tOp (rI (fun _ j => 0 < j) fun i j => .int (i % j)) (tCB rInt1 (tCons (tOp (rAddU K) (tOp (rMulU K) (tVar 3) (tC (.int 41))) (tOp (rI (fun _ j => 0 < j) fun i j => .int (i % j)) (tVar 2) (tC (.int 1999999529)))) tNil)) (tC (.int 1999999529))) tNil) [some (.rd (ns.map .int)), some (.int k), some (.int o), some (.int m), e] M'' fun ds M2 => (DV.int 3 :: DV.int c :: ds).length ≤ 100000 ∧ ∀ p : Addr, ∃ (a : Addr) (ds' : List DV) (M3 : Ms), ((p, MO.lst (DV.int 3 :: DV.int c :: ds)) :: M2) = (a, .lst ds') :: M3 ∧ JugOk ds' ∧ R (.raw (.ref p)) ((a, jugO) :: M3) := fun c hc =>
      EvA.go (by walk_at "ea") ⟨by simp, fun p => ⟨p, _, _, rfl, ⟨_, _, _, rfl, hc, Int.emod_nonneg _ (by decide)⟩, hR p⟩⟩
    split
    · exact Ev.go (ev_cb (ea_cons (ev_var rfl) ea_nil) rc_abs) (last _ (by split <;> omega))
    · exact Ev.go ev_cI (last _ (by omega))

theorem w_pour {M : Ms} {R : DV → Ms → Prop} {j : Addr} {n : Int} (hm : (j, jugO) ∈ M) (h0 : 0 < n) (h1 : n < 1073741824) (k : ∀ r : Int, 0 ≤ r → r < n → R (.int r) M) : S_pour [.raw (.ref j), .int n] M R := ⟨j, n, rfl, hm, h0, h1, k⟩
theorem w_one {M : Ms} {R : DV → Ms → Prop} {j : Addr} {xs : List DV} (hm : (j, jugO) ∈ M) (h0 : 0 < xs.length) (h1 : xs.length < 1000) (k : ∀ d, d ∈ xs → R d M) : S_one [.raw (.ref j), .lst xs] M R := ⟨j, xs, rfl, hm, h0, h1, k⟩

/-! ### owned ones are let go at the return -/
theorem Wd.dropL {K : PySem.W.Frag} {F H : Hp} {N M2 : Ms} : ∀ (C : Ms), Wd K F (N ++ (C ++ M2)) H → Wd K F (N ++ M2) H
  | [], w => w
  | c :: C, w => Wd.dropL C (w.perm (List.perm_middle.symm)).drop
theorem xs_out {K : PySem.W.Frag} {ρ : Rho} {M : Ms} {t : TS} {P : Post} (h : XS K t ρ M { P with rt := fun d M' => ∃ C M2, M' = C ++ M2 ∧ P.rt d M2 }) : XS K t ρ M P := fun N F σ H D S e => h N F σ H D S ⟨e.nx, fun v F' H' d M' e1 ⟨C, M2, hm, hr⟩ w r => by
  subst hm
  exact e.rt v F' H' d M2 e1 hr (Wd.dropL C w) r, e.bk, e.ct⟩
/-- an owned list that is returned stays from then on -/
theorem xs_outL {K : PySem.W.Frag} {ρ : Rho} {M : Ms} {t : TS} {P : Post} (h : XS K t ρ M { P with rt := fun d M' => ∃ a ds C M2, d = .raw (.ref a) ∧ M' = (a, MO.lst ds) :: (C ++ M2) ∧ P.rt (.lst ds) M2 }) : XS K t ρ M P := fun N F σ H D S e => h N F σ H D S ⟨e.nx, fun v F' H' d M' e1 ⟨a, ds, C, M2, hd, hm, hr⟩ w r => by
  subst hd hm
  cases r.raw_of
  obtain ⟨F2, e2, w2, r2⟩ := (w.perm (List.perm_middle.symm)).freeze
  exact e.rt _ F2 H' _ M2 (e1.trans e2) hr (Wd.dropL C w2) r2, e.bk, e.ct⟩
/-! loops in which owned ones change; x = [] is owned -/
section
variable {K : PySem.W.Frag} {ρ : Rho} {M : Ms} {te : TE} {ta : TA} {t : TS} {P : Post} {k : Nat}
theorem w_asgNil {i : Nat} (h : ∀ a, P.nx (ρ.set i (some (.raw (.ref a)))) ((a, .lst []) :: M)) : XS K (tAsg (tLst tNil) (gName i)) ρ M P := xs_asg (evr_lstC (ear_nil ⟨by decide, fun a => bd_name (h a)⟩))
theorem w_for1M (n : Nat) (hn : n ≤ 1000000) (hI : EvAR K ta ρ M fun ds M' => ds = [.int n] ∧ M' = M) (inv : Nat → Rho → Ms → Prop) (h0 : inv 0 ρ M)
    (hs : ∀ i ρ' M', i < n → inv i ρ' M' → XS K t (ρ'.set k (some (.int i))) M' { P with nx := inv (i + 1), ct := inv (i + 1), bk := P.nx })
    (hd : ∀ ρ' M', inv n ρ' M' → P.nx ρ' M') : XS K (tFor (iRng1 ta) (gName k) t) ρ M P := by
  have := ei_rng1 hI (show -(2 ^ 62) ≤ (n : Int) ∧ (n : Int) < 2 ^ 62 by omega)
  rw [Int.toNat_natCast] at this
  exact xs_for this inv (fun M' e => by rw [e]; exact h0) (fun _ _ _ _ _ => nil_sub) (fun i ρ' M' hi hv => bd_name (hs i ρ' M' hi hv)) hd
theorem w_for2M (lo : Int) (n : Nat) (hl : -1000000 ≤ lo ∧ lo ≤ 1000000) (hn : n ≤ 1000000) (hI : EvAR K ta ρ M fun ds M' => ds = [.int lo, .int (lo + n)] ∧ M' = M) (inv : Nat → Rho → Ms → Prop) (h0 : inv 0 ρ M)
    (hs : ∀ i ρ' M', i < n → inv i ρ' M' → XS K t (ρ'.set k (some (.int (lo + i)))) M' { P with nx := inv (i + 1), ct := inv (i + 1), bk := P.nx })
    (hd : ∀ ρ' M', inv n ρ' M' → P.nx ρ' M') : XS K (tFor (iRng2 ta) (gName k) t) ρ M P := by
  have := ei_rng2 hI (show -(2 ^ 62) ≤ lo ∧ lo < 2 ^ 62 ∧ -(2 ^ 62) ≤ lo + (n : Int) ∧ lo + (n : Int) < 2 ^ 62 by omega)
  rw [show (lo + (n : Int) - lo).toNat = n by omega] at this
  exact xs_for this inv (fun M' e => by rw [e]; exact h0) (fun _ _ _ _ _ => nil_sub) (fun i ρ' M' hi hv => bd_name (hs i ρ' M' hi hv)) hd
theorem w_forTM {ds : List DV} {g : TG} (hI : EvR K te ρ M fun d M' => d = .tup ds ∧ M' = M) (inv : Nat → Rho → Ms → Prop) (h0 : inv 0 ρ M)
    (hs : ∀ i ρ' M' d, ds[i]? = some d → inv i ρ' M' → BdG K g ρ' M' d fun ρ2 M2 => XS K t ρ2 M2 { P with nx := inv (i + 1), ct := inv (i + 1), bk := P.nx })
    (hd : ∀ ρ' M', inv ds.length ρ' M' → P.nx ρ' M') : XS K (tFor (iTup K te) g t) ρ M P :=
  xs_for (ei_tup hI) inv (fun M' e => by rw [e]; exact h0) (fun _ _ _ _ _ => nil_sub) (fun i ρ' M' hi hv => hs i ρ' M' _ (nth_get hi) hv) hd
theorem w_forLM {ds : List DV} {g : TG} (hI : EvR K te ρ M fun d M' => d = .lst ds ∧ M' = M) (inv : Nat → Rho → Ms → Prop) (h0 : inv 0 ρ M)
    (hs : ∀ i ρ' M' d, ds[i]? = some d → inv i ρ' M' → BdG K g ρ' M' d fun ρ2 M2 => XS K t ρ2 M2 { P with nx := inv (i + 1), ct := inv (i + 1), bk := P.nx })
    (hd : ∀ ρ' M', inv ds.length ρ' M' → P.nx ρ' M') : XS K (tFor (iList K te) g t) ρ M P :=
  xs_for (ei_lst hI) inv (fun M' e => by rw [e]; exact h0) (fun _ _ _ _ _ => nil_sub) (fun i ρ' M' hi hv => hs i ρ' M' _ (nth_get hi) hv) hd
end
section
variable {K : PySem.W.Frag} {M : Ms}
theorem w_lenRT {f : Nat → Int} {n : Nat} : RC K (DD.rLen K) [.tup ((rowI f n).map .int)] M (.int n) := by
  have := rc_lenT (K := K) (M := M) (ds := (rowI f n).map .int)
  rw [List.length_map, rowI_len] at this; exact this
theorem w_lenRL {f : Nat → Int} {n : Nat} : RC K (DD.rLen K) [.lst ((rowI f n).map .int)] M (.int n) := by
  have := rc_lenL (K := K) (M := M) (ds := (rowI f n).map .int)
  rw [List.length_map, rowI_len] at this; exact this
end
local macro_rules | `(tactic| walk_at "st_rc") => `(tactic| first | (with_reducible refine' RC.go w_lenRT ?_) | (with_reducible refine' RC.go w_lenRL ?_))
local macro_rules | `(tactic| walk_at "st_xs") => `(tactic| (with_reducible refine' w_asgNil (fun acc => ?_)))
theorem rv_inS3 {K : PySem.W.Frag} {M : Ms} {s a b c : Str} : RV K (rIn K false) (.str s) (.tup [.str a, .str b, .str c]) M (.bl ([a, b, c].any fun t => t == s)) := rv_inS (ss := [a, b, c])
local macro_rules | `(tactic| walk_at "st_rv") => `(tactic| (with_reducible refine' RV.go rv_inS3 ?_))
local macro_rules | `(tactic| walk_at "st_if") => `(tactic| first | ((with_reducible refine' w_T ?aa ?_); (case aa => decide +kernel)) | ((with_reducible refine' w_F ?aa ?_); (case aa => decide +kernel)))

/-! ### pairs of a number and a gift -/
abbrev entD (e : Int × Int) : DV := .tup [.int e.1, .int e.2]
theorem ents_get {tab : List (Int × Int)} {i : Nat} {d : DV} (h : (tab.map entD)[i]? = some d) : ∃ e, tab[i]? = some e ∧ e ∈ tab ∧ d = entD e := by
  rw [List.getElem?_map] at h
  cases e : tab[i]? with
  | none => rw [e] at h; cases h
  | some x => rw [e] at h; cases h; exact ⟨x, rfl, List.mem_of_getElem? e, rfl⟩
theorem atI_ents {tab : List (Int × Int)} {i : Int} (h0 : 0 ≤ i) (h1 : i < tab.length) : atI (tab.map entD) i = some (entD (tab.getD i.toNat (0, 0))) := by
  have hl : i.toNat < tab.length := by omega
  have e : (tab.map entD)[i.toNat]? = some (entD (tab.getD i.toNat (0, 0))) := by
    rw [List.getElem?_map, List.getD_eq_getElem?_getD, List.getElem?_eq_getElem hl]; rfl
  have := atI_nat e
  rw [show ((i.toNat : Nat) : Int) = i by omega] at this
  exact this
local macro_rules | `(tactic| walk_at "ix") => `(tactic| ((with_reducible show atI (List.map entD _) _ = _); exact atI_ents (by omega) (by omega)))

/-! ### dicts of ints, by word -/
local macro_rules | `(tactic| walk_at "isdi") => `(tactic| first | exact .inl rfl | exact .inr ⟨_, rfl, by walk_at "mem"⟩)
local macro_rules | `(tactic| walk_at "st_evr") => `(tactic| first
  | ((with_reducible show EvR _ tDNewK _ _ _); refine' evr_dnewI ?_; intro p0)
  | (with_reducible refine' evr_dgetI ?_) | (with_reducible refine' evr_dinI ?_) | (with_reducible refine' evr_dnotinI ?_))
local macro_rules | `(tactic| walk_at "st_xs") => `(tactic| (with_reducible refine' xs_dputI ?_))
local macro_rules | `(tactic| walk_at "st_rc") => `(tactic| first
  | ((with_reducible refine' RC.go (rc_lenDI ?aa) ?_); (case aa => walk_at "isdi"))
  | ((with_reducible refine' RC.go (rc_listDI ?aa) ?_); (case aa => walk_at "isdi")))
local macro_rules | `(tactic| walk_at "spc") => `(tactic| first
  | ((with_reducible refine' DGetI.mk ?aa ?bb ?_); (case aa => walk_at "isdi"); (case' bb => try assumption))
  | ((with_reducible refine' DInI.mk ?aa ?_); (case aa => walk_at "isdi"))
  | ((with_reducible refine' DPutI.mk (n := 0) ?aa ?bb ?_); (case aa => exact rfl); (case' bb => try omega)))

/-! ### the greatest sums of told values of parts -/
abbrev bpD (b : Int × List Int) : DV := .tup [.int b.1, .tup (b.2.map .int)]
abbrev bAt (found : List (Int × List Int)) (i : Nat) : Int × List Int := found.getD i (0, [])
def candB (found : List (Int × List Int)) (amount : Nat) (e : Int × Int) : Int × List Int := ((bAt found (amount - e.1.toNat)).1 + e.2, (bAt found (amount - e.1.toNat)).2 ++ [e.1])
def stepB (found : List (Int × List Int)) (amount : Nat) (best : Int × List Int) (e : Int × Int) : Int × List Int := if e.1 ≤ amount ∧ best.1 < (candB found amount e).1 then candB found amount e else best
def bestF (ss : List (Int × Int)) : Nat → List (Int × List Int)
  | 0 => [(0, [])]
  | n + 1 => bestF ss n ++ [ss.foldl (stepB (bestF ss n) (n + 1)) (bAt (bestF ss n) n)]
theorem bestF_len {ss : List (Int × Int)} : ∀ n, (bestF ss n).length = n + 1
  | 0 => rfl
  | n + 1 => by
    show (bestF ss n ++ [_]).length = _
    rw [List.length_append, bestF_len n]; rfl
structure SOk (ss : List (Int × Int)) : Prop where
  l1 : 1 ≤ ss.length
  l2 : ss.length ≤ 8
  asc : (ss.map (·.1)).Pairwise (· < ·)
  hv : ∀ e ∈ ss, (1 ≤ e.1 ∧ e.1 ≤ 24) ∧ 0 ≤ e.2 ∧ e.2 ≤ 1000000
theorem bAt_app {l : List (Int × List Int)} {b : Int × List Int} {k : Nat} (h : k < l.length) : bAt (l ++ [b]) k = bAt l k := by
  unfold bAt
  rw [List.getD_eq_getElem?_getD, List.getD_eq_getElem?_getD, List.getElem?_append_left h]
theorem bAt_end {l : List (Int × List Int)} {b : Int × List Int} {k : Nat} (h : k = l.length) : bAt (l ++ [b]) k = b := by
  unfold bAt
  rw [List.getD_eq_getElem?_getD, h, List.getElem?_append_right (Nat.le_refl _), Nat.sub_self]; rfl
theorem bAt_out {l : List (Int × List Int)} {k : Nat} (h : l.length ≤ k) : bAt l k = (0, []) := by
  unfold bAt
  rw [List.getD_eq_getElem?_getD, List.getElem?_eq_none h]; rfl
/-- what the best of some amounts is: itself, or a candidate, and no candidate gives more -/
theorem fold_best {found : List (Int × List Int)} {a : Nat} : ∀ {l : List (Int × Int)} {b : Int × List Int},
    (l.foldl (stepB found a) b = b ∨ ∃ e ∈ l, e.1 ≤ a ∧ l.foldl (stepB found a) b = candB found a e) ∧ b.1 ≤ (l.foldl (stepB found a) b).1 ∧ ∀ e ∈ l, e.1 ≤ a → (candB found a e).1 ≤ (l.foldl (stepB found a) b).1
  | [], b => ⟨.inl rfl, Int.le_refl _, fun _ h => nomatch h⟩
  | e :: r, b => by
    obtain ⟨h1, h2, h3⟩ := fold_best (found := found) (a := a) (l := r) (b := stepB found a b e)
    rw [List.foldl_cons]
    have hs : (stepB found a b e = b ∨ (e.1 ≤ a ∧ stepB found a b e = candB found a e)) ∧ b.1 ≤ (stepB found a b e).1 ∧ (e.1 ≤ a → (candB found a e).1 ≤ (stepB found a b e).1) := by
      unfold stepB
      split
      · rename_i h; exact ⟨.inr ⟨h.1, rfl⟩, Int.le_of_lt h.2, fun _ => Int.le_refl _⟩
      · rename_i h; exact ⟨.inl rfl, Int.le_refl _, fun h1 => Int.not_lt.mp fun h2 => h ⟨h1, h2⟩⟩
    refine ⟨?_, Int.le_trans hs.2.1 h2, fun x hx hxa => ?_⟩
    · rcases h1 with h1 | ⟨x, hx, hxa, h1⟩
      · rw [h1]
        rcases hs.1 with h | ⟨ha, h⟩
        · exact .inl h
        · exact .inr ⟨e, List.mem_cons_self, ha, h⟩
      · exact .inr ⟨x, List.mem_cons_of_mem _ hx, hxa, h1⟩
    · rcases List.mem_cons.mp hx with rfl | hx
      · exact Int.le_trans (hs.2.2 hxa) h2
      · exact h3 x hx hxa
def toldOf (ss : List (Int × Int)) (k : Int) : Int := (getI ss k).getD 0
/-- the best of each amount -/
structure BOk (ss : List (Int × Int)) (x : Nat) (b : Int × List Int) : Prop where
  sub : ∀ p ∈ b.2, p ∈ ss.map (·.1)
  cnt : b.2.length ≤ x
  sum : b.2.sum ≤ x
  val : (b.2.map (toldOf ss)).sum = b.1
theorem SOk.nd {ss : List (Int × Int)} (hs : SOk ss) : (ss.map (·.1)).Nodup := hs.asc.imp fun h => Int.ne_of_lt h
theorem getI_nd {kvs : List (Int × Int)} {k v : Int} (hn : (kvs.map (·.1)).Nodup) (h : (k, v) ∈ kvs) : getI kvs k = some v := by
  induction kvs with
  | nil => cases h
  | cons p r ih =>
    obtain ⟨h1, h2⟩ := List.nodup_cons.mp hn
    rcases List.mem_cons.mp h with e | h
    · subst e; exact getI_pos rfl
    · rw [getI_neg (fun z : p.1 = k => h1 (List.mem_map.mpr ⟨(k, v), h, z.symm⟩)), ih h2 h]
theorem bok0 {ss : List (Int × Int)} {x : Nat} : BOk ss x (0, []) := ⟨fun _ h => absurd h List.not_mem_nil, Nat.zero_le _, Int.natCast_nonneg x, rfl⟩
theorem bestF_ok {ss : List (Int × Int)} (hs : SOk ss) : ∀ n x, BOk ss x (bAt (bestF ss n) x)
  | 0, 0 => bok0
  | 0, x + 1 => by
    rw [bAt_out (by rw [bestF_len]; omega)]
    exact bok0
  | n + 1, x => by
    rcases Nat.lt_or_ge x (n + 1) with h | h
    · show BOk ss x (bAt (bestF ss n ++ [_]) x)
      rw [bAt_app (by rw [bestF_len]; exact h)]
      exact bestF_ok hs n x
    · rcases Nat.eq_or_lt_of_le h with h | h
      · show BOk ss x (bAt (bestF ss n ++ [_]) x)
        rw [bAt_end (by rw [bestF_len]; exact h.symm)]
        subst h
        rcases (fold_best (found := bestF ss n) (a := n + 1) (l := ss) (b := bAt (bestF ss n) n)).1 with e | ⟨e, he, hea, e1⟩
        · rw [e]
          have := bestF_ok hs n n
          exact ⟨this.sub, Nat.le_succ_of_le this.cnt, by have := this.sum; omega, this.val⟩
        · rw [e1]
          have hv := hs.hv e he
          have := bestF_ok hs n (n + 1 - e.1.toNat)
          have hsum := this.sum
          have hcnt := this.cnt
          refine ⟨fun p hp => ?_, ?_, ?_, ?_⟩
          · rcases List.mem_append.mp hp with h | h
            · exact this.sub p h
            · rw [List.mem_singleton.mp h]; exact List.mem_map.mpr ⟨e, he, rfl⟩
          · show (_ ++ [e.1]).length ≤ _
            rw [List.length_append]
            show _ + 1 ≤ _
            omega
          · show (_ ++ [e.1]).sum ≤ _
            rw [List.sum_append, List.sum_cons, List.sum_nil]
            omega
          · show ((_ ++ [e.1]).map (toldOf ss)).sum = _ + e.2
            rw [List.map_append, List.sum_append, this.val, List.map_cons, List.map_nil, List.sum_cons, List.sum_nil]
            have : toldOf ss e.1 = e.2 := by unfold toldOf; rw [getI_nd hs.nd (k := e.1) (v := e.2) he]; rfl
            omega
      · rw [bAt_out (by rw [bestF_len]; omega)]
        exact bok0
theorem bestF_cnt {ss : List (Int × Int)} (hs : SOk ss) (n x : Nat) : (bAt (bestF ss n) x).2.length ≤ x := (bestF_ok hs n x).cnt

/-! ### the program's parts -/
def S_is_sight : SpecD := fun ds M R => ∃ e : Int × Int, ds = [entD e] ∧ ((1 ≤ e.1 ∧ e.1 ≤ 24) ∧ 0 ≤ e.2 ∧ e.2 ≤ 1000000) ∧ R (.bl true) M
theorem ok_is_sight (T : Tx K mg A) : FnOk P w K mg base CX0 2 A.f_is_sight A.d_is_sight ["value"] (spD K S_is_sight) := by
  refine fnD T.F_is_sight sc_is_sight (fun ds M R h => by obtain ⟨e, rfl, _⟩ := h; rfl) fun cdv B up z H E hr ds M R h => ?_
  obtain ⟨e, rfl, he, hR⟩ := h
  refine ⟨_, (pss_cons (ps_if (PW.pt (pw_or (pt_not (pt_val (pe_callB (wIsi K rfl) (by rfl) T.n_isinstance (by decide +kernel) (pa_cons (pv 0) (pa_cons (pe_bltn (v := .ty "tuple") (by rfl) T.n_tuple (by decide +kernel) rfl) pa_nil))))) (pw_or1 (pt_cmpR (wNe K rfl hr) (pe_callB (wLen K rfl) (by rfl) T.n_len PySem.boot_len (pa_cons (pv 0) pa_nil)) pe_int (nomark _))))) (pss_one (ps_ret pe_bl)) pss_nil) (pss_one (ps_ret (pe_and (pe_call (ok_is_between T) (hr.mono (by decide)) (by rfl) T.g_is_between T.F_is_between.kp (b_is_between T) .nil pass0 (pa_cons (pe_ix (wIx K rfl) (pv 0) pe_int (fun _ _ => rfl)) (pa_cons pe_int (pa_cons (pe_glob (v := .int 24) (by rfl) (Classical.choose_spec T.c_MOST_VALUES) ⟨_, rfl⟩) pa_nil)))) (pe_one (pe_call (ok_is_between T) (hr.mono (by decide)) (by rfl) T.g_is_between T.F_is_between.kp (b_is_between T) .nil pass0 (pa_cons (pe_ix (wIx K rfl) (pv 0) pe_int (fun _ _ => rfl)) (pa_cons pe_int (pa_cons (pe_glob (v := .int 1000000) (by rfl) (Classical.choose_spec T.c_MOST_GIFT) ⟨_, rfl⟩) pa_nil))))))))), ?_⟩
  walk_at "go"
  exact hR
def S_check_sights : SpecD := fun ds M R => ∃ ss : List (Int × Int), ds = [.tup (ss.map entD)] ∧ SOk ss ∧ R .non M
theorem ok_check_sights (T : Tx K mg A) : FnOk P w K mg base CX0 3 A.f_check_sights A.d_check_sights ["value"] (spD K S_check_sights) := by
  refine fnD T.F_check_sights sc_check_sights (fun ds M R h => by obtain ⟨ss, rfl, _⟩ := h; rfl) fun cdv B up z H E hr ds M R h => ?_
  obtain ⟨ss, rfl, hs, hR⟩ := h
  have l1 := hs.l1; have l2 := hs.l2
  refine ⟨_, (pss_cons (ps_if (PW.pt (pw_or (pt_not (pt_val (pe_callB (wIsi K rfl) (by rfl) T.n_isinstance (by decide +kernel) (pa_cons (pv 0) (pa_cons (pe_bltn (v := .ty "tuple") (by rfl) T.n_tuple (by decide +kernel) rfl) pa_nil))))) (pw_or1 (pt_not (pt_chain op_le op_le pe_int (pe_callB (wLen K rfl) (by rfl) T.n_len PySem.boot_len (pa_cons (pv 0) pa_nil)) (pe_glob (v := .int 8) (by rfl) (Classical.choose_spec T.c_MOST_SIGHTS) ⟨_, rfl⟩)))))) (pss_one ps_never) pss_nil) (pss_one (ps_for PassesOwn.never rfl (wEnumT K rfl rfl T.n_enumerate (pa_cons (pv 0) pa_nil)) (wTupG (n := 2) K rfl (pg_tup rfl (pgs_cons (pg_name (i := 1) sc_check_sights.nd rfl (.inl rfl)) (pgs_cons (pg_name (i := 2) sc_check_sights.nd rfl (.inl rfl)) pgs_nil)))) (pss_one (ps_if (PW.pt (pw_or (pt_not (pt_val (pe_call (ok_is_sight T) (hr.mono (by decide)) (by rfl) T.g_is_sight T.F_is_sight.kp (b_is_sight T) .nil pass0 (pa_cons (pv 2) pa_nil)))) (pw_or1 (PW.pt (pw_and (pt_cmpR op_gt (pv 1) pe_int (nomark _)) (pw_and1 (pt_cmpR op_le (pe_ix (wIx K rfl) (pv 2) pe_int (fun _ _ => rfl)) (pe_ix (wIx K rfl) (pe_ix (wIx K rfl) (pv 0) (pe_op op_sub (pv 1) pe_int) (fun _ _ => rfl)) pe_int (fun _ _ => rfl)) (nomark _)))))))) (pss_one ps_never) pss_nil))))), ?_⟩
  walk_at "go"
  refine (show XS _ _ _ _ _ from w_forE (ds := ss.map entD) ?_ (fun i ρ => ∃ x1 x2, ρ = [some (.tup (ss.map entD)), x1, x2]) ⟨none, none, rfl⟩ (fun i ρ' d hd hinv => ?_) fun ρ' hinv => ?_)
  · walk_at "go"
    exact ⟨rfl, rfl⟩
  · obtain ⟨x1, x2, rfl⟩ := hinv
    obtain ⟨e, he, hem, rfl⟩ := ents_get hd
    have hev := hs.hv e hem
    have hil := (List.getElem?_eq_some_iff.mp he).1
    have hlt : 0 < i → (ss.getD ((i : Int) - 1).toNat (0, 0)).1 < e.1 := fun h0 => by
      have h1 : ((i : Int) - 1).toNat = i - 1 := by omega
      have hl2 : i - 1 < ss.length := by omega
      have := List.pairwise_iff_getElem.mp hs.asc (i - 1) i (by rw [List.length_map]; omega) (by rw [List.length_map]; exact hil) (by omega)
      rw [List.getElem_map, List.getElem_map] at this
      rw [h1, List.getD_eq_getElem?_getD, List.getElem?_eq_getElem hl2]
      have e2 : ss[i] = e := (List.getElem?_eq_some_iff.mp he).2
      rw [e2] at this
      exact this
    walk_at "go"
    refine ⟨e, rfl, hev, ?_⟩
    walk_at "go"
    all_goals first
      | exact ⟨rfl, _, _, rfl⟩
      | (exfalso; omega)
  · obtain ⟨x1, x2, rfl⟩ := hinv
    walk_at "go"
    exact hR
theorem w_check_sights {M : Ms} {R : DV → Ms → Prop} {ss : List (Int × Int)} (hs : SOk ss) (k : R .non M) : S_check_sights [.tup (ss.map entD)] M R := ⟨ss, rfl, hs, k⟩
theorem atI_snB {ds : List DV} {d : DV} : atI (ds ++ [d]) (-1) = some d := by
  unfold atI ixN
  rw [if_neg (by omega), if_pos (by rw [List.length_append]; show -(((ds.length + 1 : Nat)) : Int) ≤ -1; omega)]
  show (ds ++ [d])[((-1 : Int) + ((ds ++ [d]).length : Nat)).toNat]? = _
  rw [show ((-1 : Int) + ((ds ++ [d]).length : Nat)).toNat = ds.length by rw [List.length_append]; show ((-1 : Int) + ((ds.length + 1 : Nat) : Int)).toNat = _; omega]
  simp
theorem atI_lastB {ss : List (Int × Int)} : ∀ i, atI ((bestF ss i).map bpD) (-1) = some (bpD (bAt (bestF ss i) i))
  | 0 => rfl
  | i + 1 => by
    have hl := bestF_len (ss := ss) i
    show atI ((bestF ss i ++ [_]).map bpD) (-1) = some (bpD ((bestF ss i ++ [_]).getD (i + 1) (0, [])))
    rw [List.map_append, List.map_cons, List.map_nil, atI_snB, List.getD_eq_getElem?_getD, List.getElem?_append_right (by omega), hl, Nat.sub_self]
    rfl
theorem atI_B {ss : List (Int × Int)} {i k : Nat} {z : Int} (hz : z = k) (hk : k ≤ i) : atI ((bestF ss i).map bpD) z = some (bpD (bAt (bestF ss i) k)) := by
  subst hz
  refine atI_nat ?_
  rw [List.getElem?_map, List.getElem?_eq_getElem (by rw [bestF_len]; omega)]
  show some (bpD _) = some (bpD ((bestF ss i).getD k (0, [])))
  rw [List.getD_eq_getElem?_getD, List.getElem?_eq_getElem (by rw [bestF_len]; omega)]
  rfl
def S_best : SpecD := fun ds M R => ∃ (ss : List (Int × Int)) (n : Nat), ds = [.tup (ss.map entD), .int n] ∧ SOk ss ∧ n ≤ 24 ∧ R (.lst ((bestF ss n).map bpD)) M
theorem ok_best_parts (T : Tx K mg A) : FnOk P w K mg base CX0 1 A.f_best_parts A.d_best_parts ["sights", "size"] (spD K S_best) := by
  refine fnD T.F_best_parts sc_best_parts (fun ds M R h => by obtain ⟨ss, n, rfl, _⟩ := h; rfl) fun cdv B up z H E hr ds M R h => ?_
  obtain ⟨ss, n, rfl, hs, hn, hR⟩ := h
  refine ⟨_, (pss_cons (ps_set (i := 2) sc_best_parts.nd rfl (.inl rfl) (pe_lst (pa_cons (pe_tup (pa_cons pe_int (pa_cons (pe_tup pa_nil) pa_nil))) pa_nil))) (pss_cons (ps_for PassesOwn.never rfl (pi_range2 rfl T.n_range (pa_cons pe_int (pa_cons (pe_op (wAdd K rfl) (pv 1) pe_int) pa_nil))) (pg_name (i := 3) sc_best_parts.nd rfl (.inl rfl)) (pss_cons (ps_set (i := 4) sc_best_parts.nd rfl (.inl rfl) (pe_ix (wIx K rfl) (pv 2) (pe_un un_neg pe_int) (fun _ _ => rfl))) (pss_cons (ps_for PassesOwn.never rfl (wTup K rfl (pv 0)) (wTupG (n := 2) K rfl (pg_tup rfl (pgs_cons (pg_name (i := 5) sc_best_parts.nd rfl (.inl rfl)) (pgs_cons (pg_name (i := 6) sc_best_parts.nd rfl (.inl rfl)) pgs_nil)))) (pss_one (ps_if (PW.pt (pw_and (pt_cmpR op_le (pv 5) (pv 3) (nomark _)) (pw_and1 (pt_cmpR op_gt (pe_op (wAdd K rfl) (pe_ix (wIx K rfl) (pe_ix (wIx K rfl) (pv 2) (pe_op op_sub (pv 3) (pv 5)) (fun _ _ => rfl)) pe_int (fun _ _ => rfl)) (pv 6)) (pe_ix (wIx K rfl) (pv 4) pe_int (fun _ _ => rfl)) (nomark _))))) (pss_one (ps_set (i := 4) sc_best_parts.nd rfl (.inl rfl) (pe_tup (pa_cons (pe_op (wAdd K rfl) (pe_ix (wIx K rfl) (pe_ix (wIx K rfl) (pv 2) (pe_op op_sub (pv 3) (pv 5)) (fun _ _ => rfl)) pe_int (fun _ _ => rfl)) (pv 6)) (pa_cons (pe_op (wAdd K rfl) (pe_ix (wIx K rfl) (pe_ix (wIx K rfl) (pv 2) (pe_op op_sub (pv 3) (pv 5)) (fun _ _ => rfl)) pe_int (fun _ _ => rfl)) (pe_tup (pa_cons (pv 5) pa_nil))) pa_nil))))) pss_nil))) (pss_one (ps_expr (wBm K rfl (pe_bm PySem.F.plainAttrs_list PySem.F.slot_list_append PySem.F.type_list_append mt_append (pv 2) (pa_cons (pv 4) pa_nil)))))))) (pss_one (ps_ret (pv 2))))), ?_⟩
  refine xs_outL (xs_seq (xs_asg (evr_lstC ?_)))
  walk_at "go"
  refine fun p0 => ?_
  walk_at "go"
  refine w_for2M 1 n (by decide) (by omega) ?_ (fun i ρ M' => ∃ x3 x4 x5 x6, ρ = [some (.tup (ss.map entD)), some (.int (n : Nat)), some (.raw (.ref p0)), x3, x4, x5, x6] ∧ M' = (p0, .lst ((bestF ss i).map bpD)) :: M) ⟨none, none, none, none, rfl, rfl⟩ (fun i ρ' M' hi hinv => ?_) fun ρ' M' hinv => ?_
  · walk_at "go"
    exact ⟨by rw [show (n : Int) + 1 = 1 + n by omega], rfl⟩
  · obtain ⟨x3, x4, x5, x6, rfl, rfl⟩ := hinv
    have hlen := bestF_len (ss := ss) i
    have hlast := atI_lastB (ss := ss) i
    walk_at "go"
    refine w_forTM (ds := ss.map entD) ?_ (fun j ρ M2 => ∃ x5 x6, ρ = [some (.tup (ss.map entD)), some (.int (n : Nat)), some (.raw (.ref p0)), some (.int (1 + (i : Nat))), some (bpD ((ss.take j).foldl (stepB (bestF ss i) (i + 1)) (bAt (bestF ss i) i))), x5, x6] ∧ M2 = (p0, .lst ((bestF ss i).map bpD)) :: M) ⟨x5, x6, rfl, rfl⟩ (fun j ρ' M2 d hd hinv => ?_) fun ρ' M2 hinv => ?_
    · walk_at "go"
      exact ⟨rfl, rfl⟩
    · obtain ⟨x5, x6, rfl, rfl⟩ := hinv
      obtain ⟨e, he, hem, rfl⟩ := ents_get hd
      have hev := hs.hv e hem
      have htk : ss.take (j + 1) = ss.take j ++ [e] := by rw [List.take_add_one, he]; rfl
      rw [htk, List.foldl_append]
      generalize hb : (ss.take j).foldl (stepB (bestF ss i) (i + 1)) (bAt (bestF ss i) i) = best
      refine bd_tup (bds_nm (bds_nm (bds_nil ?_))) rfl
      by_cases hle : e.1 ≤ 1 + (i : Int)
      · have hat : atI ((bestF ss i).map bpD) (1 + (i : Int) - e.1) = some (bpD (bAt (bestF ss i) (i + 1 - e.1.toNat))) := atI_B (by omega) (by omega)
        have hcnt : ((bAt (bestF ss i) (i + 1 - e.1.toNat)).2.map DV.int).length + [DV.int e.1].length ≤ 100000 := by
          have := bestF_cnt hs i (i + 1 - e.1.toNat)
          rw [List.length_map]
          show _ + 1 ≤ 100000
          omega
        have hB : best.1 < (bAt (bestF ss i) (i + 1 - e.1.toNat)).1 + e.2 → bpD ([e].foldl (stepB (bestF ss i) (i + 1)) best) = .tup [.int ((bAt (bestF ss i) (i + 1 - e.1.toNat)).1 + e.2), .tup ((bAt (bestF ss i) (i + 1 - e.1.toNat)).2.map .int ++ [.int e.1])] := fun h => by
          rw [show [e].foldl (stepB (bestF ss i) (i + 1)) best = candB (bestF ss i) (i + 1) e from if_pos ⟨by omega, h⟩]
          show DV.tup [.int _, .tup ((_ ++ [e.1]).map DV.int)] = _
          rw [List.map_append]; rfl
        have hC : ¬ best.1 < (bAt (bestF ss i) (i + 1 - e.1.toNat)).1 + e.2 → bpD ([e].foldl (stepB (bestF ss i) (i + 1)) best) = bpD best := fun h => by
          rw [show [e].foldl (stepB (bestF ss i) (i + 1)) best = best from if_neg fun z => h z.2]
        walk_at "go"
        all_goals first
          | exact hcnt
          | (refine ⟨some (.int e.1), some (.int e.2), ?_, rfl⟩; rw [hB (by omega)]; rfl)
          | (refine ⟨some (.int e.1), some (.int e.2), ?_, rfl⟩; rw [hC (by omega)]; rfl)
      · have hC : bpD ([e].foldl (stepB (bestF ss i) (i + 1)) best) = bpD best := by
          rw [show [e].foldl (stepB (bestF ss i) (i + 1)) best = best from if_neg fun z => hle (by omega)]
        walk_at "go"
        all_goals first
          | (refine ⟨some (.int e.1), some (.int e.2), ?_, rfl⟩; rw [hC]; rfl)
          | (exfalso; omega)
    · obtain ⟨x5, x6, rfl, rfl⟩ := hinv
      rw [List.length_map, List.take_length]
      walk_at "go"
      refine ⟨_, _, _, _, rfl, ?_⟩
      show _ = (p0, MO.lst ((bestF ss i ++ [_]).map bpD)) :: M
      rw [List.map_append]
      rfl
  · obtain ⟨x3, x4, x5, x6, rfl, rfl⟩ := hinv
    walk_at "go"
    exact ⟨p0, _, [], M, rfl, rfl, hR⟩
theorem w_best {M : Ms} {R : DV → Ms → Prop} {ss : List (Int × Int)} {n : Nat} {z : Int} (hs : SOk ss) (hz : z = n) (hn : n ≤ 24) (k : R (.lst ((bestF ss n).map bpD)) M) : S_best [.tup (ss.map entD), .int z] M R := ⟨ss, n, by rw [hz], hs, hn, k⟩
local macro_rules | `(tactic| walk_at "spc") => `(tactic| ((with_reducible refine' w_check_sights ?aa ?_); (case' aa => try assumption)))
def lastA (ss : List (Int × Int)) : Nat := (ss.getD (ss.length - 1) (0, 0)).1.toNat
def barP (ss : List (Int × Int)) (e : Int × Int) : Bool := decide (e.2 < (bAt (bestF ss (lastA ss)) e.1.toNat).1)
def barF (ss : List (Int × Int)) : Option (Int × List Int) := (ss.find? (barP ss)).map fun e => (e.1, sortI (bAt (bestF ss (lastA ss)) e.1.toNat).2)
def barD : Option (Int × List Int) → DV
  | none => .non
  | some b => bpD b
theorem find_at {α : Type} {p : α → Bool} : ∀ {l : List α} {i : Nat} {e : α}, (∀ j x, j < i → l[j]? = some x → p x = false) → l[i]? = some e → p e = true → l.find? p = some e
  | [], _, _, _, h, _ => by cases h
  | x :: l, 0, e, _, h, hp => by cases h; exact List.find?_cons_of_pos hp
  | x :: l, i + 1, e, h0, h, hp => by
    rw [List.find?_cons_of_neg (by rw [h0 0 x (by omega) rfl]; decide)]
    exact find_at (i := i) (fun j y hj hy => h0 (j + 1) y (by omega) hy) h hp
theorem SOk.lastA {ss : List (Int × Int)} (hs : SOk ss) : ∃ e, ss[ss.length - 1]? = some e ∧ e ∈ ss ∧ ss.getD (ss.length - 1) (0, 0) = e ∧ ∀ x ∈ ss, x.1 ≤ e.1 := by
  have l1 := hs.l1
  have hl : ss.length - 1 < ss.length := by omega
  refine ⟨ss[ss.length - 1], List.getElem?_eq_getElem hl, List.getElem_mem hl, by rw [List.getD_eq_getElem?_getD, List.getElem?_eq_getElem hl]; rfl, fun x hx => ?_⟩
  obtain ⟨i, hi, rfl⟩ := List.mem_iff_getElem.mp hx
  rcases Nat.lt_or_ge i (ss.length - 1) with h | h
  · have := List.pairwise_iff_getElem.mp hs.asc i (ss.length - 1) (by rw [List.length_map]; exact hi) (by rw [List.length_map]; exact hl) h
    rw [List.getElem_map, List.getElem_map] at this
    exact Int.le_of_lt this
  · have : i = ss.length - 1 := by omega
    subst this
    exact Int.le_refl _
def S_barring_of : SpecD := fun ds M R => ∃ ss : List (Int × Int), ds = [.tup (ss.map entD)] ∧ SOk ss ∧ R (barD (barF ss)) M
theorem ok_barring_of (T : Tx K mg A) : FnOk P w K mg base CX0 2 A.f_barring_of A.d_barring_of ["sights"] (spD K S_barring_of) := by
  refine fnD T.F_barring_of sc_barring_of (fun ds M R h => by obtain ⟨ss, rfl, _⟩ := h; rfl) fun cdv B up z H E hr ds M R h => ?_
  obtain ⟨ss, rfl, hs, hR⟩ := h
  obtain ⟨el, hel, helm, hed, hmx⟩ := hs.lastA
  have hlv := hs.hv el helm
  have hla : lastA ss = el.1.toNat := by unfold lastA; rw [hed]
  have l1 := hs.l1; have l2 := hs.l2
  have hat : atI (ss.map entD) (-1) = some (entD el) := by
    unfold atI ixN
    rw [if_neg (by omega), if_pos (by rw [List.length_map]; omega)]
    show (ss.map entD)[((-1 : Int) + ((ss.map entD).length : Nat)).toNat]? = _
    rw [List.length_map, show ((-1 : Int) + (ss.length : Nat)).toNat = ss.length - 1 by omega, List.getElem?_map, hel]
    rfl
  refine ⟨_, (pss_cons (ps_set (i := 1) sc_barring_of.nd rfl (.inl rfl) (pe_call (ok_best_parts T) (hr.mono (by decide)) (by rfl) T.g_best_parts T.F_best_parts.kp (b_best_parts T) .nil pass0 (pa_cons (pv 0) (pa_cons (pe_ix (wIx K rfl) (pe_ix (wIx K rfl) (pv 0) (pe_un un_neg pe_int) (fun _ _ => rfl)) pe_int (fun _ _ => rfl)) pa_nil)))) (pss_cons (ps_for PassesOwn.never rfl (wTup K rfl (pv 0)) (wTupG (n := 2) K rfl (pg_tup rfl (pgs_cons (pg_name (i := 2) sc_barring_of.nd rfl (.inl rfl)) (pgs_cons (pg_name (i := 3) sc_barring_of.nd rfl (.inl rfl)) pgs_nil)))) (pss_one (ps_if (pt_cmpR op_gt (pe_ix (wIx K rfl) (pe_ix (wIx K rfl) (pv 1) (pv 2) (fun _ _ => rfl)) pe_int (fun _ _ => rfl)) (pv 3) (nomark _)) (pss_one (ps_ret (pe_tup (pa_cons (pv 2) (pa_cons (pe_callTy (wTupOf K rfl) (by rfl) T.n_tuple (by decide +kernel) (pa_cons (pe_callB (wSortTI K rfl hr) (by rfl) T.n_sorted (by decide +kernel) (pa_cons (pe_ix (wIx K rfl) (pe_ix (wIx K rfl) (pv 1) (pv 2) (fun _ _ => rfl)) pe_int (fun _ _ => rfl)) pa_nil)) pa_nil)) pa_nil))))) pss_nil))) (pss_one (ps_ret pe_non)))), ?_⟩
  walk_at "go"
  refine w_best hs (show el.1 = (lastA ss : Nat) by omega) (by omega) ?_
  walk_at "go"
  refine w_forTM (ds := ss.map entD) ?_ (fun j ρ M2 => ∃ x2 x3, ρ = [some (.tup (ss.map entD)), some (.lst ((bestF ss (lastA ss)).map bpD)), x2, x3] ∧ M2 = M ∧ ∀ q x, q < j → ss[q]? = some x → barP ss x = false) ⟨_, _, rfl, rfl, fun q x h => absurd h (Nat.not_lt_zero _)⟩ (fun j ρ' M2 d hd hinv => ?_) fun ρ' M2 hinv => ?_
  · walk_at "go"
    exact ⟨rfl, rfl⟩
  · obtain ⟨x2, x3, rfl, rfl, hno⟩ := hinv
    obtain ⟨e, he, hem, rfl⟩ := ents_get hd
    have hev := hs.hv e hem
    have hmm := hmx e hem
    have hae : atI ((bestF ss (lastA ss)).map bpD) e.1 = some (bpD (bAt (bestF ss (lastA ss)) e.1.toNat)) := atI_B (by omega) (by omega)
    refine bd_tup (bds_nm (bds_nm (bds_nil ?_))) rfl
    walk_at "go"
    · rename_i hlt
      have hcnt := bestF_cnt hs (lastA ss) e.1.toNat
      refine RC.go (rc_sortTI (by omega)) ?_
      walk_at "go"
      have : barF ss = some (e.1, sortI (bAt (bestF ss (lastA ss)) e.1.toNat).2) := by
        unfold barF
        rw [find_at hno he (decide_eq_true (by first | exact hlt | exact of_decide_eq_true hlt))]; rfl
      rw [this] at hR
      exact hR
    · rename_i hlt
      refine ⟨_, _, rfl, rfl, fun q x hq hx => ?_⟩
      rcases Nat.lt_or_ge q j with h | h
      · exact hno q x h hx
      · have : q = j := by omega
        subst this
        rw [he] at hx; cases hx
        exact decide_eq_false (by first | exact hlt | exact of_decide_eq_false hlt)
  · obtain ⟨x2, x3, rfl, rfl, hno⟩ := hinv
    rw [List.length_map] at hno
    walk_at "go"
    have : barF ss = none := by
      unfold barF
      rw [List.find?_eq_none.mpr fun x hx => ?_]; rfl
      obtain ⟨q, hq⟩ := List.mem_iff_getElem?.mp hx
      rw [hno q x (List.getElem?_eq_some_iff.mp hq).1 hq]; decide
    rw [this] at hR
    exact hR
theorem w_barring_of {M : Ms} {R : DV → Ms → Prop} {ss : List (Int × Int)} (hs : SOk ss) (k : R (barD (barF ss)) M) : S_barring_of [.tup (ss.map entD)] M R := ⟨ss, rfl, hs, k⟩
local macro_rules | `(tactic| walk_at "spc") => `(tactic| ((with_reducible refine' w_barring_of ?aa ?_); (case' aa => try assumption)))
def S_fits : SpecD := fun ds M R => ∃ ss : List (Int × Int), ds = [.tup (ss.map entD)] ∧ SOk ss ∧ R (.bl (barF ss).isNone) M
theorem ok_fits (T : Tx K mg A) : FnOk P w K mg base CX0 4 A.f_fits A.d_fits ["sights"] (spD K S_fits) := by
  refine fnD T.F_fits sc_fits (fun ds M R h => by obtain ⟨ss, rfl, _⟩ := h; rfl) fun cdv B up z H E hr ds M R h => ?_
  obtain ⟨ss, rfl, hs, hR⟩ := h
  refine ⟨_, (pss_cons (ps_expr (pe_call (ok_check_sights T) (hr.mono (by decide)) (by rfl) T.g_check_sights T.F_check_sights.kp (b_check_sights T) .nil pass0 (pa_cons (pv 0) pa_nil))) (pss_one (ps_ret (pe_cmpR op_isN' (pe_call (ok_barring_of T) (hr.mono (by decide)) (by rfl) T.g_barring_of T.F_barring_of.kp (b_barring_of T) .nil pass0 (pa_cons (pv 0) pa_nil)) pe_non (nomark _))))), ?_⟩
  cases e : barF ss with
  | none =>
    rw [e] at hR
    walk_at "go"
    rw [e]
    exact hR
  | some b =>
    rw [e] at hR
    walk_at "go"
    rw [e]
    exact hR
theorem w_fits {M : Ms} {R : DV → Ms → Prop} {ss : List (Int × Int)} (hs : SOk ss) (k : R (.bl (barF ss).isNone) M) : S_fits [.tup (ss.map entD)] M R := ⟨ss, rfl, hs, k⟩
def S_barring_parts : SpecD := fun ds M R => ∃ ss : List (Int × Int), ds = [.tup (ss.map entD)] ∧ SOk ss ∧ R (barD (barF ss)) M
theorem ok_barring_parts (T : Tx K mg A) : FnOk P w K mg base CX0 4 A.f_barring_parts A.d_barring_parts ["sights"] (spD K S_barring_parts) := by
  refine fnD T.F_barring_parts sc_barring_parts (fun ds M R h => by obtain ⟨ss, rfl, _⟩ := h; rfl) fun cdv B up z H E hr ds M R h => ?_
  obtain ⟨ss, rfl, hs, hR⟩ := h
  refine ⟨_, (pss_cons (ps_expr (pe_call (ok_check_sights T) (hr.mono (by decide)) (by rfl) T.g_check_sights T.F_check_sights.kp (b_check_sights T) .nil pass0 (pa_cons (pv 0) pa_nil))) (pss_one (ps_ret (pe_call (ok_barring_of T) (hr.mono (by decide)) (by rfl) T.g_barring_of T.F_barring_of.kp (b_barring_of T) .nil pass0 (pa_cons (pv 0) pa_nil))))), ?_⟩
  walk_at "go"
  exact hR
theorem w_barring_parts {M : Ms} {R : DV → Ms → Prop} {ss : List (Int × Int)} (hs : SOk ss) (k : R (barD (barF ss)) M) : S_barring_parts [.tup (ss.map entD)] M R := ⟨ss, rfl, hs, k⟩
def lvF (ss : List (Int × Int)) (n : Nat) : List Int := (bestF ss n).map (·.1)
def S_least_values : SpecD := fun ds M R => ∃ (ss : List (Int × Int)) (n : Nat), ds = [.tup (ss.map entD), .int n] ∧ SOk ss ∧ n ≤ 24 ∧ R (.tup ((lvF ss n).map .int)) M
theorem ok_least_values (T : Tx K mg A) : FnOk P w K mg base CX0 4 A.f_least_values A.d_least_values ["sights", "count"] (spD K S_least_values) := by
  refine fnD T.F_least_values sc_least_values (fun ds M R h => by obtain ⟨ss, n, rfl, _⟩ := h; rfl) fun cdv B up z H E hr ds M R h => ?_
  obtain ⟨ss, n, rfl, hs, hn, hR⟩ := h
  have hlen := bestF_len (ss := ss) n
  refine ⟨_, (pss_cons (ps_expr (pe_call (ok_check_sights T) (hr.mono (by decide)) (by rfl) T.g_check_sights T.F_check_sights.kp (b_check_sights T) .nil pass0 (pa_cons (pv 0) pa_nil))) (pss_cons (ps_expr (pe_call (ok_check_amount T) (hr.mono (by decide)) (by rfl) T.g_check_amount T.F_check_amount.kp (b_check_amount T) .nil pass0 (pa_cons (pv 1) (pa_cons (pe_glob (v := .int 24) (by rfl) (Classical.choose_spec T.c_MOST_VALUES) ⟨_, rfl⟩) pa_nil)))) (pss_one (ps_ret (pe_callTy (wTupOf K rfl) (by rfl) T.n_tuple (by decide +kernel) (pa_cons (pe_lc (own := [("best", 2), ("parts", 3)]) (g := (gTup K 2 (gCons (gName 2) (gCons (gName 3) gNil)))) rfl sc_least_values.nd (wList K rfl (pe_call (ok_best_parts T) (hr.mono (by decide)) (by rfl) T.g_best_parts T.F_best_parts.kp (b_best_parts T) .nil pass0 (pa_cons (pv 0) (pa_cons (pv 1) pa_nil)))) (blkOk_by (own := [("best", 2), ("parts", 3)]) (N := ["sights", "count", "best", "parts"]) (sc := defScope s_least_values) (by decide +kernel)) (fun _ _ _ _ _ => (wTupG (n := 2) K rfl (pg_tup rfl (pgs_cons (pg_name (i := 2) sc_least_values.nd rfl (.inl rfl)) (pgs_cons (pg_name (i := 3) sc_least_values.nd rfl (.inl rfl)) pgs_nil))))) (fun _ _ _ _ _ => pts_nil) (fun _ _ _ _ _ => (pv 2))) pa_nil)))))), ?_⟩
  walk_at "go"
  refine w_lcLp (xs := bestF ss n) (f := bpD) (fun b : Int × List Int => .int b.1) (by omega) ?_ (bdw_tup (bdws_name (by simp) (bdws_name (by simp) bdws_nil))) (fun b hb => ?_) ?_
  · walk_at "go"
    refine w_best hs rfl hn ?_
    exact ⟨rfl, rfl⟩
  · refine bd_tup (bds_nm (bds_nm (bds_nil ?_))) rfl
    walk_at "go"
    exact ⟨rfl, rfl⟩
  have e1 : (bestF ss n).map (fun b => DV.int b.1) = (lvF ss n).map .int := by unfold lvF; rw [List.map_map]; rfl
  rw [e1]
  walk_at "go"
  exact hR
theorem w_least_values {M : Ms} {R : DV → Ms → Prop} {ss : List (Int × Int)} {n : Nat} {z : Int} (hs : SOk ss) (hz : z = n) (hn : n ≤ 24) (k : R (.tup ((lvF ss n).map .int)) M) : S_least_values [.tup (ss.map entD), .int z] M R := ⟨ss, n, by rw [hz], hs, hn, k⟩

/-! ### drawn sights -/
theorem evr_listRg2C {K : KB} {ρ : Rho} {M : Ms} {ta tb : TE} {a b : Int} {R : DV → Ms → Prop} (h1 : Ev K ta ρ M (.int a)) (h2 : Ev K tb ρ M (.int b)) (a0 : 0 ≤ a) (a1 : a ≤ 100000) (b0 : 0 ≤ b) (b1 : b ≤ 100000) (k : ∀ p, R (.raw (.ref p)) ((p, .lst ((List.range (b - a).toNat).map fun i : Nat => DV.int (a + (i : Nat)))) :: M)) : EvR K (tLstRg (tRg2 ta tb)) ρ M R := fun N F σ H S Q q => h1 N F σ H S _ fun v d M1 F1 H1 e1 ⟨hd, hm⟩ w1 r1 => by
  subst hd hm
  refine h2 N F1 σ H1 ⟨w1, S.e.mono e1, S.bm e1⟩ _ fun v2 d2 M2 F2 H2 e2 ⟨hd2, hm2⟩ w2 r2 => ?_
  subst hd2 hm2
  refine ⟨a, b, r1.int_of, r2.int_of, RgOk.of_le a0 (by omega) (by omega) b0, fun p hp => ?_⟩
  refine q _ _ ((p, .lst ((List.range (b - a).toNat).map fun i : Nat => DV.int (a + (i : Nat)))) :: M2) F2 _ (e1.trans e2) (k p) ((w2.cell hp (mo := .lst ((List.range (b - a).toNat).map fun i : Nat => DV.int (a + (i : Nat)))) ⟨_, upd_same, ?_⟩).perm List.perm_middle) (.raw _)
  exact rpa_rg _
/-- for .. in range(n), n drawn -/
theorem w_for1D {K : KB} {ρ : Rho} {M : Ms} {ta : TA} {g : TG} {t : TS} {P : Post} (lo hi : Nat) (hI : EvAR K ta ρ M fun ds M' => M' = M ∧ ∃ n : Nat, ds = [.int n] ∧ lo ≤ n ∧ n ≤ hi)
    (h : ∀ n : Nat, lo ≤ n → n ≤ hi → XS K (tFor (iRng1 (fun σ H (Q : List V → Hp → Prop) => Q [V.int (n : Nat)] H)) g t) ρ M P) : XS K (tFor (iRng1 ta) g t) ρ M P := fun N F σ H D S e =>
  hI N F σ H S _ fun us ds M1 F1 H1 e1 ⟨hM, n, hd, h1, h2⟩ w1 r1 => by
    subst hd hM
    obtain ⟨u, rfl, ru⟩ := rpa1 r1
    cases ru.int_of
    exact h n h1 h2 N F1 σ H1 D ⟨w1, S.e.mono e1, S.bm e1⟩ (e.mono e1)
theorem w_rgK {K : KB} {ρ : Rho} {M : Ms} {n : Nat} : EvAR K (fun σ H (Q : List V → Hp → Prop) => Q [V.int (n : Nat)] H) ρ M fun ds M' => ds = [.int (n : Nat)] ∧ M' = M := fun N F σ H S Q q => q _ _ M F H (Evl.Ex.refl F) ⟨rfl, rfl⟩ S.w (.cons (.int _) .nil)
def one24 : List Int := (List.range 24).map fun i : Nat => 1 + (i : Int)
theorem one24_nd : one24.Nodup := by decide +kernel
theorem one24_b {k : Int} (h : k ∈ one24) : 1 ≤ k ∧ k ≤ 24 := by
  obtain ⟨i, hi, rfl⟩ := List.mem_map.mp h
  have := List.mem_range.mp hi
  omega
theorem w_lcRA {α : Type} {K : KB} {ρ : Rho} {M : Ms} {wi : TI} {g : TG} {te : TE} {vs : List Nat} {R : DV → Ms → Prop} {n : Nat} {y : Nat → DV} {d0 : α} {f : α → DV} {ok : Nat → α → Prop} (hI : EvI K wi ρ M [] n y fun M' => M' = M) (hn : n ≤ 100000) (hb : BdW g vs)
    (hs : ∀ i, i < n → BdG K g (wipeD ρ vs) M (y i) fun ρ2 M2 => EvR K te ρ2 M2 fun d M' => M' = M ∧ ∃ x, d = f x ∧ ok i x) (kk : ∀ xs : List α, xs.length = n → (∀ i, i < n → ok i (xs.getD i d0)) → R (.lst (xs.map f)) M) : EvR K (tLc wi g tYes te vs) ρ M R := by
  refine evr_lc hI hn (fun i acc M' => M' = M ∧ ∃ xs : List α, acc = xs.map f ∧ xs.length = i ∧ ∀ k, k < i → ok k (xs.getD k d0)) (fun M' e => ⟨e, [], rfl, rfl, fun x h => absurd h (Nat.not_lt_zero _)⟩) (fun _ _ _ _ _ => nil_sub) hb (fun i acc M' hi ⟨hM, xs, ha, hl, hk⟩ => ?_) fun acc M' _ ⟨hM, xs, ha, hl, hk⟩ => ?_
  · subst hM ha
    intro N F' σ H v Q S r q
    refine hs i hi N F' σ H v Q S r fun σ' F2 H' ρ' M2 e1 he S1 => q σ' F2 H' ρ' M2 e1 (etr_yes ?_) S1
    refine he.mono fun d M3 ⟨h4, x, h3, hx⟩ => ⟨h4, xs ++ [x], by rw [List.map_append, h3]; rfl, by rw [List.length_append, hl]; rfl, fun z hz => ?_⟩
    rcases Nat.lt_or_eq_of_le (Nat.le_of_lt_succ hz) with hz | hz
    · rw [List.getD_eq_getElem?_getD, List.getElem?_append_left (by omega), ← List.getD_eq_getElem?_getD]; exact hk z hz
    · rw [hz, List.getD_eq_getElem?_getD, List.getElem?_append_right (by omega), hl, Nat.sub_self]; exact hx
  · subst hM ha
    exact kk xs hl hk
theorem erase_map : ∀ (l : List Int) (i : Nat), (l.map DV.int).eraseIdx i = (l.eraseIdx i).map DV.int
  | [], _ => rfl
  | _ :: _, 0 => rfl
  | x :: l, i + 1 => by
    show DV.int x :: (l.map DV.int).eraseIdx i = DV.int x :: (l.eraseIdx i).map DV.int
    rw [erase_map l i]
theorem erase_perm : ∀ (l : List Int) (i : Nat) (h : i < l.length), (l[i] :: l.eraseIdx i).Perm l
  | x :: l, 0, _ => List.Perm.refl _
  | x :: l, i + 1, h => (List.Perm.swap _ _ _).trans ((erase_perm l i (by simpa using h)).cons x)
theorem sortI_le (l : List Int) : (sortI l).Pairwise (fun a b => decide (a ≤ b) = true) := List.pairwise_mergeSort (le := fun x y : Int => decide (x ≤ y)) (fun a b c h1 h2 => decide_eq_true (Int.le_trans (of_decide_eq_true h1) (of_decide_eq_true h2))) (fun a b => by
  rcases Int.le_total a b with h | h
  · rw [decide_eq_true h]; rfl
  · rw [decide_eq_true h, Bool.or_true]) l
theorem sortI_lt {l : List Int} (h : l.Nodup) : (sortI l).Pairwise (· < ·) := ((sortI_le l).and ((sortI_perm l).nodup_iff.mpr h)).imp fun ⟨h1, h2⟩ => by have := of_decide_eq_true h1; omega
def S_law_sights : SpecD := fun ds M R => ∃ j : Addr, ds = [.raw (.ref j)] ∧ (j, jugO) ∈ M ∧ ∀ ss : List (Int × Int), SOk ss → R (.tx (ss.map entD)) M
theorem ok__law_sights (T : Tx K mg A) : FnOk P w K mg base CX0 3 A.f__law_sights A.d__law_sights ["jug"] (spD K S_law_sights) := by
  refine fnD T.F__law_sights sc__law_sights (fun ds M R h => by obtain ⟨j, rfl, _⟩ := h; rfl) fun cdv B up z H E hr ds M R h => ?_
  obtain ⟨j, rfl, hm, hR⟩ := h
  refine ⟨_, (pss_cons (ps_par (i := 1) (j := 2) rfl sc__law_sights.nd rfl rfl (by decide) rfl rfl (pa_cons (pe_listRg rfl (by rfl) T.n_list (prg_2 (by rfl) T.n_range pe_int pe_int)) (pa_cons (pe_lst pa_nil) pa_nil)) rfl) (pss_cons (ps_for PassesOwn.never rfl (pi_range1 rfl T.n_range (pa_cons (pe_op (wAdd K rfl) pe_int (pe_call (ok__law_pour T) (hr.mono (by decide)) (by rfl) T.g__law_pour T.F__law_pour.kp (b__law_pour T) .nil pass0 (pa_cons (pv 0) (pa_cons pe_int pa_nil)))) pa_nil)) (pg_name (i := 3) sc__law_sights.nd rfl (.inl rfl)) (pss_one (ps_expr (wBm K rfl (pe_bm PySem.F.plainAttrs_list PySem.F.slot_list_append PySem.F.type_list_append mt_append (pv 2) (pa_cons (wBm K rfl (pe_bm PySem.F.plainAttrs_list PySem.F.slot_list_pop PySem.F.type_list_pop mt_popAt (pv 1) (pa_cons (pe_call (ok__law_pour T) (hr.mono (by decide)) (by rfl) T.g__law_pour T.F__law_pour.kp (b__law_pour T) .nil pass0 (pa_cons (pv 0) (pa_cons (pe_callB (wLen K rfl) (by rfl) T.n_len PySem.boot_len (pa_cons (pv 1) pa_nil)) pa_nil))) pa_nil))) pa_nil)))))) (pss_cons (ps_set (i := 4) sc__law_sights.nd rfl (.inr rfl) (pe_call (ok__law_one T) (hr.mono (by decide)) (by rfl) T.g__law_one T.F__law_one.kp (b__law_one T) .nil pass0 (pa_cons (pv 0) (pa_cons (pe_lst (pa_cons pe_int (pa_cons pe_int (pa_cons pe_int pa_nil)))) pa_nil)))) (pss_one (ps_ret (pe_callTy (wTupX K rfl) (by rfl) T.n_tuple (by decide +kernel) (pa_cons (pe_lc (own := [("x", 5)]) rfl sc__law_sights.nd (wList K rfl (pe_callB (wSorted K rfl) (by rfl) T.n_sorted (by decide +kernel) (pa_cons (pv 2) pa_nil))) (blkOk_by (own := [("x", 5)]) (N := ["jug", "pool", "found", "k", "top", "x"]) (sc := defScope s__law_sights) (by decide +kernel)) (fun _ _ _ _ _ => (pg_name (i := 5) sc__law_sights.nd rfl (.inl rfl))) (fun _ _ _ _ _ => pts_nil) (fun _ _ _ _ _ => (pe_tup (pa_cons (pv 5) (pa_cons (pe_op (wMul K rfl) (pe_call (ok__law_pour T) (hr.mono (by decide)) (by rfl) T.g__law_pour T.F__law_pour.kp (b__law_pour T) .nil pass0 (pa_cons (pv 0) (pa_cons (pv 4) pa_nil))) (pe_call (ok__law_one T) (hr.mono (by decide)) (by rfl) T.g__law_one T.F__law_one.kp (b__law_one T) .nil pass0 (pa_cons (pv 0) (pa_cons (pe_lst (pa_cons pe_int (pa_cons pe_int (pa_cons (pv 5) pa_nil)))) pa_nil)))) pa_nil))))) pa_nil))))))), ?_⟩
  refine xs_out ?_
  refine xs_seq (w_par (ear_cons (evr_listRg2C (a := 1) (b := 25) ev_cI ev_cI (by decide) (by decide) (by decide) (by decide) fun pA => ear_cons (evr_lstC (ear_nil ⟨by decide, fun fA => ear_nil ⟨_, _, rfl, ?_⟩⟩)))))
  refine xs_seq (w_for1D 1 6 ?_ fun n n1 n6 => ?_)
  · have hm2 : (j, jugO) ∈ (fA, MO.lst []) :: (pA, MO.lst ((List.range ((25 : Int) - 1).toNat).map fun i : Nat => DV.int (1 + (i : Nat)))) :: M := List.mem_cons_of_mem _ (List.mem_cons_of_mem _ hm)
    refine ear_cons (evr_op (Ev.go ev_cI (evr_pour rfl hm2 ev_cI (by decide) (by decide) fun r r0 r1 => rv_add.go (ear_nil ⟨rfl, (1 + r).toNat, ?_, by omega, by omega⟩))))
    rw [show (((1 + r).toNat : Nat) : Int) = 1 + r by omega]
  refine w_for1M n (by omega) w_rgK (fun i ρ M' => ∃ (x : Option DV) (fd po : List Int), ρ = [some (.raw (.ref j)), some (.raw (.ref pA)), some (.raw (.ref fA)), x, none, none] ∧ M' = (fA, .lst (fd.map .int)) :: (pA, .lst (po.map .int)) :: M ∧ fd.length = i ∧ (fd ++ po).Perm one24) ⟨none, [], one24, rfl, ?_, rfl, List.Perm.refl _⟩ (fun i ρ' M' hi hinv => ?_) fun ρ' M' hinv => ?_
  · rfl
  · obtain ⟨x, fd, po, rfl, rfl, hfl, hp⟩ := hinv
    have hpl : fd.length + po.length = 24 := by rw [← List.length_append, hp.length_eq]; decide
    have hm2 : (j, jugO) ∈ (fA, MO.lst (fd.map .int)) :: (pA, MO.lst (po.map .int)) :: M := List.mem_cons_of_mem _ (List.mem_cons_of_mem _ hm)
    refine xs_drop (evr_append (i := 0) (a := fA) (xs := fd.map .int) (Ev.go (ev_var rfl) ⟨rfl, rfl, by rw [List.length_map]; omega, ear_cons (evr_popAt (i := 1) (a := pA) (xs := po.map .int) (Ev.go (ev_var rfl) ⟨rfl, rfl, ear_cons (evr_pour (n := ((po.map DV.int).length : Nat)) rfl hm2 (ev_cb (ea_cons (ev_var rfl) ea_nil) (rc_lenC (List.mem_cons_of_mem _ List.mem_cons_self))) (by rw [List.length_map]; omega) (by rw [List.length_map]; omega) fun r r0 r1 => ear_nil ?_)⟩))⟩))
    rw [List.length_map] at r1
    have hrl : r.toNat < po.length := by omega
    refine ⟨r.toNat, .int po[r.toNat], by rw [show ((r.toNat : Nat) : Int) = r by omega], by omega, rfl, by rw [List.getElem?_map, List.getElem?_eq_getElem hrl]; rfl, ear_nil ⟨_, rfl, rfl, ?_⟩⟩
    refine ⟨_, fd ++ [po[r.toNat]], po.eraseIdx r.toNat, rfl, ?_, by rw [List.length_append, hfl]; rfl, ?_⟩
    · have e1 : (po.map DV.int).eraseIdx r.toNat = (po.eraseIdx r.toNat).map DV.int := erase_map _ _
      show (fA, MO.lst (fd.map DV.int ++ [DV.int _])) :: (pA, MO.lst ((po.map DV.int).eraseIdx r.toNat)) :: M = _
      rw [e1, List.map_append]; rfl
    · rw [List.append_assoc]
      exact (List.Perm.append_left fd (erase_perm _ _ hrl)).trans hp
  · obtain ⟨x, fd, po, rfl, rfl, hfl, hp⟩ := hinv
    have hnd : fd.Nodup := (List.nodup_append.mp (hp.nodup_iff.mpr one24_nd)).1
    have hb : ∀ k ∈ fd, 1 ≤ k ∧ k ≤ 24 := fun k hk => one24_b (hp.mem_iff.mp (List.mem_append_left _ hk))
    have hm2 : (j, jugO) ∈ (pA, MO.lst (po.map .int)) :: M := List.mem_cons_of_mem _ hm
    refine xs_frzL 2 rfl ?_
    walk_at "go"
    refine ⟨j, _, rfl, hm2, by decide, by decide, fun d hd => ?_⟩
    obtain ⟨top, ht, rfl⟩ : ∃ top, (0 < top ∧ top ≤ 40) ∧ d = .int top := by
      rcases List.mem_cons.mp hd with rfl | hd
      · exact ⟨3, by decide, rfl⟩
      · rcases List.mem_cons.mp hd with rfl | hd
        · exact ⟨8, by decide, rfl⟩
        · rw [List.mem_singleton.mp hd]; exact ⟨40, by decide, rfl⟩
    have hsl : (sortI fd).length = n := ((sortI_perm fd).length_eq).trans hfl
    walk_at "go"
    refine w_lcRA (d0 := (0, 0)) (f := entD) (n := n) (y := nth ((sortI fd).map DV.int)) (ok := fun i e => e.1 = (sortI fd).getD i 0 ∧ 0 ≤ e.2 ∧ e.2 ≤ 1000000) ?_ (by omega) (bdw_name (by simp)) (fun i hi => ?_) fun ps hpl hps => ?_
    · have := ei_lst (K := KB.pure K) (ρ := [some (.raw (.ref j)), some (.raw (.ref pA)), some (.lst (fd.map .int)), x, some (.int top), none]) (M := (pA, MO.lst (po.map .int)) :: M) (te := tCB (rSortedI K) (tCons (tVar 2) tNil)) (ds := (sortI fd).map .int) (RM := fun M' => M' = (pA, MO.lst (po.map .int)) :: M) (Ev.go (ev_cb (ea_cons (ev_var rfl) ea_nil) rc_sortLI) ⟨rfl, rfl⟩)
      rw [List.length_map, hsl] at this
      exact this
    · have hk : nth ((sortI fd).map DV.int) i = .int ((sortI fd).getD i 0) := by
        refine nth_of ?_
        rw [List.getElem?_map, List.getElem?_eq_getElem (by omega), List.getD_eq_getElem?_getD, List.getElem?_eq_getElem (by omega)]; rfl
      rw [hk]
      have hkb := hb ((sortI fd).getD i 0) ((sortI_perm fd).mem_iff.mp (by rw [List.getD_eq_getElem?_getD, List.getElem?_eq_getElem (show i < (sortI fd).length by omega)]; exact List.getElem_mem _))
      refine bd_name (evr_tup (ear_cons (Ev.go (ev_var rfl) (ear_cons (evr_op (evr_pour rfl hm2 (ev_var rfl) (by omega) (by omega) fun r r0 r1 => evr_one rfl hm2 (by walk_at "ev") (by show 0 < 3; decide) (by show 3 < 1000; decide) fun d hd => ?_))))))
      obtain ⟨m, hmm, rfl⟩ : ∃ m, (1 ≤ m ∧ m ≤ 24) ∧ d = .int m := by
        rcases List.mem_cons.mp hd with rfl | hd
        · exact ⟨1, by decide, rfl⟩
        · rcases List.mem_cons.mp hd with rfl | hd
          · exact ⟨1, by decide, rfl⟩
          · rw [List.mem_singleton.mp hd]; exact ⟨_, hkb, rfl⟩
      refine RV.go (rv_mul (.inr (by omega))) (ear_nil ⟨by show 2 ≤ 100000; decide, rfl, ((sortI fd).getD i 0, r * m), rfl, rfl, Int.mul_nonneg r0 (by omega), ?_⟩)
      have : r * m ≤ 40 * 24 := Int.mul_le_mul (by omega) hmm.2 (by omega) (by omega)
      show r * m ≤ 1000000
      omega
    have hmap : ps.map (·.1) = sortI fd := by
      apply List.ext_getElem
      · rw [List.length_map, hpl, hsl]
      · intro i h1 h2
        rw [List.length_map] at h1
        have := (hps i (by omega)).1
        rw [List.getD_eq_getElem?_getD, List.getElem?_eq_getElem h1, List.getD_eq_getElem?_getD, List.getElem?_eq_getElem h2] at this
        rw [List.getElem_map]
        exact this
    have hok : SOk ps := ⟨by omega, by omega, by rw [hmap]; exact sortI_lt hnd, fun e he => by
      obtain ⟨i, hi, rfl⟩ := List.mem_iff_getElem.mp he
      have h3 := (hps i (by omega)).2
      rw [List.getD_eq_getElem?_getD, List.getElem?_eq_getElem hi] at h3
      exact ⟨hb _ ((sortI_perm fd).mem_iff.mp (by rw [← hmap]; exact List.mem_map.mpr ⟨_, he, rfl⟩)), h3⟩⟩
    refine ear_nil (RC.go rc_tupX ?_)
    exact ⟨[(pA, MO.lst (po.map .int))], M, rfl, hR ps hok⟩
/-! ### the law's own greatest sums -/
theorem atI_V {ss : List (Int × Int)} {i k : Nat} {z : Int} (hz : z = k) (hk : k ≤ i) : atI ((lvF ss i).map DV.int) z = some (.int (bAt (bestF ss i) k).1) := by
  subst hz
  refine atI_nat ?_
  unfold lvF
  rw [List.getElem?_map, List.getElem?_map, List.getElem?_eq_getElem (by rw [bestF_len]; omega)]
  show some (DV.int _) = some (DV.int ((bestF ss i).getD k (0, [])).1)
  rw [List.getD_eq_getElem?_getD, List.getElem?_eq_getElem (by rw [bestF_len]; omega)]
  rfl
theorem lv_at {ss : List (Int × Int)} (n k : Nat) : (lvF ss n).getD k 0 = (bAt (bestF ss n) k).1 := by
  unfold lvF bAt
  rw [List.getD_eq_getElem?_getD, List.getD_eq_getElem?_getD, List.getElem?_map]
  cases (bestF ss n)[k]? <;> rfl
theorem lvF_succ {ss : List (Int × Int)} (i : Nat) : lvF ss (i + 1) = lvF ss i ++ [(ss.foldl (stepB (bestF ss i) (i + 1)) (bAt (bestF ss i) i)).1] := by
  unfold lvF
  show (bestF ss i ++ [_]).map _ = _
  rw [List.map_append]; rfl
theorem atI_lastV {ss : List (Int × Int)} : ∀ i, atI ((lvF ss i).map DV.int) (-1) = some (.int (bAt (bestF ss i) i).1)
  | 0 => rfl
  | i + 1 => by
    rw [lvF_succ, List.map_append, List.map_cons, List.map_nil, atI_snB]
    show _ = some (DV.int (bAt (bestF ss i ++ [_]) (i + 1)).1)
    rw [bAt_end (by rw [bestF_len])]
def S_law_least : SpecD := fun ds M R => ∃ (ss : List (Int × Int)) (n : Nat), ds = [.tup (ss.map entD), .int n] ∧ SOk ss ∧ n ≤ 24 ∧ R (.lst ((lvF ss n).map .int)) M
theorem ok__law_least (T : Tx K mg A) : FnOk P w K mg base CX0 1 A.f__law_least A.d__law_least ["sights_here", "size"] (spD K S_law_least) := by
  refine fnD T.F__law_least sc__law_least (fun ds M R h => by obtain ⟨ss, n, rfl, _⟩ := h; rfl) fun cdv B up z H E hr ds M R h => ?_
  obtain ⟨ss, n, rfl, hs, hn, hR⟩ := h
  refine ⟨_, (pss_cons (ps_set (i := 2) sc__law_least.nd rfl (.inr rfl) (pe_lst (pa_cons pe_int pa_nil))) (pss_cons (ps_for PassesOwn.never rfl (pi_range2 rfl T.n_range (pa_cons pe_int (pa_cons (pe_op (wAdd K rfl) (pv 1) pe_int) pa_nil))) (pg_name (i := 3) sc__law_least.nd rfl (.inr rfl)) (pss_cons (ps_set (i := 4) sc__law_least.nd rfl (.inl rfl) (pe_op (wAdd K rfl) (pe_lst (pa_cons (pe_ix (wIx K rfl) (pv 2) (pe_un un_neg pe_int) (fun _ _ => rfl)) pa_nil)) (pe_lc (own := [("amount", 5), ("told", 6)]) (g := (gTup K 2 (gCons (gName 5) (gCons (gName 6) gNil)))) rfl sc__law_least.nd (wTup K rfl (pv 0)) (blkOk_by (own := [("amount", 5), ("told", 6)]) (N := ["sights_here", "size", "found", "x", "some", "amount", "told"]) (sc := defScope s__law_least) (by decide +kernel)) (fun _ _ _ _ _ => (wTupG (n := 2) K rfl (pg_tup rfl (pgs_cons (pg_name (i := 5) sc__law_least.nd rfl (.inl rfl)) (pgs_cons (pg_name (i := 6) sc__law_least.nd rfl (.inl rfl)) pgs_nil))))) (fun _ _ _ _ _ => (pts_one (pt_cmpR op_le (pv 5) (pv 3) (nomark _)))) (fun _ _ _ _ _ => (pe_op (wAdd K rfl) (pe_ix (wIx K rfl) (pv 2) (pe_op op_sub (pv 3) (pv 5)) (fun _ _ => rfl)) (pv 6)))))) (pss_one (ps_expr (wBm K rfl (pe_bm PySem.F.plainAttrs_list PySem.F.slot_list_append PySem.F.type_list_append mt_append (pv 2) (pa_cons (pe_callB (wMaxL K rfl rfl) (by rfl) T.n_max (by decide +kernel) (pa_cons (pv 4) pa_nil)) pa_nil))))))) (pss_one (ps_ret (pv 2))))), ?_⟩
  refine xs_outL (xs_seq (xs_asg (evr_lstC ?_)))
  walk_at "go"
  refine fun p0 => ?_
  walk_at "go"
  refine w_for2M 1 n (by decide) (by omega) ?_ (fun i ρ M' => ∃ x3 x4 x5 x6, ρ = [some (.tup (ss.map entD)), some (.int (n : Nat)), some (.raw (.ref p0)), x3, x4, x5, x6] ∧ M' = (p0, .lst ((lvF ss i).map .int)) :: M) ⟨none, none, none, none, rfl, rfl⟩ (fun i ρ' M' hi hinv => ?_) fun ρ' M' hinv => ?_
  · walk_at "go"
    exact ⟨by rw [show (n : Int) + 1 = 1 + n by omega], rfl⟩
  · obtain ⟨x3, x4, x5, x6, rfl, rfl⟩ := hinv
    have hlen := bestF_len (ss := ss) i
    have hll : (lvF ss i).length = i + 1 := by unfold lvF; rw [List.length_map, hlen]
    have l2 := hs.l2
    have hlast : atI ((lvF ss i).map DV.int) (-1) = some (.int (bAt (bestF ss i) i).1) := atI_lastV i
    walk_at "go"
    refine w_lcTq (xs := ss) (f := entD) (fun e : Int × Int => decide (e.1 ≤ 1 + (i : Int))) (fun e : Int × Int => .int ((bAt (bestF ss i) (i + 1 - e.1.toNat)).1 + e.2)) (by omega) ?_ (bdw_tup (bdws_name (by simp) (bdws_name (by simp) bdws_nil))) (fun e he => ?_) ?_
    · walk_at "go"
      exact ⟨rfl, rfl⟩
    · have hev := hs.hv e he
      refine bd_tup (bds_nm (bds_nm (bds_nil ?_))) rfl
      have hat : e.1 ≤ 1 + (i : Int) → atI ((lvF ss i).map DV.int) (1 + (i : Int) - e.1) = some (.int (bAt (bestF ss i) (i + 1 - e.1.toNat)).1) := fun h => atI_V (by omega) (by omega)
      by_cases hle : e.1 ≤ 1 + (i : Int)
      · have hat2 := hat hle
        rw [decide_eq_true hle]
        walk_at "go"
        refine ⟨decide_eq_true hle, rfl, fun _ => ?_⟩
        walk_at "go"
        rw [show ((1 : Int) + i - e.1).toNat = i + 1 - e.1.toNat by omega, lv_at]
        exact ⟨rfl, rfl⟩
      · rw [decide_eq_false hle]
        walk_at "go"
        exact ⟨decide_eq_false hle, rfl, fun h => nomatch h⟩
    have e1 : ((ss.filter fun e => decide (e.1 ≤ 1 + (i : Int))).map fun e : Int × Int => DV.int ((bAt (bestF ss i) (i + 1 - e.1.toNat)).1 + e.2)) = ((ss.filter fun e => decide (e.1 ≤ 1 + (i : Int))).map fun e : Int × Int => (bAt (bestF ss i) (i + 1 - e.1.toNat)).1 + e.2).map DV.int := by rw [List.map_map]; rfl
    rw [e1]
    have hfl : (ss.filter fun e => decide (e.1 ≤ 1 + (i : Int))).length ≤ ss.length := List.length_filter_le _ _
    walk_at "go"
    refine rcr_maxL (ns := (bAt (bestF ss i) i).1 :: (ss.filter fun e => decide (e.1 ≤ 1 + (i : Int))).map fun e : Int × Int => (bAt (bestF ss i) (i + 1 - e.1.toNat)).1 + e.2) (by rw [List.length_cons]; omega) fun m hm1 hm2 => ?_
    obtain ⟨q1, q2, q3⟩ := fold_best (found := bestF ss i) (a := i + 1) (l := ss) (b := bAt (bestF ss i) i)
    have hmf : m = (ss.foldl (stepB (bestF ss i) (i + 1)) (bAt (bestF ss i) i)).1 := by
      refine Int.le_antisymm ?_ (hm2 _ ?_)
      · rcases List.mem_cons.mp hm1 with rfl | h
        · exact q2
        · obtain ⟨e, he, rfl⟩ := List.mem_map.mp h
          obtain ⟨he1, he2⟩ := List.mem_filter.mp he
          have := of_decide_eq_true he2
          exact q3 e he1 (by omega)
      · rcases q1 with q1 | ⟨e, he, hea, q1⟩
        · rw [q1]; exact List.mem_cons_self
        · rw [q1]
          exact List.mem_cons_of_mem _ (List.mem_map.mpr ⟨e, List.mem_filter.mpr ⟨he, decide_eq_true (by omega)⟩, rfl⟩)
    walk_at "go"
    refine ⟨_, _, _, _, rfl, ?_⟩
    rw [lvF_succ, List.map_append, ← hmf]
    rfl
  · obtain ⟨x3, x4, x5, x6, rfl, rfl⟩ := hinv
    walk_at "go"
    exact ⟨p0, _, [], M, rfl, rfl, hR⟩
theorem w_law_least {M : Ms} {R : DV → Ms → Prop} {ss : List (Int × Int)} {n : Nat} {z : Int} (hs : SOk ss) (hz : z = n) (hn : n ≤ 24) (k : R (.lst ((lvF ss n).map .int)) M) : S_law_least [.tup (ss.map entD), .int z] M R := ⟨ss, n, by rw [hz], hs, hn, k⟩

/-! ### slices of rows of ints -/
theorem cut_to {α : Type} {g : α → DV} {xs : List α} {i : Int} (h : 0 ≤ i ∧ i ≤ xs.length) : cutL (xs.map g) none (some i) = (xs.take i.toNat).map g := by
  unfold cutL
  have e0 : HT.sIx (xs.map g).length 0 none = 0 := rfl
  have e1 : HT.sIx (xs.map g).length (xs.map g).length (some i) = i.toNat := by
    rw [List.length_map]
    show (if i < 0 then (i + xs.length).toNat else min i.toNat xs.length) = _
    rw [if_neg (by omega)]; omega
  rw [e0, e1, List.drop_zero, Nat.sub_zero, List.map_take]
theorem cut_from {α : Type} {g : α → DV} {xs : List α} {i : Int} (h : 0 ≤ i ∧ i ≤ xs.length) : cutL (xs.map g) (some i) none = (xs.drop i.toNat).map g := by
  unfold cutL
  have e0 : HT.sIx (xs.map g).length 0 (some i) = i.toNat := by
    rw [List.length_map]
    show (if i < 0 then (i + xs.length).toNat else min i.toNat xs.length) = _
    rw [if_neg (by omega)]; omega
  have e1 : HT.sIx (xs.map g).length (xs.map g).length none = xs.length := by rw [List.length_map]; rfl
  rw [e0, e1, List.map_drop]
  refine List.take_of_length_le ?_
  rw [List.length_drop, List.length_map]; omega
theorem cut_mid {α : Type} {g : α → DV} {xs : List α} {i j : Int} (h : 0 ≤ i ∧ i ≤ j ∧ j ≤ xs.length) : cutL (xs.map g) (some i) (some j) = ((xs.take j.toNat).drop i.toNat).map g := by
  unfold cutL
  have e0 : HT.sIx (xs.map g).length 0 (some i) = i.toNat := by
    rw [List.length_map]
    show (if i < 0 then (i + xs.length).toNat else min i.toNat xs.length) = _
    rw [if_neg (by omega)]; omega
  have e1 : HT.sIx (xs.map g).length (xs.map g).length (some j) = j.toNat := by
    rw [List.length_map]
    show (if j < 0 then (j + xs.length).toNat else min j.toNat xs.length) = _
    rw [if_neg (by omega)]; omega
  rw [e0, e1, ← List.map_drop, ← List.map_take, List.drop_take]
section
variable {α : Type} {g : α → DV} {xs : List α} {ρ : Rho} {M : Ms} {R : DV → Ms → Prop} {te tl th : TE} {i j : Int}
theorem w_slTto (h : Ev K te ρ M (.tup (xs.map g))) (h1 : Ev K th ρ M (.int i)) (hb : 0 ≤ i ∧ i ≤ xs.length) (k : R (.tup ((xs.take i.toNat).map g)) M) : EvR K (tSl (rSlU K) te tNoPart (tPart th)) ρ M R := (Ev.is (ev_slT h eo_none (eo_some h1)) (by rw [cut_to hb])).go k
theorem w_slTfrom (h : Ev K te ρ M (.tup (xs.map g))) (h1 : Ev K tl ρ M (.int i)) (hb : 0 ≤ i ∧ i ≤ xs.length) (k : R (.tup ((xs.drop i.toNat).map g)) M) : EvR K (tSl (rSlU K) te (tPart tl) tNoPart) ρ M R := (Ev.is (ev_slT h (eo_some h1) eo_none) (by rw [cut_from hb])).go k
theorem w_slTmid (h : Ev K te ρ M (.tup (xs.map g))) (h0 : Ev K tl ρ M (.int i)) (h1 : Ev K th ρ M (.int j)) (hb : 0 ≤ i ∧ i ≤ j ∧ j ≤ xs.length) (k : R (.tup (((xs.take j.toNat).drop i.toNat).map g)) M) : EvR K (tSl (rSlU K) te (tPart tl) (tPart th)) ρ M R := (Ev.is (ev_slT h (eo_some h0) (eo_some h1)) (by rw [cut_mid hb])).go k
theorem w_slLto (h : Ev K te ρ M (.lst (xs.map g))) (h1 : Ev K th ρ M (.int i)) (hb : 0 ≤ i ∧ i ≤ xs.length) (k : R (.lst ((xs.take i.toNat).map g)) M) : EvR K (tSl (rSlU K) te tNoPart (tPart th)) ρ M R := (Ev.is (ev_slL h eo_none (eo_some h1)) (by rw [cut_to hb])).go k
theorem w_slLfrom (h : Ev K te ρ M (.lst (xs.map g))) (h1 : Ev K tl ρ M (.int i)) (hb : 0 ≤ i ∧ i ≤ xs.length) (k : R (.lst ((xs.drop i.toNat).map g)) M) : EvR K (tSl (rSlU K) te (tPart tl) tNoPart) ρ M R := (Ev.is (ev_slL h (eo_some h1) eo_none) (by rw [cut_from hb])).go k
theorem w_slLmid (h : Ev K te ρ M (.lst (xs.map g))) (h0 : Ev K tl ρ M (.int i)) (h1 : Ev K th ρ M (.int j)) (hb : 0 ≤ i ∧ i ≤ j ∧ j ≤ xs.length) (k : R (.lst (((xs.take j.toNat).drop i.toNat).map g)) M) : EvR K (tSl (rSlU K) te (tPart tl) (tPart th)) ρ M R := (Ev.is (ev_slL h (eo_some h0) (eo_some h1)) (by rw [cut_mid hb])).go k
end
local macro_rules | `(tactic| walk_at "st_evr") => `(tactic| first
  | ((with_reducible refine' w_slTto ?aa ?bb ?cc ?_); (case aa => walk_at "ev"); (case bb => walk_at "ev"); (case cc => omega))
  | ((with_reducible refine' w_slTfrom ?aa ?bb ?cc ?_); (case aa => walk_at "ev"); (case bb => walk_at "ev"); (case cc => omega))
  | ((with_reducible refine' w_slTmid ?aa ?bb ?dd ?cc ?_); (case aa => walk_at "ev"); (case bb => walk_at "ev"); (case dd => walk_at "ev"); (case cc => omega))
  | ((with_reducible refine' w_slLto ?aa ?bb ?cc ?_); (case aa => walk_at "ev"); (case bb => walk_at "ev"); (case cc => omega))
  | ((with_reducible refine' w_slLfrom ?aa ?bb ?cc ?_); (case aa => walk_at "ev"); (case bb => walk_at "ev"); (case cc => omega))
  | ((with_reducible refine' w_slLmid ?aa ?bb ?dd ?cc ?_); (case aa => walk_at "ev"); (case bb => walk_at "ev"); (case dd => walk_at "ev"); (case cc => omega)))
local macro_rules | `(tactic| walk_at "ar") => `(tactic| (simp only [List.length_map, List.length_append, List.length_cons, List.length_nil, List.length_range, List.length_replicate, List.length_set, List.length_take, List.length_drop]; omega))

/-! ### the greatest sums, as a function -/
section
variable {ss : List (Int × Int)}
theorem b_stay {n k : Nat} (h : k ≤ n) : bAt (bestF ss n) k = bAt (bestF ss k) k := by
  induction n with
  | zero => rw [Nat.le_zero.mp h]
  | succ n ih =>
    rcases Nat.eq_or_lt_of_le h with rfl | h
    · rfl
    · show bAt (bestF ss n ++ [_]) k = _
      rw [bAt_app (by rw [bestF_len]; omega)]
      exact ih (by omega)
def gF (ss : List (Int × Int)) (k : Nat) : Int := (bAt (bestF ss k) k).1
theorem lv_g {n k : Nat} (h : k ≤ n) : (lvF ss n).getD k 0 = gF ss k := by rw [lv_at, b_stay h]; rfl
theorem g_succ (hs : SOk ss) (x : Nat) : (gF ss (x + 1) = gF ss x ∨ ∃ e ∈ ss, e.1 ≤ ((x + 1 : Nat) : Int) ∧ gF ss (x + 1) = gF ss (x + 1 - e.1.toNat) + e.2) ∧ gF ss x ≤ gF ss (x + 1) ∧ ∀ e ∈ ss, e.1 ≤ ((x + 1 : Nat) : Int) → gF ss (x + 1 - e.1.toNat) + e.2 ≤ gF ss (x + 1) := by
  obtain ⟨q1, q2, q3⟩ := fold_best (found := bestF ss x) (a := x + 1) (l := ss) (b := bAt (bestF ss x) x)
  have hg : gF ss (x + 1) = (ss.foldl (stepB (bestF ss x) (x + 1)) (bAt (bestF ss x) x)).1 := by
    show (bAt (bestF ss x ++ [_]) (x + 1)).1 = _
    rw [bAt_end (by rw [bestF_len])]
  have hc : ∀ e ∈ ss, (candB (bestF ss x) (x + 1) e).1 = gF ss (x + 1 - e.1.toNat) + e.2 := fun e he => by
    have := hs.hv e he
    show (bAt (bestF ss x) (x + 1 - e.1.toNat)).1 + e.2 = _
    rw [b_stay (by omega)]; rfl
  rw [hg]
  refine ⟨?_, q2, fun e he hea => by rw [← hc e he]; exact q3 e he hea⟩
  rcases q1 with q1 | ⟨e, he, hea, q1⟩
  · rw [q1]; exact .inl rfl
  · refine .inr ⟨e, he, hea, ?_⟩
    rw [q1, hc e he]
theorem g_super (hs : SOk ss) : ∀ (m y : Nat), y ≤ m → ∀ z, gF ss y + gF ss z ≤ gF ss (y + z)
  | _, 0, _, z => by
    have : gF ss 0 = 0 := rfl
    rw [this, Nat.zero_add]; omega
  | 0, y + 1, h, _ => absurd h (by omega)
  | m + 1, y + 1, h, z => by
    obtain ⟨q1, _, _⟩ := g_succ hs y
    obtain ⟨_, p2, p3⟩ := g_succ hs (y + z)
    rw [show y + 1 + z = y + z + 1 by omega]
    rcases q1 with q1 | ⟨e, he, hea, q1⟩
    · have := g_super hs m y (by omega) z
      omega
    · have hv := hs.hv e he
      have := g_super hs m (y + 1 - e.1.toNat) (by omega) z
      have h3 := p3 e he (by omega)
      rw [show y + z + 1 - e.1.toNat = y + 1 - e.1.toNat + z by omega] at h3
      omega
theorem g_b (hs : SOk ss) : ∀ (m k : Nat), k ≤ m → 0 ≤ gF ss k ∧ gF ss k ≤ 1000000 * k
  | _, 0, _ => ⟨Int.le_refl _, Int.le_refl _⟩
  | 0, k + 1, h => absurd h (by omega)
  | m + 1, k + 1, h => by
    obtain ⟨q1, q2, _⟩ := g_succ hs k
    have i1 := g_b hs m k (by omega)
    rcases q1 with q1 | ⟨e, he, hea, q1⟩
    · omega
    · have hv := hs.hv e he
      have := g_b hs m (k + 1 - e.1.toNat) (by omega)
      omega
theorem lv_mem {n : Nat} {v : Int} (h : v ∈ lvF ss n) : ∃ k, k ≤ n ∧ v = gF ss k := by
  obtain ⟨i, hi, rfl⟩ := List.mem_iff_getElem.mp h
  have hl : (lvF ss n).length = n + 1 := by unfold lvF; rw [List.length_map, bestF_len]
  refine ⟨i, by omega, ?_⟩
  rw [← lv_g (show i ≤ n by omega), List.getD_eq_getElem?_getD, List.getElem?_eq_getElem hi]; rfl
theorem fit_lv (hs : SOk ss) {n : Nat} (hn : n ≤ 24) : Fit (.lst [.tup ((lvF ss n).map .int), .tup ((lvF ss n).map .int)]) := by
  have hl : (lvF ss n).length = n + 1 := by unfold lvF; rw [List.length_map, bestF_len]
  have f1 : Fs (.tup ((lvF ss n).map .int)) 1 1500 := (Fs.tup (FsA.all (p := 0) (b := 40) (n := 25) (fun d hd => by
    obtain ⟨v, hv, rfl⟩ := List.mem_map.mp hd
    obtain ⟨k, hk, rfl⟩ := lv_mem hv
    have := g_b hs k k (Nat.le_refl _)
    exact (Fs.int ⟨by omega, by omega⟩).le (by decide) (by decide)) (by rw [List.length_map]; omega))).le (by decide) (by decide)
  exact (Fs.lst (FsA.cons f1 (FsA.cons f1 FsA.nil))).fit (by decide) (by decide)
theorem lvF_take {n m : Nat} (h : n ≤ m) : (lvF ss m).take (n + 1) = lvF ss n := by
  induction m with
  | zero => rw [Nat.le_zero.mp h]; rfl
  | succ m ih =>
    rcases Nat.eq_or_lt_of_le h with rfl | h
    · rw [List.take_of_length_le]
      unfold lvF
      rw [List.length_map, bestF_len]
      exact Nat.le_refl _
    · rw [lvF_succ, List.take_append_of_le_length (by unfold lvF; rw [List.length_map, bestF_len]; omega)]
      exact ih (by omega)
theorem bar_p (hs : SOk ss) {e : Int × Int} (he : e ∈ ss) : barP ss e = decide (e.2 < gF ss e.1.toNat) := by
  obtain ⟨el, hel, helm, hed, hmx⟩ := hs.lastA
  have := hmx e he
  unfold barP
  rw [b_stay (by unfold lastA; rw [hed]; omega)]; rfl
def dueF (ss : List (Int × Int)) : Bool := ss.all fun e => decide (gF ss e.1.toNat ≤ e.2)
theorem due_bar (hs : SOk ss) : (barF ss).isNone = dueF ss := by
  unfold barF dueF
  cases e : ss.find? (barP ss) with
  | none =>
    refine (List.all_eq_true.mpr fun x hx => ?_).symm
    have := List.find?_eq_none.mp e x hx
    rw [bar_p hs hx] at this
    exact decide_eq_true (Int.not_lt.mp fun h => this (decide_eq_true h))
  | some x =>
    have hx := List.mem_of_find?_eq_some e
    have hp := List.find?_some e
    rw [bar_p hs hx] at hp
    have hp := of_decide_eq_true hp
    refine (Bool.eq_false_iff.mpr fun h => ?_).symm
    have := of_decide_eq_true (List.all_eq_true.mp h x hx)
    omega
theorem bar_some (hs : SOk ss) {b : Int × List Int} (h : barF ss = some b) : ∃ e ∈ ss, ∃ ps : List Int, b = (e.1, sortI ps) ∧ ps.length ≤ 24 ∧ (∀ p ∈ ps, p ∈ ss.map (·.1)) ∧ ps.sum ≤ e.1 ∧ e.2 < (ps.map (toldOf ss)).sum := by
  unfold barF at h
  cases e : ss.find? (barP ss) with
  | none => rw [e] at h; cases h
  | some x =>
    rw [e] at h
    cases h
    have hx := List.mem_of_find?_eq_some e
    have hp0 := List.find?_some e
    unfold barP at hp0
    have hp := of_decide_eq_true hp0
    have hv := hs.hv x hx
    have hb := bestF_ok hs (lastA ss) x.1.toNat
    refine ⟨x, hx, _, rfl, ?_, hb.sub, ?_, by rw [hb.val]; exact hp⟩
    · have := hb.cnt; omega
    · have := hb.sum; omega
theorem sum_perm {l m : List Int} (h : l.Perm m) : l.sum = m.sum := by
  induction h with
  | nil => rfl
  | cons x _ ih => rw [List.sum_cons, List.sum_cons, ih]
  | swap x y l => rw [List.sum_cons, List.sum_cons, List.sum_cons, List.sum_cons]; omega
  | trans _ _ i1 i2 => exact i1.trans i2
theorem merge_nd : ∀ {l acc : List (Int × Int)}, ((acc ++ l).map (·.1)).Nodup → l.foldl (fun acc p => putI acc p.1 p.2) acc = acc ++ l
  | [], acc, _ => (List.append_nil acc).symm
  | p :: r, acc, h => by
    have hn : getI acc p.1 = none := by
      cases e : getI acc p.1 with
      | none => rfl
      | some v =>
        have h1 := getI_some_iff.mp (show (getI acc p.1).isSome = true by rw [e]; rfl)
        rw [List.map_append] at h
        exact absurd rfl ((List.nodup_append.mp h).2.2 p.1 h1 p.1 (List.mem_map.mpr ⟨p, List.mem_cons_self, rfl⟩))
    rw [List.foldl_cons, putI_new hn, merge_nd (by rw [List.append_assoc]; exact h), List.append_assoc]
    rfl
theorem merge_ss (hs : SOk ss) : mergeI ss = ss := merge_nd (acc := []) hs.nd
end
/-! ### sum(t) of a tuple of ints -/
section
open PySem PySem.Spec PyProof.Rows L2
theorem sum_tupG {prog : Program} {w0 : World} {B : Around} {E : Value → Shared → Prop} {s : Shared} {l : Addr} {xs : Array (Int × Tok)} {Q : Value → Shared → Prop} (hh : B.handled = none) (hl : s.heap.IsTuple l (intItems xs))
    (h : ∀ h' tk t', (∀ b o, s.heap.get? b = some o → h'.get? b = some o) → Q (.int (preSum (numAt xs) xs.size) t') { s with heap := h', toks := tk }) : wpAny (model prog w0) B (call (.builtin "sum") [.ref l]) Q E s := by
  have hlt : l < s.heap.objs.size := by obtain ⟨_, e, _⟩ := hl; exact Heap.lt_size e
  refine call_sum_walkG (wpAny_pyIter_tuple hl ?_)
  refine ⟨_, _, _, _, _, _, numAt xs, rfl, Walks.tuple (A := B.in1) hh s.heap.objs.size l (Nat.ne_of_lt hlt) (intItems xs), ⟨⟨_, Heap.get?_push_size _ rfl, rfl, rfl⟩, hl.push _⟩, fun b hb => ?_, (fun _ _ => intItems_at), fun h' tk t' hk => ?_⟩
  · show b < (s.heap.push _).objs.size
    rw [Heap.size_push]
    rcases List.mem_cons.mp hb with rfl | hb
    · exact Nat.lt_succ_self _
    · rcases List.mem_cons.mp hb with rfl | hb
      · exact Nat.lt_succ_of_lt hlt
      · cases hb
  · have := h h' tk t' fun b o e => hk b o (fun hm => by
      rcases List.mem_cons.mp hm with e1 | hm
      · exact absurd (e1 ▸ Heap.lt_size e) (Nat.lt_irrefl _)
      · cases hm) (Heap.get?_push_of_some _ e)
    simpa [intItems] using this
theorem sum_rawT {prog : Program} {w0 : World} {B : Around} {E : Value → Shared → Prop} {s : Shared} {l : Addr} {its : List Value} {ns : List Int} {Q : Value → Shared → Prop} (hh : B.handled = none) (hl : s.heap.IsTuple l its.toArray) (hi : IntsAre its ns)
    (h : ∀ h' tk t', (∀ b o, s.heap.get? b = some o → h'.get? b = some o) → Q (.int ns.sum t') { s with heap := h', toks := tk }) : wpAny (model prog w0) B (call (.builtin "sum") [.ref l]) Q E s := by
  obtain ⟨xs, e⟩ := hi.allInts.items
  have hn : numsOf (intItems xs).toList = ns := by rw [← e]; exact hi.numsOf
  rw [nums_intItems] at hn
  rw [e] at hl
  refine sum_tupG hh hl fun h' tk t' hk => ?_
  have := h h' tk t' hk
  rw [preSum_eq, List.take_of_length_le (by simp), hn]; exact this
def rSumT (K : PySem.W.Frag) : List V → Hp → VK → Prop := fun vs H Q => ∃ (a : Addr) (ns : List Int), vs = [V.ref a] ∧ SqT K H a (ns.map V.int) ∧ Q (.int ns.sum) H
theorem wSumT {X : Cx} (K : PySem.W.Frag) (hK : X.K = K) (hc : X.calm = true) : CallR X (.builtin "sum") (rSumT K) := by
  subst hK
  intro pins s σ H vs us Q I r h
  obtain ⟨a, ns, rfl, hs, q⟩ := h
  obtain ⟨its, rv, hl, _⟩ := I.tuple hs
  rw [Vals.ref1 r]
  exact sum_rawT (I.ok.hd hc) hl rv.ints fun h' tk t' hk => ⟨.int _, H, I.kept hk, ⟨_, rfl⟩, q⟩
theorem rc_sumT {K : PySem.W.Frag} {M : Ms} {ns : List Int} : RC K (rSumT K) [.tup (ns.map DV.int)] M (.int ns.sum) := fun N F us H w hr Q q => by
  obtain ⟨u, rfl, r1⟩ := rpa1 hr
  obtain ⟨a, xs, rfl, ha, ra⟩ := r1.tup_of
  exact ⟨a, ns, rfl, by rw [← ra.ints_of]; exact Evl.ex_t w.fr ha, q _ _ M F H (Evl.Ex.refl F) ⟨rfl, rfl⟩ w (.int _)⟩
end
local macro_rules | `(tactic| walk_at "spc") => `(tactic| first
  | ((with_reducible refine' w_fits ?aa ?_); (case' aa => try assumption))
  | ((with_reducible refine' w_barring_parts ?aa ?_); (case' aa => try assumption)))
def S_right (A : Ad) : SpecD := fun ds M R => ∃ j : Addr, ds = [.raw (.ref j)] ∧ (j, jugO) ∈ M ∧ (∀ t ∈ tabsOf A, (t.1, MO.tab t.2) ∈ M) ∧ R (.bl true) M
theorem ok__law_right (T : Tx K mg A) : FnG P w K mg base CX0 5 A.f__law_right A.d__law_right ["jug"] (spD K (S_right A)) := by
  refine fnDG T.F__law_right sc__law_right (fun ds M R h => by obtain ⟨j, rfl, _⟩ := h; rfl) fun cdv B up z H E hG hr ds M R h => ?_
  obtain ⟨j, rfl, hm, _, hR⟩ := h
  refine ⟨_, (pss_cons (ps_for PassesOwn.never rfl (pi_range1 rfl T.n_range (pa_cons pe_int pa_nil)) (pg_name (i := 1) sc__law_right.nd rfl (.inl rfl)) (pss_cons (ps_set (i := 2) sc__law_right.nd rfl (.inl rfl) (pe_call (ok__law_sights T) (hr.mono (by decide)) (by rfl) T.g__law_sights T.F__law_sights.kp (b__law_sights T) .nil pass0 (pa_cons (pv 0) pa_nil))) (pss_cons (ps_asg (pe_tup (pa_cons (pe_call (ok__law_least T) (hr.mono (by decide)) (by rfl) T.g__law_least T.F__law_least.kp (b__law_least T) .nil pass0 (pa_cons (pv 2) (pa_cons pe_int pa_nil))) (pa_cons (pe_callTy (wDictT K rfl rfl) (by rfl) T.n_dict (by decide +kernel) (pa_cons (pv 2) pa_nil)) pa_nil))) (wTupG (n := 2) K rfl (pg_tup rfl (pgs_cons (pg_name (i := 3) sc__law_right.nd rfl (.inr rfl)) (pgs_cons (pg_name (i := 4) sc__law_right.nd rfl (.inr rfl)) pgs_nil))))) (pss_cons (ps_set (i := 5) sc__law_right.nd rfl (.inl rfl) (pe_callB (wAll K rfl rfl) (by rfl) T.n_all (by decide +kernel) (pa_cons (pe_lc (own := [("amount", 6), ("told", 7)]) (g := (gTup K 2 (gCons (gName 6) (gCons (gName 7) gNil)))) rfl sc__law_right.nd (wTup K rfl (pv 2)) (blkOk_by (own := [("amount", 6), ("told", 7)]) (N := ["jug", "again", "sights_here", "found", "value_of", "due", "amount", "told", "pair", "size", "whole", "parts_here", "part", "x", "y"]) (sc := defScope s__law_right) (by decide +kernel)) (fun _ _ _ _ _ => (wTupG (n := 2) K rfl (pg_tup rfl (pgs_cons (pg_name (i := 6) sc__law_right.nd rfl (.inl rfl)) (pgs_cons (pg_name (i := 7) sc__law_right.nd rfl (.inl rfl)) pgs_nil))))) (fun _ _ _ _ _ => pts_nil) (fun _ _ _ _ _ => (pe_cmpR op_le (pe_ix (wIx K rfl) (pv 3) (pv 6) (fun _ _ => rfl)) (pv 7) (nomark _)))) pa_nil))) (pss_cons (ps_if (pt_cmpR (wNe K rfl hr) (pe_callB (wRepr K rfl hG hr) (by rfl) T.n_repr (by decide +kernel) (pa_cons (pe_lst (pa_cons (pe_call (ok_fits T) (hr.mono (by decide)) (by rfl) T.g_fits T.F_fits.kp (b_fits T) .nil pass0 (pa_cons (pv 2) pa_nil)) (pa_cons (pe_callK0 (ok_fits T) (hr.mono (by decide)) (by rfl) T.g_fits T.F_fits.kp (kbinds_mk (ks := ["sights"]) (n := 0) (m := 1) (perm := [0]) T.F_fits (by decide) (fun _ _ _ _ _ _ us ws h1 h2 => match us, h1, ws, h2 with | [], _, [_], _ => rfl)) pass0 (pk_cons (pv 2) pk_nil)) pa_nil))) pa_nil)) (pe_callB (wRepr K rfl hG hr) (by rfl) T.n_repr (by decide +kernel) (pa_cons (pe_lst (pa_cons (pv 5) (pa_cons (pv 5) pa_nil))) pa_nil)) (nomark _)) (pss_one (ps_ret pe_bl)) pss_nil) (pss_cons (ps_par (i := 8) (j := 9) rfl sc__law_right.nd rfl rfl (by decide) rfl rfl (pa_cons (pe_call (ok_barring_parts T) (hr.mono (by decide)) (by rfl) T.g_barring_parts T.F_barring_parts.kp (b_barring_parts T) .nil pass0 (pa_cons (pv 2) pa_nil)) (pa_cons (pe_call (ok__law_pour T) (hr.mono (by decide)) (by rfl) T.g__law_pour T.F__law_pour.kp (b__law_pour T) .nil pass0 (pa_cons (pv 0) (pa_cons pe_int pa_nil))) pa_nil)) rfl) (pss_cons (ps_if (PW.pt (pw_or (pt_cmpR (wNe K rfl hr) (pe_cmpR op_isN' (pv 8) pe_non (nomark _)) (pv 5) (nomark _)) (pw_or1 (pt_cmpR (wNe K rfl hr) (pe_callB (wRepr K rfl hG hr) (by rfl) T.n_repr (by decide +kernel) (pa_cons (pe_callK0 (ok_barring_parts T) (hr.mono (by decide)) (by rfl) T.g_barring_parts T.F_barring_parts.kp (kbinds_mk (ks := ["sights"]) (n := 0) (m := 1) (perm := [0]) T.F_barring_parts (by decide) (fun _ _ _ _ _ _ us ws h1 h2 => match us, h1, ws, h2 with | [], _, [_], _ => rfl)) pass0 (pk_cons (pv 2) pk_nil)) pa_nil)) (pe_callB (wRepr K rfl hG hr) (by rfl) T.n_repr (by decide +kernel) (pa_cons (pv 8) pa_nil)) (nomark _))))) (pss_one (ps_ret pe_bl)) pss_nil) (pss_cons (ps_if (pt_cmpR op_notN' (pv 8) pe_non (nomark _)) (pss_cons (ps_asg (pv 8) (wTupG (n := 2) K rfl (pg_tup rfl (pgs_cons (pg_name (i := 10) sc__law_right.nd rfl (.inl rfl)) (pgs_cons (pg_name (i := 11) sc__law_right.nd rfl (.inl rfl)) pgs_nil))))) (pss_cons (ps_if (PW.pt (pw_or (pt_cmp (pc_dnotin (hu_of hr) (pv 10) (pv 4)) (by rfl)) (pw_or1 (pt_not (pt_val (pe_callB (wAll K rfl rfl) (by rfl) T.n_all (by decide +kernel) (pa_cons (pe_lc (own := [("part", 12)]) rfl sc__law_right.nd (wTup K rfl (pv 11)) (blkOk_by (own := [("part", 12)]) (N := ["jug", "again", "sights_here", "found", "value_of", "due", "amount", "told", "pair", "size", "whole", "parts_here", "part", "x", "y"]) (sc := defScope s__law_right) (by decide +kernel)) (fun _ _ _ _ _ => (pg_name (i := 12) sc__law_right.nd rfl (.inl rfl))) (fun _ _ _ _ _ => pts_nil) (fun _ _ _ _ _ => (pe_cmp (pc_din (hu_of hr) (pv 12) (pv 4)) (by rfl)))) pa_nil))))))) (pss_one (ps_ret pe_bl)) pss_nil) (pss_cons (ps_if (PW.pt (pw_or (pt_cmpR (wNe K rfl hr) (pe_callTy (wListOf K rfl) (by rfl) T.n_list (by decide +kernel) (pa_cons (pv 11) pa_nil)) (pe_callB (wSortTI K rfl hr) (by rfl) T.n_sorted (by decide +kernel) (pa_cons (pv 11) pa_nil)) (nomark _)) (pw_or (pt_cmpR op_gt (pe_callB (wSumT K rfl rfl) (by rfl) T.n_sum (by decide +kernel) (pa_cons (pv 11) pa_nil)) (pv 10) (nomark _)) (pw_or1 (pt_not (pt_val (pe_callB (wIsi K rfl) (by rfl) T.n_isinstance (by decide +kernel) (pa_cons (pv 11) (pa_cons (pe_bltn (v := .ty "tuple") (by rfl) T.n_tuple (by decide +kernel) rfl) pa_nil))))))))) (pss_one (ps_ret pe_bl)) pss_nil) (pss_one (ps_if (pt_cmpR op_le (pe_callB (wSum K rfl rfl) (by rfl) T.n_sum (by decide +kernel) (pa_cons (pe_lc (own := [("part", 12)]) rfl sc__law_right.nd (wTup K rfl (pv 11)) (blkOk_by (own := [("part", 12)]) (N := ["jug", "again", "sights_here", "found", "value_of", "due", "amount", "told", "pair", "size", "whole", "parts_here", "part", "x", "y"]) (sc := defScope s__law_right) (by decide +kernel)) (fun _ _ _ _ _ => (pg_name (i := 12) sc__law_right.nd rfl (.inl rfl))) (fun _ _ _ _ _ => pts_nil) (fun _ _ _ _ _ => (pe_dget (hu_of hr) (pv 4) (pv 12) (fun _ _ => rfl)))) pa_nil)) (pe_dget (hu_of hr) (pv 4) (pv 10) (fun _ _ => rfl)) (nomark _)) (pss_one (ps_ret pe_bl)) pss_nil))))) pss_nil) (pss_cons (ps_set (i := 7) sc__law_right.nd rfl (.inl rfl) (pe_lst (pa_cons (pe_call (ok_least_values T) (hr.mono (by decide)) (by rfl) T.g_least_values T.F_least_values.kp (b_least_values T) .nil pass0 (pa_cons (pv 2) (pa_cons (pv 9) pa_nil))) (pa_cons (pe_callK0 (ok_least_values T) (hr.mono (by decide)) (by rfl) T.g_least_values T.F_least_values.kp (kbinds_mk (ks := ["count", "sights"]) (n := 0) (m := 2) (perm := [1, 0]) T.F_least_values (by decide) (fun _ _ _ _ _ _ us ws h1 h2 => match us, h1, ws, h2 with | [], _, [_, _], _ => rfl)) pass0 (pk_cons (pv 9) (pk_cons (pv 2) pk_nil))) pa_nil)))) (pss_cons (ps_if (pt_cmpR (wNe K rfl hr) (pe_callB (wRepr K rfl hG hr) (by rfl) T.n_repr (by decide +kernel) (pa_cons (pv 7) pa_nil)) (pe_callB (wRepr K rfl hG hr) (by rfl) T.n_repr (by decide +kernel) (pa_cons (pe_op (wMul K rfl) (pe_lst (pa_cons (pe_callTy (wTupOf K rfl) (by rfl) T.n_tuple (by decide +kernel) (pa_cons (pe_slice (wSl K rfl) (pv 3) po_none (po_some (pe_op (wAdd K rfl) (pv 9) pe_int))) pa_nil)) pa_nil)) pe_int) pa_nil)) (nomark _)) (pss_one (ps_ret pe_bl)) pss_nil) (pss_one (ps_for PassesOwn.never rfl (pi_range1 rfl T.n_range (pa_cons pe_int pa_nil)) (pg_name (i := 13) sc__law_right.nd rfl (.inr rfl)) (pss_one (ps_if (pt_val (pe_callB (wAny K rfl rfl) (by rfl) T.n_any (by decide +kernel) (pa_cons (pe_lc (own := [("y", 14)]) rfl sc__law_right.nd (pi_range1 rfl T.n_range (pa_cons (pe_op (wAdd K rfl) (pv 13) pe_int) pa_nil)) (blkOk_by (own := [("y", 14)]) (N := ["jug", "again", "sights_here", "found", "value_of", "due", "amount", "told", "pair", "size", "whole", "parts_here", "part", "x", "y"]) (sc := defScope s__law_right) (by decide +kernel)) (fun _ _ _ _ _ => (pg_name (i := 14) sc__law_right.nd rfl (.inl rfl))) (fun _ _ _ _ _ => pts_nil) (fun _ _ _ _ _ => (pe_cmpR op_gt (pe_op (wAdd K rfl) (pe_ix (wIx K rfl) (pv 3) (pv 14) (fun _ _ => rfl)) (pe_ix (wIx K rfl) (pv 3) (pe_op op_sub (pv 13) (pv 14)) (fun _ _ => rfl))) (pe_ix (wIx K rfl) (pv 3) (pv 13) (fun _ _ => rfl)) (nomark _)))) pa_nil))) (pss_one (ps_ret pe_bl)) pss_nil)))))))))))))) (pss_one (ps_ret pe_bl))), ?_⟩
  refine xs_out ?_
  walk_at "go"
  refine w_for1M 4 (by decide) ?_ (fun i ρ' M' => (∃ v1 v2 v3 v4 v5 v6 v7 v8 v9 v10 v11 v12 v13 v14, ρ' = [some (.raw (.ref j)), v1, v2, v3, v4, v5, v6, v7, v8, v9, v10, v11, v12, v13, v14]) ∧ ∃ C, M' = C ++ M) ⟨⟨none, none, none, none, none, none, none, none, none, none, none, none, none, none, rfl⟩, [], rfl⟩ (fun i ρ' M' hi hinv => ?_) fun ρ' M' hinv => ?_
  · walk_at "go"
    exact w_rg1 rfl
  · obtain ⟨⟨v1, v2, v3, v4, v5, v6, v7, v8, v9, v10, v11, v12, v13, v14, rfl⟩, C, rfl⟩ := hinv
    have hm1 : (j, jugO) ∈ C ++ M := List.mem_append_right _ hm
    walk_at "go"
    refine ⟨j, rfl, hm1, fun ss hs => ?_⟩
    have l1 := hs.l1; have l2 := hs.l2
    refine bd_name ?_
    refine (show XS _ _ _ _ _ from xs_seq (xs_asg (evr_tup (ear_cons (evr_call (ear_cons ?_))))))
    refine evr_varX (ds := ss.map entD) (by exact rfl) ?_
    refine ear_cons (Ev.go ev_cI (ear_nil ?_))
    refine w_law_least (n := 24) hs rfl (by decide) ?_
    obtain ⟨hlv, hlg, hlt⟩ : (lvF ss 24).length = 25 ∧ (∀ k, k ≤ 24 → (lvF ss 24).getD k 0 = gF ss k) ∧ ∀ k, k ≤ 24 → (lvF ss 24).take (k + 1) = lvF ss k := ⟨by unfold lvF; rw [List.length_map, bestF_len], fun k hk => lv_g hk, fun k hk => lvF_take hk⟩
    generalize lvF ss 24 = fl at hlv hlg hlt ⊢
    refine ear_cons (evr_cb (ear_cons (Ev.go (ev_var rfl) (ear_nil (rcr_dictT (kvs := ss) (by omega) fun p => ear_nil ⟨by show 2 ≤ 100000; decide, bd_tup (bds_nm (bds_nm (bds_nil ?_))) rfl⟩)))))
    refine xs_weakX (i := 2) (ds := ss.map entD) rfl ?_
    rw [merge_ss hs]
    have hm2 : (j, jugO) ∈ (p, MO.dK (kdI ss)) :: (C ++ M) := List.mem_cons_of_mem _ hm1
    walk_at "go"
    refine w_lcTp (xs := ss) (f := entD) (fun e : Int × Int => .bl (decide (gF ss e.1.toNat ≤ e.2))) (by omega) ?_ (bdw_tup (bdws_name (by simp) (bdws_name (by simp) bdws_nil))) (fun e he => ?_) ?_
    · walk_at "go"
      exact ⟨rfl, rfl⟩
    · have hev := hs.hv e he
      refine bd_tup (bds_nm (bds_nm (bds_nil ?_))) rfl
      walk_at "go"
      rw [hlg _ (by omega)]
      exact ⟨rfl, rfl⟩
    have hb1 : ss.map (fun e : Int × Int => DV.bl (decide (gF ss e.1.toNat ≤ e.2))) = (ss.map fun e : Int × Int => decide (gF ss e.1.toNat ≤ e.2)).map DV.bl := by rw [List.map_map]; rfl
    rw [hb1]
    have hall : ((ss.map fun e : Int × Int => decide (gF ss e.1.toNat ≤ e.2)).all fun x => x) = (barF ss).isNone := by rw [due_bar hs]; unfold dueF; rw [List.all_map]; rfl
    walk_at "go"
    rw [hall]
    have ffb : ∀ b : Bool, Fit (.lst [.bl b, .bl b]) := fun b => (Fs.lst (FsA.cons Fs.bl (FsA.cons Fs.bl FsA.nil))).fit (by decide) (by decide)
    have fN : Fit .non := ⟨rfl, by decide, by decide⟩
    cases hbar : barF ss with
    | none =>
      have fft := ffb true
      refine w_fits hs ?_
      rw [hbar]
      show EvAR _ _ _ _ _
      walk_at "go"
      refine ⟨j, 25, rfl, hm2, by decide, by decide, fun sz s0 s1 => ?_⟩
      rw [hbar]
      show EvAR _ _ _ _ _
      walk_at "go"
      refine w_barring_parts hs ?_
      rw [hbar]
      show EvAR _ _ _ _ _
      walk_at "go"
      refine w_least_values (n := sz.toNat) hs (by omega) (by omega) ?_
      walk_at "go"
      refine w_least_values (n := sz.toNat) hs (by omega) (by omega) ?_
      have ffl := fit_lv hs (n := sz.toNat) (by omega)
      have hcut : fl.take (sz + 1).toNat = lvF ss sz.toNat := by rw [show (sz + 1).toNat = sz.toNat + 1 by omega, hlt _ (by omega)]
      have ffc : Fit (.lst [.tup ((fl.take (sz + 1).toNat).map .int), .tup ((fl.take (sz + 1).toNat).map .int)]) := by rw [hcut]; exact ffl
      walk_at "go"
      all_goals first
        | (exfalso; rename_i hh; exact hh (by rw [hcut]))
        | skip
      refine (show XS _ _ _ _ _ from w_for1M 25 (by decide) ?_ (fun x ρ' M2 => (∃ w1 w2 w4 w5 w6 w7 w8 w9 w10 w11 w12 w13 w14, ρ' = [some (.raw (.ref j)), w1, w2, some (.lst (fl.map .int)), w4, w5, w6, w7, w8, w9, w10, w11, w12, w13, w14]) ∧ M2 = (p, MO.dK (kdI ss)) :: (C ++ M)) ⟨⟨_, _, _, _, _, _, _, _, _, _, _, _, _, rfl⟩, rfl⟩ (fun x ρ' M2 hx hinv => ?_) fun ρ' M2 hinv => ?_)
      · walk_at "go"
        exact w_rg1 rfl
      · obtain ⟨⟨w1, w2, w4, w5, w6, w7, w8, w9, w10, w11, w12, w13, w14, rfl⟩, rfl⟩ := hinv
        walk_at "go"
        refine w_lc1 (x + 1) (fun _ => .bl false) (by omega) ?_ (fun y hy => ?_) ?_
        · walk_at "go"
          exact w_rg1 (by omega)
        · have hsup := g_super hs y y (Nat.le_refl _) (x - y)
          rw [show y + (x - y) = x by omega] at hsup
          have a1 := hlg y (by omega)
          have a2 := hlg (x - y) (by omega)
          have a3 := hlg x (by omega)
          walk_at "go"
          rw [Int.toNat_natCast, Int.toNat_natCast, show ((x : Int) - (y : Int)).toNat = x - y by omega, a1, a2, a3]
          exact ⟨by rw [decide_eq_false (by omega)], rfl⟩
        have hb3 : (List.range (x + 1)).map (fun _ => DV.bl false) = ((List.range (x + 1)).map fun _ => false).map DV.bl := by rw [List.map_map]; rfl
        rw [hb3]
        have hb4 : (((List.range (x + 1)).map fun _ => false).any fun x => x) = false := by
          rw [List.any_map]
          exact List.any_eq_false.mpr fun _ _ h => nomatch h
        walk_at "go"
        all_goals first
          | exact ⟨⟨_, _, _, _, _, _, _, _, _, _, _, _, _, rfl⟩, rfl⟩
          | (rename_i hh; exact absurd (hb4.symm.trans hh) (by decide))
      · obtain ⟨⟨w1, w2, w4, w5, w6, w7, w8, w9, w10, w11, w12, w13, w14, rfl⟩, rfl⟩ := hinv
        exact ⟨⟨_, _, _, _, _, _, _, _, _, _, _, _, _, _, rfl⟩, (p, MO.dK (kdI ss)) :: C, rfl⟩
    | some b =>
      have fff := ffb false
      refine w_fits hs ?_
      rw [hbar]
      obtain ⟨e, he, ps, rfl, hpl, hpm, hps, hpv⟩ := bar_some hs hbar
      have hev := hs.hv e he
      have hsl : (sortI ps).length = ps.length := (sortI_perm ps).length_eq
      have fbp : Fit (bpD (e.1, sortI ps)) := by
        have f1 : Fs (.tup ((sortI ps).map .int)) 1 1500 := (Fs.tup (FsA.all (p := 0) (b := 40) (n := 25) (fun d hd => by
          obtain ⟨v, hv, rfl⟩ := List.mem_map.mp hd
          obtain ⟨q, hq, hqe⟩ := List.mem_map.mp (hpm v ((sortI_perm ps).mem_iff.mp hv))
          have := hs.hv q hq
          exact (Fs.int ⟨by omega, by omega⟩).le (by decide) (by decide)) (by rw [List.length_map]; omega))).le (by decide) (by decide)
        exact (Fs.tup (FsA.cons (Fs.int ⟨by omega, by omega⟩) (FsA.cons f1 FsA.nil))).fit (by decide) (by decide)
      show EvAR _ _ _ _ _
      walk_at "go"
      refine ⟨j, 25, rfl, hm2, by decide, by decide, fun sz s0 s1 => ?_⟩
      rw [hbar]
      show EvAR _ _ _ _ _
      walk_at "go"
      refine w_barring_parts hs ?_
      rw [hbar]
      show EvAR _ _ _ _ _
      walk_at "go"
      refine bd_tup (bds_nm (bds_nm (bds_nil ?_))) rfl
      have hge : getI ss e.1 = some e.2 := getI_nd hs.nd he
      have hgs : (getI ss e.1).isSome = true := by rw [hge]; rfl
      walk_at "go"
      rotate_left
      · rename_i hh
        exact absurd (hgs.symm.trans hh) (by decide)
      have hin : ∀ k ∈ sortI ps, (getI ss k).isSome = true := fun k hk => getI_some_iff.mpr (hpm k ((sortI_perm ps).mem_iff.mp hk))
      refine w_lcTp (xs := sortI ps) (f := DV.int) (fun _ => .bl true) (by omega) ?_ (bdw_name (by simp)) (fun k hk => ?_) ?_
      · walk_at "go"
        exact ⟨rfl, rfl⟩
      · have hk2 := hin k hk
        walk_at "go"
        rw [hk2]
        exact ⟨rfl, rfl⟩
      have hb5 : (sortI ps).map (fun _ => DV.bl true) = ((sortI ps).map fun _ => true).map DV.bl := by rw [List.map_map]; rfl
      rw [hb5]
      have hb6 : (((sortI ps).map fun _ => true).all fun x => x) = true := List.all_eq_true.mpr fun x hx => by
        obtain ⟨_, _, rfl⟩ := List.mem_map.mp hx
        rfl
      walk_at "go"
      rotate_left
      · rename_i hh
        exact absurd (hb6.symm.trans hh) (by decide)
      have hid : sortI (sortI ps) = sortI ps := List.Perm.eq_of_pairwise (le := fun a b : Int => decide (a ≤ b) = true) (fun a b _ _ h1 h2 => Int.le_antisymm (of_decide_eq_true h1) (of_decide_eq_true h2)) (sortI_le _) (sortI_le _) (sortI_perm _)
      have fll : Fit (.lst ((sortI ps).map .int)) := (Fs.lst (FsA.all (p := 0) (b := 40) (n := 25) (fun d hd => by
        obtain ⟨v, hv, rfl⟩ := List.mem_map.mp hd
        obtain ⟨q, hq, hqe⟩ := List.mem_map.mp (hpm v ((sortI_perm ps).mem_iff.mp hv))
        have := hs.hv q hq
        exact (Fs.int ⟨by omega, by omega⟩).le (by decide) (by decide)) (by rw [List.length_map]; omega))).fit (by decide) (by decide)
      refine RC.go (rc_sortTI (ns := sortI ps) (by omega)) ?_
      rw [hid]
      have hsum : (sortI ps).sum ≤ e.1 := by rw [sum_perm (sortI_perm ps)]; exact hps
      walk_at "go"
      refine RC.go (rc_sumT (ns := sortI ps)) ?_
      walk_at "go"
      refine w_lcTp (xs := sortI ps) (f := DV.int) (fun k => .int (toldOf ss k)) (by omega) ?_ (bdw_name (by simp)) (fun k hk => ?_) ?_
      · walk_at "go"
        exact ⟨rfl, rfl⟩
      · obtain ⟨v, hv⟩ := Option.isSome_iff_exists.mp (hin k hk)
        have hvt : toldOf ss k = v := by unfold toldOf; rw [hv]; rfl
        walk_at "go"
        rw [hvt]
        exact ⟨rfl, rfl⟩
      have hb7 : (sortI ps).map (fun k => DV.int (toldOf ss k)) = ((sortI ps).map (toldOf ss)).map DV.int := by rw [List.map_map]; rfl
      rw [hb7]
      have hge2 : getI ss (e.1, sortI ps).1 = some e.2 := hge
      have hgt : e.2 < ((sortI ps).map (toldOf ss)).sum := by rw [sum_perm ((sortI_perm ps).map _)]; exact hpv
      walk_at "go"
      refine w_least_values (n := sz.toNat) hs (by omega) (by omega) ?_
      walk_at "go"
      refine w_least_values (n := sz.toNat) hs (by omega) (by omega) ?_
      have ffl := fit_lv hs (n := sz.toNat) (by omega)
      have hcut : fl.take (sz + 1).toNat = lvF ss sz.toNat := by rw [show (sz + 1).toNat = sz.toNat + 1 by omega, hlt _ (by omega)]
      have ffc : Fit (.lst [.tup ((fl.take (sz + 1).toNat).map .int), .tup ((fl.take (sz + 1).toNat).map .int)]) := by rw [hcut]; exact ffl
      walk_at "go"
      all_goals first
        | (exfalso; rename_i hh; exact hh (by rw [hcut]))
        | skip
      refine (show XS _ _ _ _ _ from w_for1M 25 (by decide) ?_ (fun x ρ' M2 => (∃ w1 w2 w4 w5 w6 w7 w8 w9 w10 w11 w12 w13 w14, ρ' = [some (.raw (.ref j)), w1, w2, some (.lst (fl.map .int)), w4, w5, w6, w7, w8, w9, w10, w11, w12, w13, w14]) ∧ M2 = (p, MO.dK (kdI ss)) :: (C ++ M)) ⟨⟨_, _, _, _, _, _, _, _, _, _, _, _, _, rfl⟩, rfl⟩ (fun x ρ' M2 hx hinv => ?_) fun ρ' M2 hinv => ?_)
      · walk_at "go"
        exact w_rg1 rfl
      · obtain ⟨⟨w1, w2, w4, w5, w6, w7, w8, w9, w10, w11, w12, w13, w14, rfl⟩, rfl⟩ := hinv
        walk_at "go"
        refine w_lc1 (x + 1) (fun _ => .bl false) (by omega) ?_ (fun y hy => ?_) ?_
        · walk_at "go"
          exact w_rg1 (by omega)
        · have hsup := g_super hs y y (Nat.le_refl _) (x - y)
          rw [show y + (x - y) = x by omega] at hsup
          have a1 := hlg y (by omega)
          have a2 := hlg (x - y) (by omega)
          have a3 := hlg x (by omega)
          walk_at "go"
          rw [Int.toNat_natCast, Int.toNat_natCast, show ((x : Int) - (y : Int)).toNat = x - y by omega, a1, a2, a3]
          exact ⟨by rw [decide_eq_false (by omega)], rfl⟩
        have hb3 : (List.range (x + 1)).map (fun _ => DV.bl false) = ((List.range (x + 1)).map fun _ => false).map DV.bl := by rw [List.map_map]; rfl
        rw [hb3]
        have hb4 : (((List.range (x + 1)).map fun _ => false).any fun x => x) = false := by
          rw [List.any_map]
          exact List.any_eq_false.mpr fun _ _ h => nomatch h
        walk_at "go"
        all_goals first
          | exact ⟨⟨_, _, _, _, _, _, _, _, _, _, _, _, _, rfl⟩, rfl⟩
          | (rename_i hh; exact absurd (hb4.symm.trans hh) (by decide))
      · obtain ⟨⟨w1, w2, w4, w5, w6, w7, w8, w9, w10, w11, w12, w13, w14, rfl⟩, rfl⟩ := hinv
        exact ⟨⟨_, _, _, _, _, _, _, _, _, _, _, _, _, _, rfl⟩, (p, MO.dK (kdI ss)) :: C, rfl⟩
  · obtain ⟨⟨v1, v2, v3, v4, v5, v6, v7, v8, v9, v10, v11, v12, v13, v14, rfl⟩, C, rfl⟩ := hinv
    walk_at "go"
    exact ⟨C, M, rfl, hR⟩

/-! ### the law: all of some jugs -/
theorem ok_law (T : Tx K mg A) (TB : Tb base mg A) : FnG P w K mg base CX0 6 A.f_law A.d_law ["script"] (spLawT K (tabsOf A)) := by
  refine fnDG T.F_law sc_law (fun ds M R h => by obtain ⟨ns, rfl, _⟩ := h; rfl) fun cdv B up z H E hG hr ds M R h => ?_
  obtain ⟨ns, rfl, hl, hT, hR⟩ := h
  refine ⟨_, (pss_one (ps_ret (pe_callB (wAll K rfl rfl) (by rfl) T.n_all (by decide +kernel) (pa_cons (pe_lc (own := [("k", 1)]) rfl sc_law.nd (pi_range1 rfl T.n_range (pa_cons (pe_callB (wMax2 rfl) (by rfl) T.n_max (by decide +kernel) (pa_cons pe_int (pa_cons (pe_callB (wMin2 rfl) (by rfl) T.n_min (by decide +kernel) (pa_cons (pe_callB (wLen K rfl) (by rfl) T.n_len PySem.boot_len (pa_cons (pv 0) pa_nil)) (pa_cons pe_int pa_nil))) pa_nil))) pa_nil)) (blkOk_by (own := [("k", 1)]) (N := ["script", "k"]) (sc := defScope s_law) (by decide +kernel)) (fun _ _ _ _ _ => (pg_name (i := 1) sc_law.nd rfl (.inl rfl))) (fun _ _ _ _ _ => pts_nil) (fun _ _ _ _ _ => (pe_callG hG (ok__law_right T) (hr.mono (by decide)) (by rfl) T.g__law_right T.F__law_right.kp (b__law_right T) .nil pass0 (pa_cons (pe_call (ok__law_jug T) (hr.mono (by decide)) (by rfl) T.g__law_jug T.F__law_jug.kp (b__law_jug T) .nil pass0 (pa_cons (pv 0) (pa_cons (pv 1) pa_nil))) pa_nil)))) pa_nil)))), ?_⟩
  generalize hk : (if (if 5 < (ns.length : Int) then (5 : Int) else ns.length) > 2 then (if 5 < (ns.length : Int) then (5 : Int) else ns.length) else 2) = k
  have k0 : 0 ≤ k := by rw [← hk]; repeat' split <;> omega
  have k1 : k ≤ 5 := by rw [← hk]; repeat' split <;> omega
  refine xs_ret (evr_cb (ear_cons (evr_lc (ei_rng1 (j := k) (RM := fun M' => M' = M) (EvA.go (ds := [.int k]) (ea_cons (Ev.is (ev_cb (ea_cons ev_cI (ea_cons (ev_cb (ea_cons (ev_cb (ea_cons (ev_var rfl) ea_nil) rc_lenR) (ea_cons ev_cI ea_nil)) rc_min2) ea_nil)) rc_max2) (by rw [List.length_map]; exact congrArg DV.int hk)) ea_nil) ⟨rfl, rfl⟩) ⟨by omega, by omega⟩) (by omega) (fun i acc M' => M' = M ∧ acc = (List.replicate i true).map .bl) (fun M' e => ⟨e, rfl⟩) (fun _ _ _ _ _ c hc => nomatch hc) (bdw_name (by simp)) (fun i acc M' hi hinv => ?_) fun acc M' hl2 hinv => ?_)))
  · obtain ⟨rfl, rfl⟩ := hinv
    refine bd_name (etr_yes ?_)
    show EvR K _ _ _ _
    refine evr_drop (evr_call (ear_cons (evr_call (EvA.go (by walk_at "ea") ⟨ns, i, rfl, by omega, hl, fun p => ear_nil ⟨p, rfl, List.mem_cons_self, fun t ht => List.mem_cons_of_mem _ (hT t ht), _, _, rfl, rfl, ?_⟩⟩))))
    rw [List.replicate_succ', List.map_append]; rfl
  · obtain ⟨rfl, rfl⟩ := hinv
    refine ear_nil (RC.go rc_allL ?_)
    rw [show (List.replicate k.toNat true).all id = true from List.all_eq_true.mpr fun b hb => by rw [List.eq_of_mem_replicate hb]; rfl]
    exact hR

end
theorem all_mk {l : PySem.W.OpenLaw} {w : World} {K : PySem.W.Frag} {h : Heap} {mg : Str → Option Value} {fa : Addr} (X : K.In h) (G : h.Ns mainGlobals mg) (hfa : mg "law" = some (.ref fa)) (c : He.SaysX [] fnl [] tfl (HK.exOf exl) w h K)
    : ∃ (fd : FuncData) (nm : List (Addr × Str)), nm.map (·.1) = (tfl.map (He.cT K)).map (·.2) ∧ ((tfl.map (He.cT K)).map (·.2)).Nodup ∧ (∀ (s : Shared) (u : Value), BindsTo s fd ⟨[u], []⟩ [("script", u)]) ∧ ∀ base : Heap, K.In base → base.Ns mainGlobals mg → (∀ p ∈ tfl.map (He.cT K), LamX.TabB base mg p.1 p.2) → FnG l.prog w K mg base CX0 6 fa fd ["script"] (spLawT K nm) := by
  obtain ⟨d0, F0, e0⟩ := HK.fun_ c 0 (p := ("is_between", none)) (x := "is_between") (qual := "is_between") (st := s_is_between) rfl
  obtain ⟨d1, F1, e1⟩ := HK.fun_ c 1 (p := ("check_amount", none)) (x := "check_amount") (qual := "check_amount") (st := s_check_amount) rfl
  obtain ⟨d2, F2, e2⟩ := HK.fun_ c 2 (p := ("is_sight", none)) (x := "is_sight") (qual := "is_sight") (st := s_is_sight) rfl
  obtain ⟨d3, F3, e3⟩ := HK.fun_ c 3 (p := ("check_sights", none)) (x := "check_sights") (qual := "check_sights") (st := s_check_sights) rfl
  obtain ⟨d4, F4, e4⟩ := HK.fun_ c 4 (p := ("best_parts", none)) (x := "best_parts") (qual := "best_parts") (st := s_best_parts) rfl
  obtain ⟨d5, F5, e5⟩ := HK.fun_ c 5 (p := ("barring_of", none)) (x := "barring_of") (qual := "barring_of") (st := s_barring_of) rfl
  obtain ⟨d6, F6, e6⟩ := HK.fun_ c 6 (p := ("fits", none)) (x := "fits") (qual := "fits") (st := s_fits) rfl
  obtain ⟨d7, F7, e7⟩ := HK.fun_ c 7 (p := ("barring_parts", none)) (x := "barring_parts") (qual := "barring_parts") (st := s_barring_parts) rfl
  obtain ⟨d8, F8, e8⟩ := HK.fun_ c 8 (p := ("least_values", none)) (x := "least_values") (qual := "least_values") (st := s_least_values) rfl
  obtain ⟨d9, F9, e9⟩ := HK.fun_ c 9 (p := ("_law_jug", none)) (x := "_law_jug") (qual := "_law_jug") (st := s__law_jug) rfl
  obtain ⟨d10, F10, e10⟩ := HK.fun_ c 10 (p := ("_law_pour", none)) (x := "_law_pour") (qual := "_law_pour") (st := s__law_pour) rfl
  obtain ⟨d11, F11, e11⟩ := HK.fun_ c 11 (p := ("_law_one", none)) (x := "_law_one") (qual := "_law_one") (st := s__law_one) rfl
  obtain ⟨d12, F12, e12⟩ := HK.fun_ c 12 (p := ("_law_sights", none)) (x := "_law_sights") (qual := "_law_sights") (st := s__law_sights) rfl
  obtain ⟨d13, F13, e13⟩ := HK.fun_ c 13 (p := ("_law_least", none)) (x := "_law_least") (qual := "_law_least") (st := s__law_least) rfl
  obtain ⟨d14, F14, e14⟩ := HK.fun_ c 14 (p := ("_law_right", none)) (x := "_law_right") (qual := "_law_right") (st := s__law_right) rfl
  obtain ⟨d15, F15, e15⟩ := HK.fun_ c 15 (p := ("law", none)) (x := "law") (qual := "law") (st := s_law) rfl
  have a0 : PySem.W.nsIn K mainGlobals "is_between" = some (some (.ref (He.fAd K ("is_between", none)))) := of_decide_eq_true (HK.x c 1 rfl)
  have a1 : PySem.W.nsIn K mainGlobals "check_amount" = some (some (.ref (He.fAd K ("check_amount", none)))) := of_decide_eq_true (HK.x c 2 rfl)
  have a2 : PySem.W.nsIn K mainGlobals "is_sight" = some (some (.ref (He.fAd K ("is_sight", none)))) := of_decide_eq_true (HK.x c 3 rfl)
  have a3 : PySem.W.nsIn K mainGlobals "check_sights" = some (some (.ref (He.fAd K ("check_sights", none)))) := of_decide_eq_true (HK.x c 4 rfl)
  have a4 : PySem.W.nsIn K mainGlobals "best_parts" = some (some (.ref (He.fAd K ("best_parts", none)))) := of_decide_eq_true (HK.x c 5 rfl)
  have a5 : PySem.W.nsIn K mainGlobals "barring_of" = some (some (.ref (He.fAd K ("barring_of", none)))) := of_decide_eq_true (HK.x c 6 rfl)
  have a6 : PySem.W.nsIn K mainGlobals "fits" = some (some (.ref (He.fAd K ("fits", none)))) := of_decide_eq_true (HK.x c 7 rfl)
  have a7 : PySem.W.nsIn K mainGlobals "barring_parts" = some (some (.ref (He.fAd K ("barring_parts", none)))) := of_decide_eq_true (HK.x c 8 rfl)
  have a8 : PySem.W.nsIn K mainGlobals "least_values" = some (some (.ref (He.fAd K ("least_values", none)))) := of_decide_eq_true (HK.x c 9 rfl)
  have a9 : PySem.W.nsIn K mainGlobals "_law_jug" = some (some (.ref (He.fAd K ("_law_jug", none)))) := of_decide_eq_true (HK.x c 10 rfl)
  have a10 : PySem.W.nsIn K mainGlobals "_law_pour" = some (some (.ref (He.fAd K ("_law_pour", none)))) := of_decide_eq_true (HK.x c 11 rfl)
  have a11 : PySem.W.nsIn K mainGlobals "_law_one" = some (some (.ref (He.fAd K ("_law_one", none)))) := of_decide_eq_true (HK.x c 12 rfl)
  have a12 : PySem.W.nsIn K mainGlobals "_law_sights" = some (some (.ref (He.fAd K ("_law_sights", none)))) := of_decide_eq_true (HK.x c 13 rfl)
  have a13 : PySem.W.nsIn K mainGlobals "_law_least" = some (some (.ref (He.fAd K ("_law_least", none)))) := of_decide_eq_true (HK.x c 14 rfl)
  have a14 : PySem.W.nsIn K mainGlobals "_law_right" = some (some (.ref (He.fAd K ("_law_right", none)))) := of_decide_eq_true (HK.x c 15 rfl)
  have a15 : PySem.W.nsIn K mainGlobals "law" = some (some (.ref (He.fAd K ("law", none)))) := of_decide_eq_true (HK.x c 16 rfl)
  have z_MOST_GIFT := He.int_ok (x := "MOST_GIFT") (i := 1000000) X G (HK.x c 17 rfl)
  have z_MOST_VALUES := He.int_ok (x := "MOST_VALUES") (i := 24) X G (HK.x c 18 rfl)
  have z_MOST_SIGHTS := He.int_ok (x := "MOST_SIGHTS") (i := 8) X G (HK.x c 19 rfl)
  have n_abs : PySem.W.nsIn K mainGlobals "abs" = some none := of_decide_eq_true (HK.x c 20 rfl)
  have n_all : PySem.W.nsIn K mainGlobals "all" = some none := of_decide_eq_true (HK.x c 21 rfl)
  have n_any : PySem.W.nsIn K mainGlobals "any" = some none := of_decide_eq_true (HK.x c 22 rfl)
  have n_bool : PySem.W.nsIn K mainGlobals "bool" = some none := of_decide_eq_true (HK.x c 23 rfl)
  have n_dict : PySem.W.nsIn K mainGlobals "dict" = some none := of_decide_eq_true (HK.x c 24 rfl)
  have n_divmod : PySem.W.nsIn K mainGlobals "divmod" = some none := of_decide_eq_true (HK.x c 25 rfl)
  have n_enumerate : PySem.W.nsIn K mainGlobals "enumerate" = some none := of_decide_eq_true (HK.x c 26 rfl)
  have n_int : PySem.W.nsIn K mainGlobals "int" = some none := of_decide_eq_true (HK.x c 27 rfl)
  have n_isinstance : PySem.W.nsIn K mainGlobals "isinstance" = some none := of_decide_eq_true (HK.x c 28 rfl)
  have n_len : PySem.W.nsIn K mainGlobals "len" = some none := of_decide_eq_true (HK.x c 29 rfl)
  have n_list : PySem.W.nsIn K mainGlobals "list" = some none := of_decide_eq_true (HK.x c 30 rfl)
  have n_max : PySem.W.nsIn K mainGlobals "max" = some none := of_decide_eq_true (HK.x c 31 rfl)
  have n_min : PySem.W.nsIn K mainGlobals "min" = some none := of_decide_eq_true (HK.x c 32 rfl)
  have n_range : PySem.W.nsIn K mainGlobals "range" = some none := of_decide_eq_true (HK.x c 33 rfl)
  have n_repr : PySem.W.nsIn K mainGlobals "repr" = some none := of_decide_eq_true (HK.x c 34 rfl)
  have n_sorted : PySem.W.nsIn K mainGlobals "sorted" = some none := of_decide_eq_true (HK.x c 35 rfl)
  have n_sum : PySem.W.nsIn K mainGlobals "sum" = some none := of_decide_eq_true (HK.x c 36 rfl)
  have n_tuple : PySem.W.nsIn K mainGlobals "tuple" = some none := of_decide_eq_true (HK.x c 37 rfl)
  cases hfa.symm.trans (PySem.W.mg_of X G a15)
  have T : Tx K mg ⟨He.fAd K ("is_between", none), d0, He.fAd K ("check_amount", none), d1, He.fAd K ("is_sight", none), d2, He.fAd K ("check_sights", none), d3, He.fAd K ("best_parts", none), d4, He.fAd K ("barring_of", none), d5, He.fAd K ("fits", none), d6, He.fAd K ("barring_parts", none), d7, He.fAd K ("least_values", none), d8, He.fAd K ("_law_jug", none), d9, He.fAd K ("_law_pour", none), d10, He.fAd K ("_law_one", none), d11, He.fAd K ("_law_sights", none), d12, He.fAd K ("_law_least", none), d13, He.fAd K ("_law_right", none), d14, He.fAd K ("law", none), d15⟩ := { F_is_between := F0, g_is_between := PySem.W.mg_of X G a0, F_check_amount := F1, g_check_amount := PySem.W.mg_of X G a1, F_is_sight := F2, g_is_sight := PySem.W.mg_of X G a2, F_check_sights := F3, g_check_sights := PySem.W.mg_of X G a3, F_best_parts := F4, g_best_parts := PySem.W.mg_of X G a4, F_barring_of := F5, g_barring_of := PySem.W.mg_of X G a5, F_fits := F6, g_fits := PySem.W.mg_of X G a6, F_barring_parts := F7, g_barring_parts := PySem.W.mg_of X G a7, F_least_values := F8, g_least_values := PySem.W.mg_of X G a8, F__law_jug := F9, g__law_jug := PySem.W.mg_of X G a9, F__law_pour := F10, g__law_pour := PySem.W.mg_of X G a10, F__law_one := F11, g__law_one := PySem.W.mg_of X G a11, F__law_sights := F12, g__law_sights := PySem.W.mg_of X G a12, F__law_least := F13, g__law_least := PySem.W.mg_of X G a13, F__law_right := F14, g__law_right := PySem.W.mg_of X G a14, F_law := F15, g_law := PySem.W.mg_of X G a15, c_MOST_GIFT := z_MOST_GIFT, c_MOST_VALUES := z_MOST_VALUES, c_MOST_SIGHTS := z_MOST_SIGHTS, n_abs := PySem.W.mg_none_of X G n_abs, n_all := PySem.W.mg_none_of X G n_all, n_any := PySem.W.mg_none_of X G n_any, n_bool := PySem.W.mg_none_of X G n_bool, n_dict := PySem.W.mg_none_of X G n_dict, n_divmod := PySem.W.mg_none_of X G n_divmod, n_enumerate := PySem.W.mg_none_of X G n_enumerate, n_int := PySem.W.mg_none_of X G n_int, n_isinstance := PySem.W.mg_none_of X G n_isinstance, n_len := PySem.W.mg_none_of X G n_len, n_list := PySem.W.mg_none_of X G n_list, n_max := PySem.W.mg_none_of X G n_max, n_min := PySem.W.mg_none_of X G n_min, n_range := PySem.W.mg_none_of X G n_range, n_repr := PySem.W.mg_none_of X G n_repr, n_sorted := PySem.W.mg_none_of X G n_sorted, n_sum := PySem.W.mg_none_of X G n_sum, n_tuple := PySem.W.mg_none_of X G n_tuple }
  exact ⟨d15, tabsOf _, rfl, of_decide_eq_true (HK.x c 0 rfl), fun s u => HK.binds1 F15 (fun _ _ _ _ _ _ _ => rfl) s u, fun base _ _ hTB => ok_law (base := base) T ⟨⟩⟩
end My
open PySem PySem.W PyProof.Rows
set_option maxRecDepth 100000 in
set_option maxHeartbeats 0 in
theorem PySem.Challenge.cw_givenonce_k26_whole_functions_completed_holds : PySem.Challenge.rw_givenonce_k26_whole_functions_completed.Holds := by
  w_on; o_law
  refine HandSHeadRun.head_any (r := OpenLaw.row PySem.Challenge.rw_givenonce_k26_whole_functions_completed) (q := My.qv) (H := My.hk) (ob := My.ob) (M := 20000) (loose := My.loose) (d := HandSHeadRun.topDef (OpenLaw.row PySem.Challenge.rw_givenonce_k26_whole_functions_completed).prog 25) (kwd := []) My.ob_eq (by kernel_rfl) (fun s => by kernel_rfl) My.run (by kernel_rfl) (by kernel_rfl) (by kernel_rfl) (by rfl) (by first | assumption | decide +kernel) (by decide +kernel) ⟨rfl, rfl, rfl, rfl, rfl, by decide +kernel⟩ ?hw ?hc
  case hw => w_witness2
  case hc =>
    refine HK.walk (l := PySem.Challenge.rw_givenonce_k26_whole_functions_completed) (k := 6) (x := "script") rfl (by kernel_rfl) ⟨rfl, by decide, by decide⟩ ?F
    intro w mg f h K KX c G hmg
    have hm : mg ("law" : PySem.Str) = some (.ref f) := by
      have e : (HandSHeadRun.topDef (OpenLaw.row PySem.Challenge.rw_givenonce_k26_whole_functions_completed).prog 25).name = ("law" : PySem.Str) := by kernel_rfl
      rw [← e]
      exact hmg
    exact My.all_mk KX G hm c
