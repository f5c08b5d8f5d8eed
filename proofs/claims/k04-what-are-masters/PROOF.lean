import PyProof.Rows.All
import Wide.All
import OpenK.AllK
import Wide.FinOn
import HandS.ForMost
import HandS.More
import HandS.WordsExc
import HandS.Defaults
import HandS.IsInst
import HandS.TupAny
import HandS.Lambda
import HandS.ExcIs
import HandS.ExcCtx
import HandS.HotCalls
import HandS.HeadHook1
import HandS.HeadHook2
import HandS.HeadHook3
import HandS.HeadHook4
import KE.KStateDown
import HandS.Head0
import HandS.Head1
import HandS.Head2
import HandS.HeadEnd
import HandS.Strs
import HandS.Flow
import HandS.Style
import HandS.Deep
import PyProof.StrBlock2
import HandS.TupMul
import HandS.Zip
import HandS.EndTab
import HandS.StrMore
import HandS.SetFor
import HandS.TupLe
import HandS.Conv
import HandS.NoneIn
import KE.SortKeyHeap
import HandS.Keys
import HandS.SortKw
import KE.SortData
import PyProof.ReprRoads
import HandS.Set
import PyProof.Rows.SortShellAny
import PyProof.ReprLen
import PySem.Challenge.RW_mastershow_k04_what_are_masters
set_option Elab.async false
set_option linter.all false
set_option maxRecDepth 100000
set_option maxHeartbeats 0
set_option autoImplicit false
namespace Mr
open PySem PySem.Spec PyProof.Rows L2
abbrev Tx := List Char
def toS (s : Tx) : Str := ⟨(s.map Char.toNat).toArray⟩

def excNames : List Str := ["DeckError", "NoDeck", "NoMaster", "NoSlide", "NoPlace", "NoTrait", "NoWorth", "NoSetting", "NoName", "Taken", "TooMany", "Ring", "Used", "NoRoom", "NoSteps", "NoPress", "NoTime", "NoShow", "NoLink", "NoNumber", "NoWord", "NoDeed", "NoText", "NoRow"]
def subX (c y : Str) : Bool := c == y || y == "DeckError"
def optB (o : Option Bool) (b : Bool) : Bool := match o with
  | some x => x == b
  | none => false
def clsPair (K : PySem.W.Frag) (c y : Str) : Bool := !(He.Fa.glo y).ok K || (optB (PySem.W.exmOne K (.ref (He.ga K c)) (.ref (He.ga K y))) (subX c y) && optB (PySem.W.kitOne K (.ref (He.ga K c)) (.ref (He.ga K y))) (subX c y))
def clsB (K : PySem.W.Frag) (c : Str) : Bool :=
  He.eqO (PySem.W.findIn K (.ref (He.ga K c)) "__getattribute__") (some (some (.builtin "BaseException.__getattribute__"))) && (He.eqO (PySem.W.findIn K (.ref (He.ga K c)) "__getattr__") (some none) &&
  (optB (PySem.W.subIn K (.ref (He.ga K c)) (.type "BaseException")) true && (PySem.W.hasDictIn K (He.ga K c) && (He.eqO (PySem.W.findIn K (.ref (He.ga K c)) "__class__") (some (some (.builtin "object.__class__"))) &&
  (He.eqO (PySem.W.specialIn K (.builtin "object.__class__") "__get__") (some (some (.builtin "getset_descriptor.__get__"))) && (optB (PySem.W.takesIn K (.builtin "object.__class__")) true && (optB (PySem.W.mroIn K (He.ga K c) (.type "object")) true &&
  (optB (PySem.W.kitOne K (.ref (He.ga K c)) (.type "ValueError")) true && excNames.all fun y => clsPair K c y))))))))
def makers : List He.Defn := [("fault_of_masters", none), ("fault_of_slides", none), ("place_of_slide", none), ("with_setting", none), ("sorted_hands", none), ("fill_place", none), ("steps_by", none), ("fresh_links", none)]
def lamQ (x : Str) : Str := x ++ ".<locals>." ++ "<lambda>"
inductive D where
  | non
  | bl (b : Bool)
  | int (i : Int)
  | str (s : Tx)
  | tup (xs : List D)
  | lst (xs : List D)
  | dic (ks vs : List D)
  | ref (n : Nat)
  | ty (n : String)
  | glo (x : Str)
  | exc (c : Str) (xs : List D)
  | clo (tag : Nat) (caps : List D)
  deriving Inhabited

def conOk (K : PySem.W.Frag) : Nat → D → Value → Bool
  | _, .int i, .int j _ => i == j
  | _, .str s, .str z _ => toS s == z && decide (s.length ≤ 1000)
  | _, .non, .none => true
  | _, .bl b, .bool c => b == c
  | _, .glo x, .ref a => a == He.ga K x && (He.Fa.glo x).ok K
  | n + 1, .tup ds, .ref a => (match K.lookup a with
    | some ⟨.type c, none, .seq its _, _⟩ => c == "tuple" && (decide (ds.length ≤ 1000) && (ds.length == its.toList.length && (ds.zip its.toList).all fun p => conOk K n p.1 p.2))
    | _ => false)
  | _, _, _ => false
def exOk (K : PySem.W.Frag) (exs : List (Str × D)) : Bool := exs.all fun p => match PySem.W.nsIn K mainGlobals p.1 with
  | some (some v) => conOk K 5 p.2 v
  | _ => false
def dicOk (K : PySem.W.Frag) (a : Addr) (kvs : List (Tx × D)) : Bool := match K.lookup a with
  | some ⟨_, _, .dict es _, _⟩ => kvs.length == es.toList.length && (kvs.zip es.toList).all fun p => (match p.2.key with
    | .str z _ => toS p.1.1 == z
    | _ => false) && conOk K 5 p.1.2 p.2.val
  | _ => false
def exB (exs : List (Str × D)) (ts : List (Str × List (Tx × D))) (K : PySem.W.Frag) : Bool := exOk K exs && ts.all fun t => dicOk K (He.ga K t.1) t.2
def mkB (K : PySem.W.Frag) (tf : List He.Defn) : Bool := (makers.all fun p => tf.contains p || !PySem.W.codeHdIn K (He.cT K p).1 (He.cT K p).2) && decide ((tf.map fun p => (He.cT K p).2).Nodup)
def sysB (K : PySem.W.Frag) : Bool := match K.lookup sysModules with
  | some ⟨_, _, .dict _ _, _⟩ => true
  | _ => false
def exC (exs : List (Str × D)) (ts : List (Str × List (Tx × D))) (tf : List He.Defn) (xs : List Str) (K : PySem.W.Frag) : Bool := exB exs ts K && (mkB K tf && ((xs.all fun c => clsB K c) && sysB K))
end Mr
namespace Mr
open PySem PySem.Spec PySem.W PyProof.Rows HandSHeadRun
noncomputable abbrev EndS (r : OpenRow) (M : Nat) (w : World) (os : OsState) : Option SharedT := endF (stepQ (denQ tabQ) r.prog w) M r.prog w os
theorem run_two {r : OpenRow} {q : Program} {H : Hook} {ob : SharedT → H.α} {M : Nat} {loose : List PySem.Str} {w : World}
    (h1 : ∀ os, (EndS r M w os).map (fun s => (looksF r.prog (boot_heap w.params) s.abs, seenQ q loose (importedModules r.prog.main.body) (fun s => xlAt q [] s && recOk r.toRowW.records s) s.abs)) = some (true, openGood q loose))
    (h2 : ∀ os, (EndS r M w os).map ob = some (H.val w)) : RunEq r q H ob M loose w := fun os => by
  have a := h1 os
  have b := h2 os
  obtain ⟨s, e1, e2⟩ := Option.map_eq_some_iff.mp a
  rw [e1] at b
  have b : ob s = H.val w := Option.some.inj b
  show (EndS r M w os).map _ = _
  rw [e1]
  have e2 := Prod.mk.inj e2
  show some (_, _, _) = _
  rw [e2.1, e2.2, b]
section
variable {α : Type}
def forceN (n : Nat) (k : Nat → α) : α := match n with
  | 0 => k 0
  | m + 1 => k (m + 1)
theorem forceN_eq (n : Nat) (k : Nat → α) : forceN n k = k n := by cases n <;> rfl
def addB : List Addr → Nat → List Addr → List Addr → (Nat → List Addr → List Addr → α) → α
  | [], m, new, acc, k => k m new acc
  | a :: r, m, new, acc, k => forceN a fun a => match Nat.testBit m a with
    | true => addB r m new acc k
    | false => forceN (m ||| (1 <<< a)) fun m => addB r m (a :: new) (a :: acc) k
def refsB (g : Addr → Option Obj) (a : Addr) : List Addr := match g a with
  | some o => He.refsD o
  | none => []
def closeB (g : Addr → Option Obj) : Nat → List Addr → Nat → List Addr → (List Addr → α) → α
  | 0, _, _, acc, k => k acc
  | n + 1, fr, m, acc, k => addB (fr.flatMap (refsB g)) m [] acc fun m new acc => closeB g n new m acc k
theorem addB_eq {β : Type} (f : α → β) : ∀ (l : List Addr) (m : Nat) (new acc : List Addr) (k : Nat → List Addr → List Addr → α), f (addB l m new acc k) = addB l m new acc fun m new acc => f (k m new acc)
  | [], _, _, _, _ => rfl
  | a :: r, m, new, acc, k => by
    simp only [addB, forceN_eq]
    cases Nat.testBit m a with
    | true => exact addB_eq f r m new acc k
    | false => exact addB_eq f r _ _ _ k
theorem closeB_eq {β : Type} (f : α → β) (g : Addr → Option Obj) : ∀ (n : Nat) (fr : List Addr) (m : Nat) (acc : List Addr) (k : List Addr → α), f (closeB g n fr m acc k) = closeB g n fr m acc fun as => f (k as)
  | 0, _, _, _, _ => rfl
  | n + 1, fr, m, acc, k => by
    simp only [closeB]
    rw [addB_eq f]
    congr 1
    funext m new acc
    exact closeB_eq f g n new m acc k
def buildK (g : Addr → Option Obj) : List Addr → (PySem.W.Frag → α) → α
  | [], k => k []
  | a :: r, k => match g a with
    | some o => match He.emptyTab o with
      | true => buildK g r k
      | false => buildK g r fun K => k ((a, o) :: K)
    | none => buildK g r k
theorem buildK_eq (g : Addr → Option Obj) : ∀ (as : List Addr) (k : PySem.W.Frag → α), buildK g as k = k (He.frT g as)
  | [], _ => rfl
  | a :: r, k => by
    unfold buildK
    have e : He.frT g (a :: r) = (match g a with
      | some o => if He.emptyTab o = true then He.frT g r else (a, o) :: He.frT g r
      | none => He.frT g r) := by
      unfold He.frT He.frG
      rw [List.filterMap_cons]
      cases g a with
      | none => rfl
      | some o =>
        show List.filter _ ((a, o) :: _) = _
        rw [List.filter_cons]
        cases h : He.emptyTab o <;> simp [h]
    rw [e]
    cases g a with
    | none => exact buildK_eq g r k
    | some o =>
      show (match He.emptyTab o with
        | true => buildK g r k
        | false => buildK g r fun K => k ((a, o) :: K)) = _
      cases h : He.emptyTab o with
      | true =>
        have e2 : (match some o with
          | some o => if He.emptyTab o = true then He.frT g r else (a, o) :: He.frT g r
          | none => He.frT g r) = He.frT g r := by simp [h]
        rw [e2]
        exact buildK_eq g r k
      | false =>
        have e2 : (match some o with
          | some o => if He.emptyTab o = true then He.frT g r else (a, o) :: He.frT g r
          | none => He.frT g r) = (a, o) :: He.frT g r := by simp [h]
        rw [e2]
        exact buildK_eq g r fun K => k ((a, o) :: K)
end
def asB (g : Addr → Option Obj) (n : Nat) : List Addr := sysModules :: closeB g n [mainGlobals] (1 <<< mainGlobals) [mainGlobals] id
def obsY (n : Nat) (fa : List He.Fa) (fn : List He.DefD) (ts : List He.Tab) (tf : List He.Defn) (ex : PySem.W.Frag → Bool) (g : Addr → Option Obj) : He.AlX :=
  closeB g n [mainGlobals] (1 <<< mainGlobals) [mainGlobals] fun as => buildK g (sysModules :: as) fun K => (He.obsT fa fn ts K, ex K && He.tabsB g tf K)
theorem obsY_at {n : Nat} {fa : List He.Fa} {fn : List He.DefD} {ts : List He.Tab} {tf : List He.Defn} {ex : PySem.W.Frag → Bool} {g : Addr → Option Obj} : obsY n fa fn ts tf ex g = (He.obsT fa fn ts (He.frT g (asB g n)), ex (He.frT g (asB g n)) && He.tabsB g tf (He.frT g (asB g n))) := by
  unfold obsY
  have h : (fun as => buildK g (sysModules :: as) fun K => (He.obsT fa fn ts K, ex K && He.tabsB g tf K)) = fun as => (fun as => ((He.obsT fa fn ts (He.frT g (sysModules :: as)), ex (He.frT g (sysModules :: as)) && He.tabsB g tf (He.frT g (sysModules :: as))) : He.AlX)) (id as) := by
    funext as
    exact buildK_eq g (sysModules :: as) _
  rw [h]
  exact (closeB_eq (fun as => ((He.obsT fa fn ts (He.frT g (sysModules :: as)), ex (He.frT g (sysModules :: as)) && He.tabsB g tf (He.frT g (sysModules :: as))) : He.AlX)) g n _ _ _ id).symm
theorem says_part {fa : List He.Fa} {fn : List He.DefD} {ts : List He.Tab} {tf : List He.Defn} {ex : PySem.W.Frag → Bool} {w : World} {h : Heap} {as : List Addr}
    (e : ((He.obsT fa fn ts (He.frT h.get? as), ex (He.frT h.get? as) && He.tabsB h.get? tf (He.frT h.get? as)) : He.AlX) = He.valX fn ts w) : He.SaysX fa fn ts tf ex w h (He.frT h.get? as) := by
  generalize hK : He.frT h.get? as = K at e
  have e1 := (Prod.mk.inj e).1
  have e2 := Bool.and_eq_true_iff.mp (Prod.mk.inj e).2
  have tab : ∀ p ∈ tf, PySem.W.codeHdIn K (He.cT K p).1 (He.cT K p).2 = true ∧ ∃ o, h.get? (He.cT K p).2 = some o ∧ He.emptyTab o = true := fun p hp => by
    have q := Bool.and_eq_true_iff.mp (List.all_eq_true.mp e2.2 p hp)
    refine ⟨q.1, ?_⟩
    have q2 := q.2
    split at q2
    · rename_i o ho
      exact ⟨o, ho, q2⟩
    · cases q2
  constructor
  · exact e1
  · exact e2.1
  · exact fun p hp => (tab p hp).1
  · intro p hp
    obtain ⟨o, ho, z⟩ := (tab p hp).2
    rw [← hK] at ho ⊢
    exact He.frT_none ho z
  · intro p hp
    obtain ⟨o, ho, z⟩ := (tab p hp).2
    rw [ho, He.emptyTab_eq z]
def hookY (n : Nat) (fa : List He.Fa) (fn : List He.DefD) (ts : List He.Tab) (tf : List He.Defn) (ex : PySem.W.Frag → Bool) : PySem.W.Hook :=
  { He.hookX n fa fn ts tf ex with
    obs := fun s => obsY n fa fn ts tf ex s.heap.get?
    of := fun w s e => ⟨_, He.frT_in, says_part (obsY_at ▸ e)⟩ }
theorem obsY_eq {n : Nat} {fa : List He.Fa} {fn : List He.DefD} {ts : List He.Tab} {tf : List He.Defn} {ex : PySem.W.Frag → Bool} {g : Addr → Option Obj} {s : Shared} (h : ∀ a, g a = s.heap.get? a) : obsY n fa fn ts tf ex g = (hookY n fa fn ts tf ex).obs s := by
  rw [show g = s.heap.get? from funext h] <;> rfl
end Mr

namespace Pf
open PySem PySem.Spec PyProof.Rows L2 Mr
def top (i : Nat) : Stmt := PySem.Challenge.pw_mastershow_k04_what_are_masters.main.body.getD i (.Pass ⟨0, 0, 0, 0⟩)
def d_is_whole : He.DefD := ⟨("is_whole", none), "is_whole", "is_whole", defArgs (top 12), defBody (top 12), defScope (top 12), [], []⟩
def d_is_from : He.DefD := ⟨("is_from", none), "is_from", "is_from", defArgs (top 13), defBody (top 13), defScope (top 13), [], []⟩
def d_is_name : He.DefD := ⟨("is_name", none), "is_name", "is_name", defArgs (top 14), defBody (top 14), defScope (top 14), [], []⟩
def d_is_written : He.DefD := ⟨("is_written", none), "is_written", "is_written", defArgs (top 15), defBody (top 15), defScope (top 15), [], []⟩
def d_is_lines : He.DefD := ⟨("is_lines", none), "is_lines", "is_lines", defArgs (top 16), defBody (top 16), defScope (top 16), [], []⟩
def d_is_trait : He.DefD := ⟨("is_trait", none), "is_trait", "is_trait", defArgs (top 17), defBody (top 17), defScope (top 17), [], []⟩
def d_must_be_trait : He.DefD := ⟨("must_be_trait", none), "must_be_trait", "must_be_trait", defArgs (top 18), defBody (top 18), defScope (top 18), [], []⟩
def d_is_worth : He.DefD := ⟨("is_worth", none), "is_worth", "is_worth", defArgs (top 19), defBody (top 19), defScope (top 19), [], []⟩
def d_is_setting : He.DefD := ⟨("is_setting", none), "is_setting", "is_setting", defArgs (top 23), defBody (top 23), defScope (top 23), [], []⟩
def d_rise : He.DefD := ⟨("rise", none), "rise", "rise", defArgs (top 24), defBody (top 24), defScope (top 24), [], []⟩
def d_are_settings : He.DefD := ⟨("are_settings", none), "are_settings", "are_settings", defArgs (top 25), defBody (top 25), defScope (top 25), [], []⟩
def d_is_place : He.DefD := ⟨("is_place", none), "is_place", "is_place", defArgs (top 26), defBody (top 26), defScope (top 26), [], []⟩
def d_are_unlike : He.DefD := ⟨("are_unlike", none), "are_unlike", "are_unlike", defArgs (top 27), defBody (top 27), defScope (top 27), [], []⟩
def d_is_master : He.DefD := ⟨("is_master", none), "is_master", "is_master", defArgs (top 28), defBody (top 28), defScope (top 28), [], []⟩
def d_master_by : He.DefD := ⟨("master_by", none), "master_by", "master_by", defArgs (top 29), defBody (top 29), defScope (top 29), [], []⟩
def d_comes_round : He.DefD := ⟨("comes_round", none), "comes_round", "comes_round", defArgs (top 30), defBody (top 30), defScope (top 30), [], []⟩
def d_is_masters : He.DefD := ⟨("is_masters", none), "is_masters", "is_masters", defArgs (top 31), defBody (top 31), defScope (top 31), [], []⟩
def d__law_pen : He.DefD := ⟨("_law_pen", none), "_law_pen", "_law_pen", defArgs (top 33), defBody (top 33), defScope (top 33), [], []⟩
def d__law_draw : He.DefD := ⟨("_law_draw", none), "_law_draw", "_law_draw", defArgs (top 34), defBody (top 34), defScope (top 34), [], []⟩
def d__law_names : He.DefD := ⟨("_law_names", none), "_law_names", "_law_names", defArgs (top 35), defBody (top 35), defScope (top 35), [], []⟩
def d__law_line : He.DefD := ⟨("_law_line", none), "_law_line", "_law_line", defArgs (top 36), defBody (top 36), defScope (top 36), [], []⟩
def d__law_lines : He.DefD := ⟨("_law_lines", none), "_law_lines", "_law_lines", defArgs (top 37), defBody (top 37), defScope (top 37), [], []⟩
def d__law_worth : He.DefD := ⟨("_law_worth", none), "_law_worth", "_law_worth", defArgs (top 38), defBody (top 38), defScope (top 38), [], []⟩
def d__law_traits : He.DefD := ⟨("_law_traits", none), "_law_traits", "_law_traits", defArgs (top 39), defBody (top 39), defScope (top 39), [], []⟩
def d__law_place : He.DefD := ⟨("_law_place", none), "_law_place", "_law_place", defArgs (top 40), defBody (top 40), defScope (top 40), [], []⟩
def d__law_masters : He.DefD := ⟨("_law_masters", none), "_law_masters", "_law_masters", defArgs (top 41), defBody (top 41), defScope (top 41), [], []⟩
def d__law_whole : He.DefD := ⟨("_law_whole", none), "_law_whole", "_law_whole", defArgs (top 42), defBody (top 42), defScope (top 42), [], []⟩
def d__law_is_name : He.DefD := ⟨("_law_is_name", none), "_law_is_name", "_law_is_name", defArgs (top 43), defBody (top 43), defScope (top 43), [], []⟩
def d__law_is_written : He.DefD := ⟨("_law_is_written", none), "_law_is_written", "_law_is_written", defArgs (top 44), defBody (top 44), defScope (top 44), [], []⟩
def d__law_is_lines : He.DefD := ⟨("_law_is_lines", none), "_law_is_lines", "_law_is_lines", defArgs (top 45), defBody (top 45), defScope (top 45), [], []⟩
def d__law_is_worth : He.DefD := ⟨("_law_is_worth", none), "_law_is_worth", "_law_is_worth", defArgs (top 46), defBody (top 46), defScope (top 46), [], []⟩
def d__law_is_place : He.DefD := ⟨("_law_is_place", none), "_law_is_place", "_law_is_place", defArgs (top 47), defBody (top 47), defScope (top 47), [], []⟩
def d__law_is_master : He.DefD := ⟨("_law_is_master", none), "_law_is_master", "_law_is_master", defArgs (top 48), defBody (top 48), defScope (top 48), [], []⟩
def d__law_rounds : He.DefD := ⟨("_law_rounds", none), "_law_rounds", "_law_rounds", defArgs (top 49), defBody (top 49), defScope (top 49), [], []⟩
def d__law_are : He.DefD := ⟨("_law_are", none), "_law_are", "_law_are", defArgs (top 50), defBody (top 50), defScope (top 50), [], []⟩
def d__law_bent : He.DefD := ⟨("_law_bent", none), "_law_bent", "_law_bent", defArgs (top 51), defBody (top 51), defScope (top 51), [], []⟩
def d__law_over : He.DefD := ⟨("_law_over", none), "_law_over", "_law_over", defArgs (top 52), defBody (top 52), defScope (top 52), [], []⟩
def d_law : He.DefD := ⟨("law", none), "law", "law", defArgs (top 53), defBody (top 53), defScope (top 53), [], []⟩
def fn : List He.DefD := [d_is_whole, d_is_from, d_is_name, d_is_written, d_is_lines, d_is_trait, d_must_be_trait, d_is_worth, d_is_setting, d_rise, d_are_settings, d_is_place, d_are_unlike, d_is_master, d_master_by, d_comes_round, d_is_masters, d__law_pen, d__law_draw, d__law_names, d__law_line, d__law_lines, d__law_worth, d__law_traits, d__law_place, d__law_masters, d__law_whole, d__law_is_name, d__law_is_written, d__law_is_lines, d__law_is_worth, d__law_is_place, d__law_is_master, d__law_rounds, d__law_are, d__law_bent, d__law_over, d_law]
def fa : List He.Fa := [.free "range", .free "tuple", .free "list", .free "len", .free "repr", .free "isinstance", .free "bool", .int "MOST_MASTERS" (12), .free "all", .free "any", .int "MOST_PLACES" (8), .str "LETTERS" "abcdefghijklmnopqrstuvwxyz", .int "LONGEST_NAME" (8), .free "str", .str "FIGURES" "0123456789", .int "MOST_LINES" (12), .int "LONGEST_LINE" (60), .str "SIGNS" " !\"#$&'()*+,-./:;<=>?\x40[]^_`{|}~0123456789abcdefghijklmnopqrstuvwxyzABCDEFGHIJKLMNOPQRSTUVWXYZ", .glo "BOUNDS", .free "int", .exc "NoTrait", .glo "NoTrait", .free "ord", .glo "are_unlike", .glo "is_name", .glo "is_written", .glo "is_lines", .glo "is_trait", .glo "is_whole", .glo "is_from", .glo "must_be_trait", .glo "is_worth", .glo "is_setting", .glo "rise", .glo "are_settings", .glo "is_place", .glo "is_master", .glo "master_by", .glo "comes_round", .glo "is_masters", .glo "_law_draw", .glo "_law_names", .glo "_law_line", .glo "_law_lines", .glo "_law_worth", .glo "_law_traits", .glo "_law_place", .glo "_law_masters", .glo "_law_is_name", .glo "_law_is_written", .glo "_law_is_lines", .glo "_law_whole", .glo "_law_is_worth", .glo "_law_is_place", .glo "_law_is_master", .glo "_law_rounds", .glo "_law_are", .glo "_law_bent", .glo "_law_over", .glo "_law_pen", .glo "law"]
def exs : List (Str × D) := [("TRAITS", (.tup [(.str ['l', 'e', 'f', 't']), (.str ['t', 'o', 'p']), (.str ['w', 'i', 'd', 'e']), (.str ['h', 'i', 'g', 'h']), (.str ['s', 'i', 'z', 'e']), (.str ['i', 'n', 'k'])]))]
def ts : List (Str × List (Tx × D)) := [("BOUNDS", ([(['l', 'e', 'f', 't'], (.tup [(.int (-999)), (.int (999))])), (['t', 'o', 'p'], (.tup [(.int (-999)), (.int (999))])), (['w', 'i', 'd', 'e'], (.tup [(.int (1)), (.int (999))])), (['h', 'i', 'g', 'h'], (.tup [(.int (1)), (.int (999))])), (['s', 'i', 'z', 'e'], (.tup [(.int (1)), (.int (99))]))] : List (Tx × D)))]
def tf : List He.Defn := []
def xs : List Str := ["NoTrait"]
def tabs : List He.Tab := [(fun K => He.ga K "BOUNDS", ["left", "top", "wide", "high", "size"])]
end Pf

namespace Pf
open PySem PySem.Spec PyProof.Rows L2 Mr
abbrev R : PySem.W.OpenRow := PySem.W.OpenLaw.row PySem.Challenge.rw_mastershow_k04_what_are_masters
abbrev hk : PySem.W.Hook := hookY 4 fa fn tabs tf (exC exs ts tf xs)
def ob (s : PySem.W.SharedT) : He.AlX := obsY 4 fa fn tabs tf (exC exs ts tf xs) (HandSHeadRun.getT s)
theorem ob_eq (s : PySem.W.SharedT) : ob s = hk.obs s.abs := obsY_eq (HandSHeadRun.getT_eq s)
def loose : List Str := (["DeckError", "NoTrait", "TRAITS", "BOUNDS", "LETTERS", "FIGURES", "SIGNS", "LONGEST_NAME", "LONGEST_LINE", "MOST_LINES", "is_whole", "is_from", "is_name", "is_written", "is_lines", "is_trait", "must_be_trait", "is_worth", "MOST_MASTERS", "MOST_PLACES", "is_setting", "rise", "are_settings", "is_place", "are_unlike", "is_master", "master_by", "comes_round", "is_masters", "_law_pen"] : List Str) ++ (["_law_draw", "_law_names", "_law_line", "_law_lines", "_law_worth", "_law_traits", "_law_place", "_law_masters", "_law_whole", "_law_is_name", "_law_is_written", "_law_is_lines", "_law_is_worth", "_law_is_place", "_law_is_master", "_law_rounds", "_law_are", "_law_bent", "_law_over"] : List Str)
theorem raF (w : World) (os : OsState) : (EndS R 40000 (w.withFollow "special-get-raises" false) os).map (fun s => (HandSHeadRun.looksF R.prog (PySem.W.boot_heap ((w.withFollow "special-get-raises" false)).params) s.abs, HandSHeadRun.seenQ (PySem.W.view R.prog [53]) loose (importedModules R.prog.main.body) (fun s => PySem.W.xlAt (PySem.W.view R.prog [53]) [] s && PySem.W.recOk R.toRowW.records s) s.abs)) = some (true, PySem.W.openGood (PySem.W.view R.prog [53]) loose) := by kernel_rfl
theorem rbF (w : World) (os : OsState) : (EndS R 40000 (w.withFollow "special-get-raises" false) os).map ob = some (hk.val (w.withFollow "special-get-raises" false)) := by kernel_rfl
theorem runF (w : World) : HandSHeadRun.RunEq R (PySem.W.view R.prog [53]) hk ob 40000 loose (w.withFollow "special-get-raises" false) := run_two (raF w) (rbF w)
theorem raT (w : World) (os : OsState) : (EndS R 40000 (w.withFollow "special-get-raises" true) os).map (fun s => (HandSHeadRun.looksF R.prog (PySem.W.boot_heap ((w.withFollow "special-get-raises" true)).params) s.abs, HandSHeadRun.seenQ (PySem.W.view R.prog [53]) loose (importedModules R.prog.main.body) (fun s => PySem.W.xlAt (PySem.W.view R.prog [53]) [] s && PySem.W.recOk R.toRowW.records s) s.abs)) = some (true, PySem.W.openGood (PySem.W.view R.prog [53]) loose) := by kernel_rfl
theorem rbT (w : World) (os : OsState) : (EndS R 40000 (w.withFollow "special-get-raises" true) os).map ob = some (hk.val (w.withFollow "special-get-raises" true)) := by kernel_rfl
theorem runT (w : World) : HandSHeadRun.RunEq R (PySem.W.view R.prog [53]) hk ob 40000 loose (w.withFollow "special-get-raises" true) := run_two (raT w) (rbT w)
theorem run (w : World) : HandSHeadRun.RunEq R (PySem.W.view R.prog [53]) hk ob 40000 loose w := PySem.W.byRow2 "special-get-raises" (P := fun w => HandSHeadRun.RunEq R (PySem.W.view R.prog [53]) hk ob 40000 loose w) runF runT w
end Pf

namespace Mr
open PySem PySem.Spec PyProof.Rows L2

def ExX (K : PySem.W.Frag) (c : Str) (a : Addr) : HO := .ext fun h => clsB K c = true ∧ ∃ (oe : Obj) (vs : Array Value), h.get? a = some oe ∧ L2N.Zn (.ref (He.ga K c)) none oe ∧ oe.data = .fields vs
def TabsAll (K : PySem.W.Frag) (H : Hp) : Prop := ∀ p ∈ makers, PySem.W.codeHdIn K (He.cT K p).1 (He.cT K p).2 = true → LamX.TabS H (He.cT K p).2 (lamQ p.1)
theorem TabsAll.ext {K : PySem.W.Frag} {H H' : Hp} (t : TabsAll K H) (e : ∀ b o, H b = some o → H' b = some o) : TabsAll K H' := fun p hp c => (t p hp c).ext e
theorem TabsAll.upd {K : PySem.W.Frag} {H : Hp} {a : Addr} {o o' : HO} (t : TabsAll K H) (h : H a = some o) (n : ∀ ps, o ≠ .tbl ps) (m : ∀ q, o ≠ LamX.CodeO a q) : TabsAll K (L2.upd H a o') := fun p hp c => by
  obtain ⟨ps, h1, h2, h3⟩ := t p hp c
  refine ⟨ps, by rw [upd_ne (fun z => by rw [z, h] at h1; exact n _ (Option.some.inj h1))]; exact h1, h2, fun pos cv e => ?_⟩
  obtain ⟨c', e1, e2⟩ := h3 pos cv e
  refine ⟨c', e1, ?_⟩
  rw [upd_ne (fun z => by subst z; rw [h] at e2; exact m _ (Option.some.inj e2))]
  exact e2
inductive SO where
  | lst (xs : List D)
  | ins (c : Str) (fs : List (Str × D))
abbrev Store := List SO

structure Xc where
  cls : Str
  args : List D := []

inductive Rs (α : Type) where
  | ok (a : α) (s : Store)
  | exc (x : Xc) (s : Store)
  | bad
def M (α : Type) := Store → Rs α
def M.pure {α : Type} (a : α) : M α := fun s => .ok a s
def M.bind {α β : Type} (m : M α) (k : α → M β) : M β := fun s => match m s with
  | .ok a s' => k a s'
  | .exc x s' => .exc x s'
  | .bad => .bad
instance : Monad M where
  pure := M.pure
  bind := M.bind
def bad {α : Type} : M α := fun _ => .bad
def raise {α : Type} (x : Xc) : M α := fun s => .exc x s
theorem M.ext {α : Type} {m n : M α} (h : ∀ s, m s = n s) : m = n := funext h
@[simp] theorem pure_bindM {α β : Type} (a : α) (k : α → M β) : (pure a >>= k) = k a := rfl
@[simp] theorem bind_assocM {α β γ : Type} (m : M α) (k : α → M β) (l : β → M γ) : (m >>= k) >>= l = m >>= fun a => k a >>= l := by
  funext s
  show M.bind (M.bind m k) l s = M.bind m (fun a => M.bind (k a) l) s
  unfold M.bind
  cases m s <;> rfl
@[simp] theorem bind_pureM {α : Type} (m : M α) : (m >>= fun a => pure a) = m := by
  funext s
  show M.bind m M.pure s = m s
  unfold M.bind
  cases m s <;> rfl
@[simp] theorem bad_bind {α β : Type} (k : α → M β) : ((bad : M α) >>= k) = bad := rfl
@[simp] theorem raise_bind {α β : Type} (x : Xc) (k : α → M β) : ((raise x : M α) >>= k) = raise x := rfl
theorem bind_app {α β : Type} (m : M α) (k : α → M β) (s : Store) : (m >>= k) s = (match m s with
  | .ok a s' => k a s'
  | .exc x s' => .exc x s'
  | .bad => .bad) := rfl
section
variable (K : PySem.W.Frag) (mg : Str → Option Value)
mutual
inductive Rep (G : Hp) (ρ : List Addr) : D → V → Prop
  | non : Rep G ρ .non .non
  | bl (b : Bool) : Rep G ρ (.bl b) (.bl b)
  | int (i : Int) : Rep G ρ (.int i) (.int i)
  | str (s : Tx) (h : s.length ≤ sizeLine) : Rep G ρ (.str s) (.str (toS s))
  | tup {a : Addr} {vs : List V} {ds : List D} (h : SqT K G a vs) (z : vs.length ≤ sizeLine) (r : RepL G ρ ds vs) : Rep G ρ (.tup ds) (.ref a)
  | lst {a : Addr} {vs : List V} {ds : List D} (h : G a = some (.lst vs)) (z : vs.length ≤ sizeLine) (r : RepL G ρ ds vs) : Rep G ρ (.lst ds) (.ref a)
  | dic {a : Addr} {kvs : List (Key × V)} {ks vs : List D} (h : ∃ o, G a = some (.frz o (.dK kvs))) (r : RepL G ρ ks (kvs.map fun p => kV p.1)) (q : RepL G ρ vs (kvs.map fun p => p.2)) : Rep G ρ (.dic ks vs) (.ref a)
  | ref {n : Nat} {a : Addr} (h : ρ[n]? = some a) : Rep G ρ (.ref n) (.ref a)
  | ty (n : String) : Rep G ρ (.ty n) (.ty n)
  | glo {x : Str} {a : Addr} (h : mg x = some (.ref a)) : Rep G ρ (.glo x) (.ref a)
  | exc {c : Str} {a : Addr} (h : G a = some (ExX K c a)) : Rep G ρ (.exc c []) (.ref a)
  | clo (a : Addr) : Rep G ρ (.clo a []) (.ref a)
inductive RepL (G : Hp) (ρ : List Addr) : List D → List V → Prop
  | nil : RepL G ρ [] []
  | cons {d : D} {v : V} {ds : List D} {vs : List V} (h : Rep G ρ d v) (t : RepL G ρ ds vs) : RepL G ρ (d :: ds) (v :: vs)
end
end
section
variable {K : PySem.W.Frag} {mg : Str → Option Value} {G G' H H' H1 : Hp} {ρ ρ' ρ1 : List Addr}
theorem seqT {a : Addr} {xs : List V} (e : Same G G') (h : SqT K G a xs) : SqT K G' a xs := by
  rcases h with (h | ⟨o, h⟩) | h
  · exact .inl (.inl (e _ _ h))
  · exact .inl (.inr ⟨o, e _ _ h⟩)
  · exact .inr h
mutual
theorem Rep.mono (e : Same G G') (p : ∀ (n : Nat) (a : Addr), ρ[n]? = some a → ρ'[n]? = some a) : ∀ {d : D} {v : V}, Rep K mg G ρ d v → Rep K mg G' ρ' d v
  | _, _, .non => .non
  | _, _, .bl b => .bl b
  | _, _, .int i => .int i
  | _, _, .str s h => .str s h
  | _, _, .tup h z r => .tup (seqT e h) z (RepL.mono e p r)
  | _, _, .lst h z r => .lst (e _ _ h) z (RepL.mono e p r)
  | _, _, .dic h r q => .dic (h.elim fun o h => ⟨o, e _ _ h⟩) (RepL.mono e p r) (RepL.mono e p q)
  | _, _, .ref h => .ref (p _ _ h)
  | _, _, .ty n => .ty n
  | _, _, .glo h => .glo h
  | _, _, .exc h => .exc (e _ _ h)
  | _, _, .clo a => .clo a
theorem RepL.mono (e : Same G G') (p : ∀ (n : Nat) (a : Addr), ρ[n]? = some a → ρ'[n]? = some a) : ∀ {ds : List D} {vs : List V}, RepL K mg G ρ ds vs → RepL K mg G' ρ' ds vs
  | _, _, .nil => .nil
  | _, _, .cons h t => .cons (Rep.mono e p h) (RepL.mono e p t)
end
theorem RepL.length : ∀ {ds : List D} {vs : List V}, RepL K mg G ρ ds vs → ds.length = vs.length
  | _, _, .nil => rfl
  | _, _, .cons _ t => by rw [List.length_cons, List.length_cons, t.length]
theorem RepL.get : ∀ {ds : List D} {vs : List V} {i : Nat} {v : V}, RepL K mg G ρ ds vs → vs[i]? = some v → ∃ d, ds[i]? = some d ∧ Rep K mg G ρ d v
  | _, _, _, _, .nil, e => by simp at e
  | _, _, 0, _, .cons r _, e => by simp at e; subst e; exact ⟨_, rfl, r⟩
  | _, _, i + 1, v, .cons _ t, e => by
    obtain ⟨d, h1, h2⟩ := RepL.get (i := i) (v := v) t (by simpa using e)
    exact ⟨d, by simpa using h1, h2⟩
theorem RepL.at : ∀ {ds : List D} {vs : List V} {i : Nat} {d : D}, RepL K mg G ρ ds vs → ds[i]? = some d → ∃ v, vs[i]? = some v ∧ Rep K mg G ρ d v
  | _, _, _, _, .nil, e => by simp at e
  | _, _, 0, _, .cons r _, e => by simp at e; subst e; exact ⟨_, rfl, r⟩
  | _, _, i + 1, v, .cons _ t, e => by
    obtain ⟨d, h1, h2⟩ := RepL.at (i := i) (d := v) t (by simpa using e)
    exact ⟨d, by simpa using h1, h2⟩
theorem RepL.append : ∀ {ds es : List D} {vs ws : List V}, RepL K mg G ρ ds vs → RepL K mg G ρ es ws → RepL K mg G ρ (ds ++ es) (vs ++ ws)
  | _, _, _, _, .nil, s => s
  | _, _, _, _, .cons r t, s => .cons r (RepL.append t s)
theorem RepL.take : ∀ {ds : List D} {vs : List V} (n : Nat), RepL K mg G ρ ds vs → RepL K mg G ρ (ds.take n) (vs.take n)
  | _, _, 0, _ => .nil
  | _, _, _ + 1, .nil => .nil
  | _, _, n + 1, .cons r t => .cons r (RepL.take n t)
theorem RepL.drop : ∀ {ds : List D} {vs : List V} (n : Nat), RepL K mg G ρ ds vs → RepL K mg G ρ (ds.drop n) (vs.drop n)
  | _, _, 0, r => r
  | _, _, _ + 1, .nil => .nil
  | _, _, n + 1, .cons _ t => RepL.drop n t
theorem RepL.set {d : D} {v : V} (r : Rep K mg G ρ d v) : ∀ {ds : List D} {vs : List V} (i : Nat), RepL K mg G ρ ds vs → RepL K mg G ρ (ds.set i d) (vs.set i v)
  | _, _, _, .nil => .nil
  | _, _, 0, .cons _ t => .cons r t
  | _, _, i + 1, .cons q t => .cons q (RepL.set r i t)
theorem RepL.reverse {ds : List D} {vs : List V} (r : RepL K mg G ρ ds vs) : RepL K mg G ρ ds.reverse vs.reverse := by
  induction ds generalizing vs with
  | nil => cases r; exact .nil
  | cons d ds ih =>
    cases r with
    | cons h t =>
      rw [List.reverse_cons, List.reverse_cons]
      exact (ih t).append (.cons h .nil)
theorem RepL.cons_inv {d : D} {ds : List D} {vs : List V} (r : RepL K mg G ρ (d :: ds) vs) : ∃ v ws, vs = v :: ws ∧ Rep K mg G ρ d v ∧ RepL K mg G ρ ds ws := by
  cases r with
  | cons h t => exact ⟨_, _, rfl, h, t⟩
theorem RepL.mem {ds : List D} {vs : List V} (r : RepL K mg G ρ ds vs) {v : V} (h : v ∈ vs) : ∃ d ∈ ds, Rep K mg G ρ d v := by
  obtain ⟨i, e⟩ := List.getElem?_of_mem h
  obtain ⟨d, h1, h2⟩ := r.get e
  exact ⟨d, List.mem_of_getElem? h1, h2⟩

structure Grow (G : Hp) (ρ : List Addr) (H : Hp) (G' : Hp) (ρ' : List Addr) (H' : Hp) : Prop where
  sub : Same G G'
  pre : ∀ (n : Nat) (a : Addr), ρ[n]? = some a → ρ'[n]? = some a
  keep : ∀ a o, H a = some o → a ∉ ρ → (∀ ps, o ≠ .tbl ps) → H' a = some o
  live : ∀ a, H' a = none → H a = none
  new : ∀ a o, G' a = some o → G a = some o ∨ H a = none
  newr : ∀ a, a ∈ ρ' → a ∈ ρ ∨ H a = none
theorem Grow.refl : Grow G ρ H G ρ H := ⟨Same.refl _, fun _ _ e => e, fun _ _ e _ _ => e, fun _ e => e, fun _ _ e => .inl e, fun _ e => .inl e⟩
theorem Grow.trans {G1 G2 : Hp} {ρ1 ρ2 : List Addr} {H2 : Hp} (a : Grow G ρ H G1 ρ1 H1) (b : Grow G1 ρ1 H1 G2 ρ2 H2) : Grow G ρ H G2 ρ2 H2 where
  sub := a.sub.trans b.sub
  pre := fun n x e => b.pre n x (a.pre n x e)
  keep := fun x o e n nt => by
    refine b.keep x o (a.keep x o e n nt) (fun hm => ?_) nt
    rcases a.newr x hm with h | h
    · exact n h
    · rw [e] at h; cases h
  live := fun x e => a.live x (b.live x e)
  new := fun x o e => by
    rcases b.new x o e with h | h
    · exact a.new x o h
    · exact .inr (a.live x h)
  newr := fun x e => by
    rcases b.newr x e with h | h
    · exact a.newr x h
    · exact .inr (a.live x h)

def SOk (K : PySem.W.Frag) (mg : Str → Option Value) (G : Hp) (ρ : List Addr) (H : Hp) (a : Addr) : SO → Prop
  | .lst xs => ∃ vs, H a = some (.lst vs) ∧ RepL K mg G ρ xs vs
  | .ins c fs => ∃ C dx fv, mg c = some (.ref C) ∧ H a = some (.ins C dx fv) ∧ fv.map (·.1) = fs.map (·.1) ∧ RepL K mg G ρ (fs.map (·.2)) (fv.map (·.2))
theorem SOk.mono (e : Same G G') (p : ∀ (n : Nat) (a : Addr), ρ[n]? = some a → ρ'[n]? = some a) {a : Addr} (h : H' a = H a) : ∀ {o : SO}, SOk K mg G ρ H a o → SOk K mg G' ρ' H' a o
  | .lst _, ⟨vs, h1, h2⟩ => ⟨vs, h.trans h1, h2.mono e p⟩
  | .ins _ _, ⟨C, dx, fv, h0, h1, h2, h3⟩ => ⟨C, dx, fv, h0, h.trans h1, h2, h3.mono e p⟩
theorem SOk.some {a : Addr} : ∀ {o : SO}, SOk K mg G ρ H a o → ∃ u, H a = some u ∧ ∀ ps, u ≠ .tbl ps
  | .lst _, ⟨vs, h1, _⟩ => ⟨_, h1, fun _ z => by cases z⟩
  | .ins _ _, ⟨C, dx, fv, _, h1, _⟩ => ⟨_, h1, fun _ z => by cases z⟩
structure StOk (K : PySem.W.Frag) (mg : Str → Option Value) (G : Hp) (ρ : List Addr) (S : Store) (H : Hp) : Prop where
  len : ρ.length = S.length
  nd : ρ.Nodup
  out : ∀ a ∈ ρ, G a = none
  obj : ∀ (n : Nat) (a : Addr) (o : SO), ρ[n]? = some a → S[n]? = some o → SOk K mg G ρ H a o
  tb : TabsAll K H
  gt : ∀ (a : Addr) (ps : Array Value), G a ≠ some (.tbl ps)
theorem StOk.mono {S : Store} (s : StOk K mg G ρ S H) (e : Same G G') (h : ∀ a ∈ ρ, H' a = H a) (o : ∀ a ∈ ρ, G' a = none) (t : TabsAll K H → TabsAll K H') (gt : ∀ (a : Addr) (ps : Array Value), G' a ≠ some (.tbl ps)) : StOk K mg G' ρ S H' :=
  ⟨s.len, s.nd, o, fun n a ob h1 h2 => (s.obj n a ob h1 h2).mono e (fun _ _ q => q) (h a (List.mem_of_getElem? h1)), t s.tb, gt⟩

def OwnR (K : PySem.W.Frag) (mg : Str → Option Value) (G : Hp) (ρ : List Addr) : D → HO → Prop
  | .lst xs, .lst vs => vs.length ≤ sizeLine ∧ RepL K mg G ρ xs vs
  | _, _ => False
theorem OwnR.mono (e : Same G G') (p : ∀ (n : Nat) (a : Addr), ρ[n]? = some a → ρ'[n]? = some a) : ∀ {d : D} {o : HO}, OwnR K mg G ρ d o → OwnR K mg G' ρ' d o := by
  intro d o h
  cases d <;> cases o <;> first
    | exact (show False from h).elim
    | exact ⟨h.1, h.2.mono e p⟩
    | exact ⟨h.1.mono e p, h.2.mono e p⟩
theorem OwnR.nt {d : D} {o : HO} (h : OwnR K mg G ρ d o) : (∀ ps, o ≠ .tbl ps) ∧ ∀ a q, o ≠ LamX.CodeO a q := by
  cases d <;> cases o <;> first
    | exact (show False from h).elim
    | exact ⟨fun _ z => (by cases z), fun a q z => (by unfold LamX.CodeO at z; cases z)⟩
def Own (K : PySem.W.Frag) (mg : Str → Option Value) (G : Hp) (ρ : List Addr) (H : Hp) (d : D) (v : V) : Prop :=
  ∃ a o, v = .ref a ∧ H a = some o ∧ OwnR K mg G ρ d o ∧ G a = none ∧ a ∉ ρ
theorem Own.grow {d : D} {v : V} (w : Own K mg G ρ H d v) (g : Grow G ρ H G' ρ' H') : Own K mg G' ρ' H' d v := by
  obtain ⟨a, o, rfl, h, r, n, m⟩ := w
  refine ⟨a, o, rfl, g.keep a o h m (fun ps z => by subst z; cases d <;> exact (show False from r).elim), r.mono g.sub g.pre, ?_, fun hm => ?_⟩
  · cases e : G' a with
    | none => rfl
    | some u =>
      rcases g.new a u e with q | q
      · rw [n] at q; cases q
      · rw [h] at q; cases q
  · rcases g.newr a hm with q | q
    · exact m q
    · rw [h] at q; cases q

abbrev Ev := List (Option D)
structure EvOk (K : PySem.W.Frag) (mg : Str → Option Value) (Ω : List Nat) (G : Hp) (ρ : List Addr) (env : Ev) (σ : L2.St) (H : Hp) : Prop where
  len : env.length = σ.length
  val : ∀ (j : Nat) (d : D), env[j]? = some (some d) → j ∉ Ω → ∃ v, σ[j]? = some (some v) ∧ Rep K mg G ρ d v
  own : ∀ (j : Nat) (d : D), env[j]? = some (some d) → j ∈ Ω → ∃ v, σ[j]? = some (some v) ∧ Own K mg G ρ H d v
  sep : ∀ (i j : Nat) (d e : D) (v : V), i ∈ Ω → j ∈ Ω → i ≠ j → env[i]? = some (some d) → env[j]? = some (some e) → σ[i]? = some (some v) → σ[j]? = some (some v) → False
structure At (K : PySem.W.Frag) (mg : Str → Option Value) (Ω : List Nat) (G : Hp) (ρ : List Addr) (env : Ev) (S : Store) (σ : L2.St) (H : Hp) : Prop where
  sub : Same G H
  st : StOk K mg G ρ S H
  ev : EvOk K mg Ω G ρ env σ H
theorem EvOk.grow {Ω : List Nat} {env : Ev} {σ : L2.St} (x : EvOk K mg Ω G ρ env σ H) (g : Grow G ρ H G' ρ' H') : EvOk K mg Ω G' ρ' env σ H' where
  len := x.len
  val := fun j d e n => let ⟨v, h1, h2⟩ := x.val j d e n; ⟨v, h1, h2.mono g.sub g.pre⟩
  own := fun j d e n => let ⟨v, h1, h2⟩ := x.own j d e n; ⟨v, h1, h2.grow g⟩
  sep := x.sep
theorem At.grow {Ω : List Nat} {env : Ev} {S S' : Store} {σ : L2.St} (x : At K mg Ω G ρ env S σ H) (g : Grow G ρ H G' ρ' H') (s : Same G' H') (st : StOk K mg G' ρ' S' H') : At K mg Ω G' ρ' env S' σ H' := ⟨s, st, x.ev.grow g⟩
theorem Grow.lay {a : Addr} {o : HO} (g : Grow G ρ H G' ρ' H') (hn : H a = none) (hg : G' a = none) : Grow G ρ H (upd G' a o) ρ' H' where
  sub := fun b u e => by
    have e1 := g.sub b u e
    have hb : b ≠ a := fun z => by subst z; rw [hg] at e1; cases e1
    rw [upd_ne hb]
    exact e1
  pre := g.pre
  keep := g.keep
  live := g.live
  new := fun b u e => by
    by_cases hb : b = a
    · subst hb; exact .inr hn
    · rw [upd_ne hb] at e; exact g.new b u e
  newr := g.newr
end
end Mr

namespace Mr
open PySem PySem.Spec PyProof.Rows L2 in
theorem upd_upd {H : Hp} {p : Addr} {o u : HO} : upd (upd H p o) p u = upd H p u := by
  funext b
  by_cases hb : b = p
  · subst hb; rw [upd_same, upd_same]
  · rw [upd_ne hb, upd_ne hb, upd_ne hb]
open PySem PySem.Spec PyProof.Rows L2 in
theorem pe_lk {X : Cx} {e : Expr} {t : TE} (h : PE X e t) : PE X e (fun σ H Q => t σ H fun v H' => ∃ d u, H' d = some u ∧ Mut (some u) ∧ ∀ od, Q v (upd H' d (.frz od u))) := by
  refine ⟨fun pins s σ H Q I hw => ?_⟩
  refine thn (h.run pins s σ _ _ I hw) fun v s1 ⟨x, H1, I2, r, d, u, hd, mu, q⟩ => ?_
  obtain ⟨od, I3⟩ := I2.lock hd mu
  exact ⟨x, _, I3, r, q od⟩
open PySem PySem.Spec PyProof.Rows L2

structure Rl (α β : Type) where
  r : Hp → Hp → List Addr → Hp → α → β → Prop
  mono : ∀ {H H1 G : Hp} {ρ : List Addr} {H' : Hp} {a : α} {b : β}, (∀ x, H1 x = none → H x = none) → r H1 G ρ H' a b → r H G ρ H' a b
section
variable (K : PySem.W.Frag) (mg : Str → Option Value)
def rV : Rl D V := ⟨fun _ G ρ _ d v => Rep K mg G ρ d v, fun _ h => h⟩
def rL (n : Nat) : Rl (List D) (List V) := ⟨fun _ G ρ _ d v => RepL K mg G ρ d v ∧ v.length = n, fun _ h => h⟩
def rB : Rl Bool Bool := ⟨fun _ _ _ _ a b => a = b, fun _ h => h⟩
def rF : Rl D V := ⟨fun H G ρ H' d v => ∃ a o, v = .ref a ∧ H' a = some o ∧ OwnR K mg G ρ d o ∧ G a = none ∧ a ∉ ρ ∧ H a = none, fun m ⟨a, o, h1, h2, h3, h4, h5, h6⟩ => ⟨a, o, h1, h2, h3, h4, h5, m a h6⟩⟩
def RepO (G : Hp) (ρ : List Addr) (H : Hp) (d : D) (v : V) : Prop := Rep K mg G ρ d v ∨ Own K mg G ρ H d v
def rO : Rl D V := ⟨fun _ G ρ H' d v => RepO K mg G ρ H' d v, fun _ h => h⟩
end
section
variable {K : PySem.W.Frag} {mg : Str → Option Value} {G G' H H' H1 : Hp} {ρ ρ' ρ1 : List Addr} {α β γ δ : Type}
theorem RepO.grow {d : D} {v : V} (h : RepO K mg G ρ H d v) (g : Grow G ρ H G' ρ' H') : RepO K mg G' ρ' H' d v := by
  rcases h with h | h
  · exact .inl (h.mono g.sub g.pre)
  · exact .inr (h.grow g)
theorem RepO.lst {xs : List D} {v : V} (h : RepO K mg G ρ H (.lst xs) v) (s : Same G H) : ∃ a vs, v = .ref a ∧ H a = some (.lst vs) ∧ RepL K mg G ρ xs vs ∧ vs.length ≤ sizeLine := by
  rcases h with h | ⟨a, o, rfl, h, r, _⟩
  · cases h with
    | lst h z r => exact ⟨_, _, rfl, s _ _ h, r, z⟩
  · cases o with
    | lst vs => exact ⟨a, vs, rfl, h, r.2, r.1⟩
    | _ => exact (show False from r).elim
theorem RepO.tup {xs : List D} {v : V} (h : RepO K mg G ρ H (.tup xs) v) (s : Same G H) : ∃ a vs, v = .ref a ∧ SqT K H a vs ∧ SqT K G a vs ∧ RepL K mg G ρ xs vs ∧ vs.length ≤ sizeLine := by
  rcases h with h | ⟨a, o, rfl, h, r, _⟩
  · cases h with
    | tup h z r => exact ⟨_, _, rfl, seqT s h, h, r, z⟩
  · cases o <;> exact (show False from r).elim
theorem RepO.dic {ks xs : List D} {v : V} (h : RepO K mg G ρ H (.dic ks xs) v) (s : Same G H) : ∃ a kvs, v = .ref a ∧ Rd H a (.dK kvs) ∧ RepL K mg G ρ ks (kvs.map fun p => kV p.1) ∧ RepL K mg G ρ xs (kvs.map fun p => p.2) := by
  rcases h with h | ⟨a, o, rfl, h, r, _⟩
  · cases h with
    | dic h r q => obtain ⟨o, h⟩ := h; exact ⟨_, _, rfl, .inr ⟨o, s _ _ h⟩, r, q⟩
  · cases o <;> exact (show False from r).elim
theorem RepO.int {i : Int} {v : V} (h : RepO K mg G ρ H (.int i) v) : v = .int i := by
  rcases h with h | ⟨a, o, rfl, h, r, _⟩
  · cases h; rfl
  · cases o <;> exact (show False from r).elim
theorem RepO.bl {i : Bool} {v : V} (h : RepO K mg G ρ H (.bl i) v) : v = .bl i := by
  rcases h with h | ⟨a, o, rfl, h, r, _⟩
  · cases h; rfl
  · cases o <;> exact (show False from r).elim
theorem RepO.non {v : V} (h : RepO K mg G ρ H .non v) : v = .non := by
  rcases h with h | ⟨a, o, rfl, h, r, _⟩
  · cases h; rfl
  · cases o <;> exact (show False from r).elim
theorem RepO.str {i : Tx} {v : V} (h : RepO K mg G ρ H (.str i) v) : v = .str (toS i) ∧ i.length ≤ sizeLine := by
  rcases h with h | ⟨a, o, rfl, h, r, _⟩
  · cases h with
    | str _ h => exact ⟨rfl, h⟩
  · cases o <;> exact (show False from r).elim
theorem RepO.ty {n : String} {v : V} (h : RepO K mg G ρ H (.ty n) v) : v = .ty n := by
  rcases h with h | ⟨a, o, rfl, h, r, _⟩
  · cases h; rfl
  · cases o <;> exact (show False from r).elim
theorem toS_length (s : Tx) : (toS s).length = s.length := by
  show (s.map Char.toNat).toArray.size = _
  simp

def ExcV (K : PySem.W.Frag) (mg : Str → Option Value) (G : Hp) (ρ : List Addr) (H : Hp) (x : Xc) (cls : Value) (od : Option Addr) : Prop :=
  ∃ C, mg x.cls = some (.ref C) ∧ cls = .ref C ∧ C = He.ga K x.cls ∧ clsB K x.cls = true ∧ ((x.args = [] ∧ od = none) ∨ ∃ d v e, x.args = [d] ∧ od = some e ∧ H e = some (.xd [("row", v)]) ∧ Rep K mg G ρ d v)
def Post (K : PySem.W.Frag) (mg : Str → Option Value) (R : Rl α β) (Wx : XK) (Q : β → Hp → Prop) (G : Hp) (ρ : List Addr) (H : Hp) : Rs α → Prop
  | .ok a S' => ∀ G' ρ' H' b, Same G' H' → Grow G ρ H G' ρ' H' → StOk K mg G' ρ' S' H' → R.r H G' ρ' H' a b → Q b H'
  | .exc x S' => ∀ G' ρ' H' cls od, Same G' H' → Grow G ρ H G' ρ' H' → StOk K mg G' ρ' S' H' → ExcV K mg G' ρ' H' x cls od → Wx cls od H'
  | .bad => False
theorem Post.grow {R : Rl α β} {Wx : XK} {Q : β → Hp → Prop} {r : Rs α} (g : Grow G ρ H G' ρ' H') (h : Post K mg R Wx Q G ρ H r) : Post K mg R Wx Q G' ρ' H' r := by
  cases r with
  | ok a S => exact fun G2 ρ2 H2 b s g2 st rl => h G2 ρ2 H2 b s (g.trans g2) st (R.mono (fun x e => g.live x e) rl)
  | exc x S => exact fun G2 ρ2 H2 c d s g2 st e => h G2 ρ2 H2 c d s (g.trans g2) st e
  | bad => exact h
def tG (K : PySem.W.Frag) (mg : Str → Option Value) (R : Rl α β) (W : WX) (Ω : List Nat) (m : Ev → M α) : L2.St → Hp → (β → Hp → Prop) → Prop := fun σ H Q =>
  ∃ G ρ S env, At K mg Ω G ρ env S σ H ∧ Post K mg R (fun c d H => W c d σ H) Q G ρ H (m env S)
theorem Post.thn {R : Rl α β} {R2 : Rl γ δ} {W : WX} {Ω : List Nat} {m : Ev → M α} {env : Ev} {S : Store} {σ : L2.St} {k : α → M γ} {Q : δ → Hp → Prop} {C : β → Hp → Prop} (at_ : At K mg Ω G ρ env S σ H)
    (post : Post K mg R2 (fun c d H => W c d σ H) Q G ρ H ((m env >>= k) S))
    (c : ∀ G1 ρ1 S1 H1 a b, Grow G ρ H G1 ρ1 H1 → At K mg Ω G1 ρ1 env S1 σ H1 → R.r H G1 ρ1 H1 a b → Post K mg R2 (fun c d H => W c d σ H) Q G1 ρ1 H1 (k a S1) → C b H1) : tG K mg R W Ω m σ H C := by
  refine ⟨G, ρ, S, env, at_, ?_⟩
  rw [bind_app] at post
  cases e : m env S with
  | ok a S1 =>
    rw [e] at post
    exact fun G1 ρ1 H1 b s g st rl => c G1 ρ1 S1 H1 a b g (at_.grow g s st) rl (Post.grow g post)
  | exc x S1 =>
    rw [e] at post
    exact post
  | bad =>
    rw [e] at post
    exact post
theorem tG.thn {R : Rl α β} {R2 : Rl γ δ} {W : WX} {Ω : List Nat} {m : Ev → M α} {σ : L2.St} {k : α → Ev → M γ} {Q : δ → Hp → Prop} {C : β → Hp → Prop} (h : tG K mg R2 W Ω (fun env => m env >>= fun a => k a env) σ H Q)
    (c : ∀ G1 ρ1 S1 env H1 a b, At K mg Ω G1 ρ1 env S1 σ H1 → R.r H G1 ρ1 H1 a b → Post K mg R2 (fun c d H => W c d σ H) Q G1 ρ1 H1 (k a env S1) → C b H1) : tG K mg R W Ω m σ H C := by
  obtain ⟨G, ρ, S, env, at_, post⟩ := h
  exact Post.thn at_ post fun G1 ρ1 S1 H1 a b _ at1 rl p1 => c G1 ρ1 S1 env H1 a b at1 rl p1
theorem Post.done {R : Rl α β} {Wx : XK} {Q : β → Hp → Prop} {S : Store} {a : α} {b : β} (post : Post K mg R Wx Q G ρ H (.ok a S)) (s : Same G H) (st : StOk K mg G ρ S H) (rl : R.r H G ρ H a b) : Q b H :=
  post G ρ H b s Grow.refl st rl
end
section
variable {X : Cx} {e : Expr} {t t' : TE}
theorem pe_imp (h : PE X e t) (i : ∀ σ H Q, t' σ H Q → t σ H Q) : PE X e t' := ⟨fun pins s σ H Q I q => h.run pins s σ H Q I (i σ H Q q)⟩
theorem pt_imp {t t' : TT} (h : PT X e t) (i : ∀ σ H Q, t' σ H Q → t σ H Q) : PT X e t' := ⟨fun pins s σ H Q I q => h.run pins s σ H Q I (i σ H Q q)⟩
theorem pw_imp {t t' : TT} (h : PW X e t) (i : ∀ σ H Q, t' σ H Q → t σ H Q) : PW X e t' := ⟨fun wh pins s σ H Q I q => h.run wh pins s σ H Q I (i σ H Q q)⟩
theorem pa_imp {es : List Expr} {t t' : TA} (h : PA X es t) (i : ∀ σ H Q, t' σ H Q → t σ H Q) : PA X es t' := ⟨fun p pins s σ H Q I q => h.run p pins s σ H Q I (i σ H Q q)⟩
theorem ps_imp {st : Stmt} {t t' : TS} (h : PS X st t) (i : ∀ D σ H, t' D σ H → t D σ H) : PS X st t' := ⟨fun pins s σ H D I q => h.run pins s σ H D I (i D σ H q)⟩
theorem pss_imp {st : List Stmt} {t t' : TS} (h : PSs X st t) (i : ∀ D σ H, t' D σ H → t D σ H) : PSs X st t' := ⟨fun pins s σ H D I q => h.run pins s σ H D I (i D σ H q)⟩
theorem pi_imp {tg : Expr} {t t' : TI} (h : PI X tg e t) (i : ∀ σ H Q, t' σ H Q → t σ H Q) : PI X tg e t' := ⟨fun pins s σ H Q I q => h.run pins s σ H Q I (i σ H Q q)⟩
end

abbrev EM := Ev → M D
abbrev TM := Ev → M Bool
abbrev LM := Ev → M (List D)
def eVar (i : Nat) : EM := fun env => match env[i]? with
  | some (some d) => pure d
  | _ => bad
def eC (d : D) : EM := fun _ => pure d
def eBin (op : D → D → M D) (a b : EM) : EM := fun env => a env >>= fun x => b env >>= fun y => op x y
def eUn (op : D → M D) (a : EM) : EM := fun env => a env >>= fun x => op x
def lNil : LM := fun _ => pure []
def lCons (a : EM) (r : LM) : LM := fun env => a env >>= fun x => r env >>= fun xs => pure (x :: xs)
def eFn (f : List D → M D) (as : LM) : EM := fun env => as env >>= fun xs => f xs

section
variable {X : Cx} {W : WX} {Ω : List Nat} {a b c e : Expr} {es : List Expr} {ma mb mc : EM} {ml : LM} {pos : Pos} {x : Str}
abbrev pV (X : Cx) (W : WX) (Ω : List Nat) (e : Expr) (m : EM) : Prop := PE X e (tG X.K X.mg (rV X.K X.mg) W Ω m)
abbrev pF (X : Cx) (W : WX) (Ω : List Nat) (e : Expr) (m : EM) : Prop := PE X e (tG X.K X.mg (rF X.K X.mg) W Ω m)
abbrev pO (X : Cx) (W : WX) (Ω : List Nat) (e : Expr) (m : EM) : Prop := PE X e (tG X.K X.mg (rO X.K X.mg) W Ω m)
abbrev pL (X : Cx) (W : WX) (Ω : List Nat) (es : List Expr) (m : LM) : Prop := PA X es (tG X.K X.mg (rL X.K X.mg es.length) W Ω m)
abbrev pT (X : Cx) (W : WX) (Ω : List Nat) (e : Expr) (m : TM) : Prop := PT X e (tG X.K X.mg rB W Ω m)

theorem post_imp {α β β' : Type} {K : PySem.W.Frag} {mg : Str → Option Value} {R : Rl α β} {R' : Rl α β'} {Wx : XK} {Q : β → Hp → Prop} {Q' : β' → Hp → Prop} {G H : Hp} {ρ : List Addr} {r : Rs α} (h : Post K mg R Wx Q G ρ H r)
    (i : ∀ G' ρ' S' H' a b, Same G' H' → Grow G ρ H G' ρ' H' → StOk K mg G' ρ' S' H' → R'.r H G' ρ' H' a b → (∀ G'' b', Same G'' H' → Grow G ρ H G'' ρ' H' → StOk K mg G'' ρ' S' H' → R.r H G'' ρ' H' a b' → Q b' H') → Q' b H') : Post K mg R' Wx Q' G ρ H r := by
  cases r with
  | ok a S => exact fun G' ρ' H' b s g st rl => i G' ρ' S H' a b s g st rl fun G'' b' s' g' st' rl' => h G'' ρ' H' b' s' g' st' rl'
  | exc x S => exact h
  | bad => exact h
theorem po_V (h : pV X W Ω e ma) : pO X W Ω e ma := pe_imp h fun σ H Q ⟨G, ρ, S, env, at_, p⟩ => ⟨G, ρ, S, env, at_, post_imp p fun G' ρ' S' H' a b s g st rl k => k G' b s g st (.inl rl)⟩
theorem ownLay {K : PySem.W.Frag} {mg : Str → Option Value} {G H : Hp} {ρ : List Addr} {a : Addr} {o : HO} {d : D} (s : Same G H) (h : H a = some o) (r : OwnR K mg G ρ d o) (n : G a = none) : Same (upd G a o) H ∧ Same G (upd G a o) ∧ Rep K mg (upd G a o) ρ d (.ref a) := by
  have e : Same G (upd G a o) := fun b u q => by
    by_cases hb : b = a
    · subst hb; rw [n] at q; cases q
    · rw [upd_ne hb]; exact q
  refine ⟨fun b u q => ?_, e, ?_⟩
  · by_cases hb : b = a
    · subst hb; rw [upd_same] at q; cases q; exact h
    · rw [upd_ne hb] at q; exact s b u q
  · cases d <;> cases o <;> first
      | exact (show False from r).elim
      | exact .lst upd_same r.1 (r.2.mono e fun _ _ q => q)
theorem stLay {K : PySem.W.Frag} {mg : Str → Option Value} {G H : Hp} {ρ : List Addr} {S : Store} {a : Addr} {o : HO} (st : StOk K mg G ρ S H) (n : G a = none) (m : a ∉ ρ) (nt : ∀ ps, o ≠ .tbl ps) : StOk K mg (upd G a o) ρ S H := by
  refine st.mono (fun b u q => ?_) (fun _ _ => rfl) (fun b hb => ?_) id fun b ps z => ?_
  · by_cases hb : b = a
    · subst hb; rw [n] at q; cases q
    · rw [upd_ne hb]; exact q
  · have hne : b ≠ a := fun z => by subst z; exact m hb
    rw [upd_ne hne]
    exact st.out b hb
  · by_cases hb : b = a
    · subst hb; rw [upd_same] at z; exact nt ps (Option.some.inj z)
    · rw [upd_ne hb] at z; exact st.gt b ps z
theorem pv_F (h : pF X W Ω e ma) : pV X W Ω e ma := pe_imp h fun σ H Q ⟨G, ρ, S, env, at_, p⟩ => ⟨G, ρ, S, env, at_, post_imp p fun G' ρ' S' H' d b s g st ⟨x, o, h1, h2, h3, h4, h5, h6⟩ k => by
  subst h1
  obtain ⟨s1, _, r1⟩ := ownLay s h2 h3 h4
  exact k (upd G' x o) (.ref x) s1 (g.lay h6 h4) (stLay st h4 h5 h3.nt.1) r1⟩

theorem pv_var (i : Nat) (hΩ : i ∉ Ω := by decide) (hN : X.N[i]? = some x := by rfl) (hv : Vis X.env.scope x := by first | exact Or.inl rfl | exact Or.inr (Or.inl rfl) | exact Or.inr (Or.inr rfl)) (hd : (x == ("__debug__" : Str)) = false := by decide)
    (hcd : (x == ("__classdict__" : Str)) = false := by decide) : pV X W Ω (.Name x pos) (eVar i) := pe_imp (pe_var hN hv hd hcd) fun σ H Q ⟨G, ρ, S, env, at_, p⟩ => by
  unfold eVar at p
  cases q : env[i]? with
  | none => rw [q] at p; exact (show False from p).elim
  | some o =>
    rw [q] at p
    cases o with
    | none => exact (show False from p).elim
    | some d =>
      obtain ⟨v, h1, h2⟩ := at_.ev.val i d q hΩ
      exact ⟨v, h1, Post.done (S := S) (a := d) p at_.sub at_.st h2⟩
theorem po_var (i : Nat) (hΩ : i ∈ Ω := by decide) (hN : X.N[i]? = some x := by rfl) (hv : Vis X.env.scope x := by first | exact Or.inl rfl | exact Or.inr (Or.inl rfl) | exact Or.inr (Or.inr rfl)) (hd : (x == ("__debug__" : Str)) = false := by decide)
    (hcd : (x == ("__classdict__" : Str)) = false := by decide) : pO X W Ω (.Name x pos) (eVar i) := pe_imp (pe_var hN hv hd hcd) fun σ H Q ⟨G, ρ, S, env, at_, p⟩ => by
  unfold eVar at p
  cases q : env[i]? with
  | none => rw [q] at p; exact (show False from p).elim
  | some o =>
    rw [q] at p
    cases o with
    | none => exact (show False from p).elim
    | some d =>
      obtain ⟨v, h1, h2⟩ := at_.ev.own i d q hΩ
      exact ⟨v, h1, Post.done (S := S) (a := d) p at_.sub at_.st (.inr h2)⟩
theorem pv_c {v : V} {d : D} (h : PE X e (tC v)) (r : ∀ G ρ, Rep X.K X.mg G ρ d v) : pV X W Ω e (eC d) := pe_imp h fun σ H Q ⟨G, ρ, S, env, at_, p⟩ => Post.done (S := S) (a := d) p at_.sub at_.st (r G ρ)
theorem pv_int {i : Int} {j} : pV X W Ω (.Constant (.int i) j pos) (eC (.int i)) := pv_c pe_int fun _ _ => .int i
theorem pv_bl {i : Bool} {j} : pV X W Ω (.Constant (.bool i) j pos) (eC (.bl i)) := pv_c pe_bl fun _ _ => .bl i
theorem pv_non {j} : pV X W Ω (.Constant .none j pos) (eC .non) := pv_c pe_non fun _ _ => .non
theorem pv_str (s : Tx) {z : Str} {j} (h : toS s = z := by rfl) (hz : s.length ≤ sizeLine := by decide) : pV X W Ω (.Constant (.str z) j pos) (eC (.str s)) := by
  subst h
  exact pv_c pe_str fun _ _ => .str s hz
theorem pv_glob {u : Value} {v : V} {d : D} (hg : Gl X x) (hm : X.mg x = some u) (r : RelV v u) (q : ∀ G ρ, Rep X.K X.mg G ρ d v) (hd : (x == ("__debug__" : Str)) = false := by decide) : pV X W Ω (.Name x pos) (eC d) := pv_c (pe_glob hg hm r hd) q
theorem pv_fn {f : Addr} (hg : Gl X x) (hm : X.mg x = some (.ref f)) (hd : (x == ("__debug__" : Str)) = false := by decide) : pV X W Ω (.Name x pos) (eC (.glo x)) := pv_c (pe_glob (v := .ref f) hg hm rfl hd) fun _ _ => .glo hm
theorem pl_nil : pL X W Ω [] lNil := pa_imp pa_nil fun σ H Q ⟨G, ρ, S, env, at_, p⟩ => Post.done (S := S) (a := ([] : List D)) p at_.sub at_.st ⟨.nil, rfl⟩
theorem pl_cons (ha : pV X W Ω e ma) (hr : pL X W Ω es ml) (hs : starEach (e :: es) X.env = (false, eval e X.env) :: starEach es X.env := by rfl) : pL X W Ω (e :: es) (lCons ma ml) := pa_imp (pa_cons ha hr hs) fun σ H Q h =>
  h.thn fun G1 ρ1 S1 env H1 d v at1 r1 p1 => p1.thn at1 fun G2 ρ2 S2 H2 ds vs g at2 r2 p2 => Post.done (S := S2) (a := d :: ds) p2 at2.sub at2.st ⟨.cons (Rep.mono g.sub g.pre r1) r2.1, by rw [List.length_cons, List.length_cons, r2.2]⟩

def OpOk (X : Cx) (r : R2) (op : D → D → M D) : Prop := ∀ (G : Hp) (ρ : List Addr) (S : Store) (H : Hp) (d e : D) (x y : V) (Wx : XK) (Q : VK), Same G H → StOk X.K X.mg G ρ S H → RepO X.K X.mg G ρ H d x → RepO X.K X.mg G ρ H e y →
  Post X.K X.mg (rV X.K X.mg) Wx Q G ρ H (op d e S) → r x y H Q
def UnOk (X : Cx) (r : V → Hp → VK → Prop) (op : D → M D) : Prop := ∀ (G : Hp) (ρ : List Addr) (S : Store) (H : Hp) (d : D) (x : V) (Wx : XK) (Q : VK), Same G H → StOk X.K X.mg G ρ S H → RepO X.K X.mg G ρ H d x →
  Post X.K X.mg (rV X.K X.mg) Wx Q G ρ H (op d S) → r x H Q
theorem tOp_of {r : R2} {op : D → D → M D} (ok : OpOk X r op) {σ : L2.St} {H : Hp} {Q : VK} (h : tG X.K X.mg (rV X.K X.mg) W Ω (eBin op ma mb) σ H Q) :
    tOp r (tG X.K X.mg (rO X.K X.mg) W Ω ma) (tG X.K X.mg (rO X.K X.mg) W Ω mb) σ H Q :=
  tG.thn (k := fun x env => mb env >>= fun y => op x y) h fun G1 ρ1 S1 env H1 d v at1 r1 p1 => p1.thn at1 fun G2 ρ2 S2 H2 e w g at2 r2 p2 => ok G2 ρ2 S2 H2 d e v w _ Q at2.sub at2.st (RepO.grow r1 g) r2 p2
theorem pv_op {o : Operator} {r : R2} {op : D → D → M D} (hr : OpR X (binaryOp o) r) (ok : OpOk X r op) (ha : pO X W Ω a ma) (hb : pO X W Ω b mb) : pV X W Ω (.BinOp a o b pos) (eBin op ma mb) := pe_imp (pe_op hr ha hb) fun _ _ _ h => tOp_of ok h
theorem pv_cmp {o : CmpOp} {r : R2} {op : D → D → M D} (hr : OpR X (compareOp o) r) (ok : OpOk X r op) (ha : pO X W Ω a ma) (hb : pO X W Ω b mb) (hm : behindInMarks o b = false) : pV X W Ω (.Compare a [o] [b] pos) (eBin op ma mb) := pe_imp (pe_cmpR hr ha hb hm) fun _ _ _ h => tOp_of ok h
theorem pv_un {o : UnaryOp} {r : V → Hp → VK → Prop} {op : D → M D} (hr : UnR X (unaryOp o) r) (ok : UnOk X r op) (ha : pO X W Ω a ma) : pV X W Ω (.UnaryOp o a pos) (eUn op ma) := pe_imp (pe_un hr ha) fun _ _ _ h =>
  tG.thn (k := fun x _ => op x) h fun G1 ρ1 S1 env H1 d v at1 r1 p1 => ok G1 ρ1 S1 H1 d v _ _ at1.sub at1.st r1 p1
end
end Mr

namespace Mr
open PySem PySem.Spec PyProof.Rows L2

section
variable {K : PySem.W.Frag} {mg : Str → Option Value} {G G' H H' H1 : Hp} {ρ ρ' ρ1 : List Addr} {S : Store} {Wx : XK} {Q : VK}
theorem g_none (s : Same G H) {p : Addr} (hp : H p = none) : G p = none := by
  cases e : G p with
  | none => rfl
  | some o => rw [s p o e] at hp; cases hp
theorem r_notin (st : StOk K mg G ρ S H) {p : Addr} (hp : H p = none) : p ∉ ρ := fun hm => by
  obtain ⟨n, e⟩ := List.getElem?_of_mem hm
  have hn : n < S.length := by rw [← st.len]; exact (List.getElem?_eq_some_iff.mp e).1
  obtain ⟨o, h, _⟩ := (st.obj n p S[n] e (List.getElem?_eq_getElem hn)).some
  rw [h] at hp; cases hp
theorem up_same (s : Same G H) {p : Addr} {o : HO} (hp : H p = none) : Same G (upd H p o) := fun b u e => by
  have h := s b u e
  rw [upd_ne (ne_of_none h hp)]
  exact h
theorem up_lay (s : Same G H) {p : Addr} {o : HO} : Same (upd G p o) (upd H p o) := fun b u e => by
  by_cases hb : b = p
  · subst hb; rw [upd_same] at e ⊢; exact e
  · rw [upd_ne hb] at e ⊢; exact s b u e
theorem up_sub (s : Same G H) {p : Addr} {o : HO} (hp : H p = none) : Same G (upd G p o) := fun b u e => by
  have h := s b u e
  rw [upd_ne (ne_of_none h hp)]
  exact e
theorem up_grow {p : Addr} {o : HO} (hp : H p = none) : Grow G ρ H G ρ (upd H p o) where
  sub := Same.refl _
  pre := fun _ _ e => e
  keep := fun a u e _ _ => by rw [upd_ne (ne_of_none e hp)]; exact e
  live := fun a e => by
    by_cases hb : a = p
    · subst hb; exact hp
    · rw [upd_ne hb] at e; exact e
  new := fun _ _ e => .inl e
  newr := fun _ e => .inl e
theorem up_growV (s : Same G H) {p : Addr} {o : HO} (hp : H p = none) : Grow G ρ H (upd G p o) ρ (upd H p o) := (up_grow hp).lay hp (g_none s hp)
theorem up_st (st : StOk K mg G ρ S H) {p : Addr} {o : HO} (hp : H p = none) : StOk K mg G ρ S (upd H p o) := st.mono (Same.refl _) (fun a ha => upd_ne (fun z => r_notin st hp (z ▸ ha))) st.out (fun t => t.ext fun b u e => by rw [upd_ne (ne_of_none e hp)]; exact e) st.gt
theorem up_stV (s : Same G H) (st : StOk K mg G ρ S H) {p : Addr} {o : HO} (hp : H p = none) (nt : ∀ ps, o ≠ .tbl ps := by (intro ps z; cases z)) : StOk K mg (upd G p o) ρ S (upd H p o) := stLay (up_st st hp) (g_none s hp) (r_notin st hp) nt
theorem Post.lst {xs : List D} {vs : List V} {p : Addr} (post : Post K mg (rV K mg) Wx Q G ρ H (.ok (.lst xs) S)) (s : Same G H) (st : StOk K mg G ρ S H) (r : RepL K mg G ρ xs vs) (z : vs.length ≤ sizeLine) (hp : H p = none) : Q (.ref p) (upd H p (.lst vs)) :=
  post (upd G p (.lst vs)) ρ _ _ (up_lay s) (up_growV s hp) (up_stV s st hp) (.lst upd_same z (r.mono (up_sub s hp) fun _ _ q => q))
theorem Post.tup {xs : List D} {vs : List V} {p : Addr} (post : Post K mg (rV K mg) Wx Q G ρ H (.ok (.tup xs) S)) (s : Same G H) (st : StOk K mg G ρ S H) (r : RepL K mg G ρ xs vs) (z : vs.length ≤ sizeLine) (hp : H p = none) : Q (.ref p) (upd H p (.tup vs)) :=
  post (upd G p (.tup vs)) ρ _ _ (up_lay s) (up_growV s hp) (up_stV s st hp) (.tup (SqT.of upd_same) z (r.mono (up_sub s hp) fun _ _ q => q))
theorem Post.lstF {xs : List D} {vs : List V} {p : Addr} (post : Post K mg (rF K mg) Wx Q G ρ H (.ok (.lst xs) S)) (s : Same G H) (st : StOk K mg G ρ S H) (r : RepL K mg G ρ xs vs) (z : vs.length ≤ sizeLine) (hp : H p = none) : Q (.ref p) (upd H p (.lst vs)) :=
  post G ρ _ _ (up_same s hp) (up_grow hp) (up_st st hp) ⟨p, _, rfl, upd_same, ⟨z, r⟩, g_none s hp, r_notin st hp, hp⟩
end

theorem Post.lstF' {K : PySem.W.Frag} {mg : Str → Option Value} {G H : Hp} {ρ : List Addr} {S : Store} {Wx : XK} {Q : VK} {xs : List D} {vs : List V} {p : Addr} (post : Post K mg (rF K mg) Wx Q G ρ H (.ok (.lst xs) S)) (s : Same G H) (st : StOk K mg G ρ S H) (r : RepL K mg G ρ xs vs) (z : vs.length ≤ sizeLine) (hp : H p = none) : Q (.ref p) (upd H p (.lst vs)) := Post.lstF post s st r z hp

mutual
def D.plain : D → Bool
  | .non | .bl _ | .int _ | .str _ => true
  | .tup xs | .lst xs => D.plainL xs
  | _ => false
def D.plainL : List D → Bool
  | [] => true
  | x :: xs => x.plain && D.plainL xs
end
mutual
def D.depth : D → Nat
  | .tup xs | .lst xs => D.depthL xs + 1
  | _ => 0
def D.depthL : List D → Nat
  | [] => 0
  | x :: xs => max x.depth (D.depthL xs)
end
mutual
def D.eqv : D → D → Bool
  | .non, .non => true
  | .bl a, .bl b => a == b
  | .bl a, .int j => (if a then 1 else 0) == j
  | .int i, .bl b => i == (if b then 1 else 0)
  | .int i, .int j => i == j
  | .str x, .str y => x == y
  | .lst xs, .lst ys => D.eqvL xs ys
  | .tup xs, .tup ys => D.eqvL xs ys
  | _, _ => false
def D.eqvL : List D → List D → Bool
  | [], [] => true
  | x :: xs, y :: ys => D.eqv x y && D.eqvL xs ys
  | _, _ => false
end
mutual
def D.toP : D → PyData
  | .bl b => .bool b
  | .int i => .int i
  | .str s => .str (toS s)
  | .tup xs => .tuple (D.toPL xs)
  | .lst xs => .list (D.toPL xs)
  | _ => .none
def D.toPL : List D → List PyData
  | [] => []
  | x :: xs => x.toP :: D.toPL xs
end
def D.okD (d : D) : Bool := d.plain && decide (d.depth ≤ 60)
theorem toS_inj {a b : Tx} : toS a = toS b ↔ a = b := by
  refine ⟨fun h => ?_, fun h => by rw [h]⟩
  have h1 : (a.map Char.toNat) = b.map Char.toNat := by
    have := congrArg (fun z : Str => z.cps.toList) h
    simpa [toS] using this
  have inj : Function.Injective Char.toNat := fun x y e => by
    have : x.val = y.val := UInt32.toNat_inj.mp e
    exact Char.ext this
  exact (List.map_inj_right fun x y e => inj e).mp h1
theorem toS_ok (a : Tx) : PyData.strOk (toS a) = true := by
  show (a.map Char.toNat).toArray.all _ = true
  rw [Array.all_eq_true]
  intro i hi
  have hv := (a[i]'(by simpa using hi)).valid
  have h : ((a.map Char.toNat).toArray[i]'hi) = (a[i]'(by simpa using hi)).toNat := by simp
  rw [h]
  refine decide_eq_true ?_
  rcases hv with h1 | ⟨_, h2⟩
  · exact Nat.lt_trans h1 (by decide)
  · exact h2
mutual
theorem D.lay : ∀ d : D, d.plain = true → d.toP.canLay0 = true
  | .non, _ => by simp [D.toP, PyData.canLay0]
  | .bl _, _ => by simp [D.toP, PyData.canLay0]
  | .int _, _ => by simp [D.toP, PyData.canLay0]
  | .str s, _ => by simp [D.toP, PyData.canLay0, toS_ok]
  | .tup xs, h => by simp only [D.toP, PyData.canLay0]; exact D.layL xs (by simpa [D.plain] using h)
  | .lst xs, h => by simp only [D.toP, PyData.canLay0]; exact D.layL xs (by simpa [D.plain] using h)
theorem D.layL : ∀ ds : List D, D.plainL ds = true → PyData.canLayAll0 (D.toPL ds) = true
  | [], _ => by simp [D.toPL, PyData.canLayAll0]
  | x :: xs, h => by
    have h' : x.plain = true ∧ D.plainL xs = true := by simpa [D.plainL] using h
    simp only [D.toPL, PyData.canLayAll0, D.lay x h'.1, D.layL xs h'.2, Bool.and_self]
end
mutual
theorem D.deep : ∀ d : D, d.toP.depth = d.depth
  | .non => by simp only [D.toP, D.depth, PyData.depth]
  | .bl _ => by simp only [D.toP, D.depth, PyData.depth]
  | .int _ => by simp only [D.toP, D.depth, PyData.depth]
  | .str s => by simp only [D.toP, D.depth, PyData.depth]
  | .tup xs => by simp only [D.toP, D.depth, PyData.depth, D.deepL xs]
  | .lst xs => by simp only [D.toP, D.depth, PyData.depth, D.deepL xs]
  | .dic _ _ => by simp only [D.toP, D.depth, PyData.depth]
  | .ref _ => by simp only [D.toP, D.depth, PyData.depth]
  | .ty _ => by simp only [D.toP, D.depth, PyData.depth]
  | .glo _ => by simp only [D.toP, D.depth, PyData.depth]
  | .exc _ _ => by simp only [D.toP, D.depth, PyData.depth]
  | .clo _ _ => by simp only [D.toP, D.depth, PyData.depth]
theorem D.deepL : ∀ ds : List D, PyData.depthAll (D.toPL ds) = D.depthL ds
  | [] => by simp only [D.toPL, D.depthL, PyData.depthAll]
  | x :: xs => by simp only [D.toPL, D.depthL, PyData.depthAll, D.deep x, D.deepL xs]
end
mutual
theorem D.eqv_toP : ∀ d e : D, d.plain = true → e.plain = true → PyData.eqv d.toP e.toP = D.eqv d e
  | .non, e, _, h => by cases e <;> first | (exfalso; simp [D.plain] at h; done) | (simp only [D.toP, PyData.eqv, D.eqv])
  | .bl _, e, _, h => by cases e <;> first | (exfalso; simp [D.plain] at h; done) | (simp only [D.toP, PyData.eqv, D.eqv])
  | .int _, e, _, h => by cases e <;> first | (exfalso; simp [D.plain] at h; done) | (simp only [D.toP, PyData.eqv, D.eqv])
  | .str s, e, _, h => by
    cases e with
    | str y =>
      simp only [D.toP, PyData.eqv, D.eqv]
      rw [Bool.eq_iff_iff, beq_iff_eq, beq_iff_eq]
      exact toS_inj
    | _ => first | (exfalso; simp [D.plain] at h; done) | (simp only [D.toP, PyData.eqv, D.eqv])
  | .tup xs, e, h0, h => by
    cases e with
    | tup ys =>
      simp only [D.toP, PyData.eqv, D.eqv]
      exact D.eqv_toPL xs ys (by simpa [D.plain] using h0) (by simpa [D.plain] using h)
    | _ => first | (exfalso; simp [D.plain] at h; done) | (simp only [D.toP, PyData.eqv, D.eqv])
  | .lst xs, e, h0, h => by
    cases e with
    | lst ys =>
      simp only [D.toP, PyData.eqv, D.eqv]
      exact D.eqv_toPL xs ys (by simpa [D.plain] using h0) (by simpa [D.plain] using h)
    | _ => first | (exfalso; simp [D.plain] at h; done) | (simp only [D.toP, PyData.eqv, D.eqv])
theorem D.eqv_toPL : ∀ ds es : List D, D.plainL ds = true → D.plainL es = true → PyData.eqvAll (D.toPL ds) (D.toPL es) = D.eqvL ds es
  | [], [], _, _ => by simp only [D.toPL, PyData.eqvAll, D.eqvL]
  | [], _ :: _, _, _ => by simp only [D.toPL, PyData.eqvAll, D.eqvL]
  | _ :: _, [], _, _ => by simp only [D.toPL, PyData.eqvAll, D.eqvL]
  | x :: xs, y :: ys, h, h2 => by
    have h' : x.plain = true ∧ D.plainL xs = true := by simpa [D.plainL] using h
    have h2' : y.plain = true ∧ D.plainL ys = true := by simpa [D.plainL] using h2
    simp only [D.toPL, PyData.eqvAll, D.eqvL, D.eqv_toP x y h'.1 h2'.1, D.eqv_toPL xs ys h'.2 h2'.2]
end
theorem D.shaped {d : D} (h : d.okD = true) : SeqAt.shaped d.toP = true := by
  have h' : d.plain = true ∧ d.depth ≤ 60 := by simpa [D.okD] using h
  unfold SeqAt.shaped
  rw [D.lay d h'.1, D.deep]
  exact decide_eq_true (by omega)
section
variable {K : PySem.W.Frag} {mg : Str → Option Value} {G G' H H' H1 : Hp} {ρ ρ' ρ1 : List Addr} {S : Store}
mutual
theorem Rep.dp (s : Same G H) : ∀ (d : D) {v : V}, Rep K mg G ρ d v → d.plain = true → Dp K H v d.toP
  | .non, _, h, _ => by cases h; exact .non
  | .bl b, _, h, _ => by cases h; exact .bl b
  | .int i, _, h, _ => by cases h; exact .int i
  | .str x, _, h, _ => by cases h; exact .str _
  | .tup xs, _, h, z => by
    cases h with
    | tup h _ r => exact .tup (seqT s h) (Rep.dpL s xs r (by simpa [D.plain] using z))
  | .lst xs, _, h, z => by
    cases h with
    | lst h _ r => exact .lst (SqL.of (s _ _ h)) (Rep.dpL s xs r (by simpa [D.plain] using z))
theorem Rep.dpL (s : Same G H) : ∀ (ds : List D) {vs : List V}, RepL K mg G ρ ds vs → D.plainL ds = true → DpAll K H vs (D.toPL ds)
  | [], _, h, _ => by cases h; exact .nil
  | d :: ds, _, h, z => by
    have z' : d.plain = true ∧ D.plainL ds = true := by simpa [D.plainL] using z
    cases h with
    | cons h t => exact .cons (Rep.dp s d h z'.1) (Rep.dpL s ds t z'.2)
end
theorem RepO.dp {d : D} {v : V} (s : Same G H) (h : RepO K mg G ρ H d v) (z : d.plain = true) : Dp K H v d.toP := by
  rcases h with h | ⟨a, o, rfl, h, r, _⟩
  · exact Rep.dp s d h z
  · cases d <;> cases o <;> first
      | exact (show False from r).elim
      | exact .lst (SqL.of h) (Rep.dpL s _ r.2 (by simpa [D.plain] using z))
      | (simp [D.plain] at z)
end

def opAdd : D → D → M D
  | .int a, .int b => pure (.int (a + b))
  | .str a, .str b => if a.length + b.length ≤ sizeLine then pure (.str (a ++ b)) else bad
  | .tup a, .tup b => if a.length + b.length ≤ sizeLine then pure (.tup (a ++ b)) else bad
  | .lst a, .lst b => if a.length + b.length ≤ sizeLine then pure (.lst (a ++ b)) else bad
  | _, _ => bad
def opSub : D → D → M D
  | .int a, .int b => pure (.int (a - b))
  | _, _ => bad
def repL {α : Type} (n : Nat) (xs : List α) : List α := (List.replicate n xs).flatten
def opMul : D → D → M D
  | .int a, .int b => if (-(2 ^ 64) < a ∧ a < 2 ^ 64) ∨ (-(2 ^ 64) < b ∧ b < 2 ^ 64) then pure (.int (a * b)) else bad
  | .str a, .int b => if b ≤ 1000 ∧ -1000 ≤ b ∧ a.length ≤ 1000 then pure (.str (repL b.toNat a)) else bad
  | .lst a, .int b => if b ≤ 1000 ∧ -1000 ≤ b ∧ a.length ≤ 1000 then pure (.lst (repL b.toNat a)) else bad
  | .tup a, .int b => if b ≤ 1000 ∧ -1000 ≤ b ∧ a.length ≤ 1000 then pure (.tup (repL b.toNat a)) else bad
  | _, _ => bad
def opMod : D → D → M D
  | .int a, .int b => if b = 0 then bad else pure (.int (a.fmod b))
  | _, _ => bad
def opDiv : D → D → M D
  | .int a, .int b => if b ≠ 0 ∧ b.natAbs < 1073741824 then pure (.int (a.fdiv b)) else bad
  | _, _ => bad
def opPow : D → D → M D
  | .int a, .int b => if 0 ≤ b ∧ b ≤ 1000000 ∧ a.natAbs < 2 ^ 64 then pure (.int (a ^ b.toNat)) else bad
  | _, _ => bad
def opNeg : D → M D
  | .int a => pure (.int (-a))
  | _ => bad
def opEq (d e : D) : M D := if d.okD && e.okD then pure (.bl (D.eqv d e)) else bad
def opNe (d e : D) : M D := if d.okD && e.okD then pure (.bl (!D.eqv d e)) else bad
def ltT : Tx → Tx → Bool := fun a b => decide (a.map Char.toNat < b.map Char.toNat)
def opLt : D → D → M D
  | .int a, .int b => pure (.bl (decide (a < b)))
  | .str a, .str b => pure (.bl (ltT a b))
  | _, _ => bad
def opLe : D → D → M D
  | .int a, .int b => pure (.bl (decide (a ≤ b)))
  | .str a, .str b => pure (.bl (!ltT b a))
  | _, _ => bad
def opGt : D → D → M D
  | .int a, .int b => pure (.bl (decide (b < a)))
  | _, _ => bad
def opGe : D → D → M D
  | .int a, .int b => pure (.bl (decide (b ≤ a)))
  | _, _ => bad
def D.flat : D → Bool
  | .non | .bl _ | .int _ | .str _ => true
  | _ => false
def dIn (d : D) (xs : List D) : Bool := xs.any fun z => D.eqv z d
def opIn : D → D → M D
  | .str [c], .str b => pure (.bl (decide (c ∈ b)))
  | d, .lst xs => if d.okD && D.okD (.lst xs) then pure (.bl (dIn d xs)) else bad
  | d, .tup xs => if d.flat && xs.all D.flat then pure (.bl (dIn d xs)) else bad
  | _, _ => bad
def opNotIn : D → D → M D
  | .str [c], .str b => pure (.bl (!decide (c ∈ b)))
  | d, .lst xs => if d.okD && D.okD (.lst xs) then pure (.bl (!dIn d xs)) else bad
  | d, .tup xs => if d.flat && xs.all D.flat then pure (.bl (!dIn d xs)) else bad
  | _, _ => bad
def isNon : D → Bool
  | .non => true
  | _ => false
def opIs : D → D → M D
  | d, .non => pure (.bl (isNon d))
  | .bl a, .bl b => pure (.bl (decide (a = b)))
  | _, _ => bad
def opIsNot : D → D → M D
  | d, .non => pure (.bl (!isNon d))
  | .bl a, .bl b => pure (.bl (!decide (a = b)))
  | _, _ => bad
def truD : D → Option Bool
  | .non => some false
  | .bl b => some b
  | .int i => some (i != 0)
  | .str s => some (!s.isEmpty)
  | .tup xs => some (!xs.isEmpty)
  | .lst xs => some (!xs.isEmpty)
  | _ => none
def tru (d : D) : M Bool := match truD d with
  | some b => pure b
  | none => bad
def unB : D → M Bool
  | .bl b => pure b
  | _ => bad
def ixS (i : Int) (n : Nat) (s : Store) : Option D := match s[n]? with
  | some (.lst xs) => atI xs i
  | _ => none
def ofO {α : Type} : Option α → M α
  | some a => pure a
  | none => bad
def opIx : D → D → M D
  | .lst xs, .int i => ofO (atI xs i)
  | .tup xs, .int i => ofO (atI xs i)
  | .str s, .int i => ofO ((atI s i).map fun c => D.str [c])
  | .ref n, .int i => fun s => ofO (ixS i n s) s
  | _, _ => bad
def cutL {α : Type} (xs : List α) (lo hi : Option Int) : List α := (xs.drop (HT.sIx xs.length 0 lo)).take (HT.sIx xs.length xs.length hi - HT.sIx xs.length 0 lo)
def opSl : D → Option Int → Option Int → M D
  | .lst xs, lo, hi => pure (.lst (cutL xs lo hi))
  | .tup xs, lo, hi => pure (.tup (cutL xs lo hi))
  | .str s, lo, hi => pure (.str (cutL s lo hi))
  | _, _, _ => bad
end Mr

namespace Mr
open PySem PySem.Spec PyProof PyProof.Rows L2
theorem tuple_mul1 (l : Addr) (items : Array Value) (n : Nat) (dd : Option Addr) (sl : Array (Option Value)) (x : Int) (u : Tok) (c0 : (decide (x < -(2 ^ 63)) || decide (x ≥ 2 ^ 63)) = false) (c1 : (items.isEmpty || x == 1) = true) :
    Meets (Builtin.«tuple.__mul__» ⟨[.ref l, .int x u], []⟩) (fun _ R s => s.heap.get? l = some { cls := .type "tuple", dict := dd, data := .seq items n, slots := sl } ∧ R (.ok (.ret (Value.ref l))) s) :=
  .of_wp fun prog w A R s h => by
    obtain ⟨hp, g, d, tk, os⟩ := s
    obtain ⟨hl, h⟩ := h
    have f1 := AutoSeq1.idx_int
    wp_walk using wpAny_loadPart' hl
    repeat (first
      | (refine wpAny_ite_false (decide_eq_false (by rw [c0]; exact Bool.false_ne_true)) ?_; wp_walk using wpAny_loadPart' hl)
      | (refine wpAny_ite_true (decide_eq_true c1) ?_; wp_walk using wpAny_loadPart' hl))
    exact ⟨_, rfl, h⟩
theorem tuple_mul0 (l : Addr) (items : Array Value) (n : Nat) (dd : Option Addr) (sl : Array (Option Value)) (x : Int) (u : Tok) (c0 : (decide (x < -(2 ^ 63)) || decide (x ≥ 2 ^ 63)) = false) (c1 : (items.isEmpty || x == 1) = false) (c2 : (decide (x ≤ 0) || items.isEmpty) = true) :
    Meets (Builtin.«tuple.__mul__» ⟨[.ref l, .int x u], []⟩) (fun _ R s => s.heap.get? l = some { cls := .type "tuple", dict := dd, data := .seq items n, slots := sl } ∧
      R (.ok (.ret (Value.ref s.heap.objs.size))) { s with heap := s.heap.push { cls := Value.type "tuple", data := Data.seq #[] }, toks := s.toks }) :=
  .of_wp fun prog w A R s h => by
    obtain ⟨hp, g, d, tk, os⟩ := s
    obtain ⟨hl, h⟩ := h
    have f1 := AutoSeq1.idx_int
    wp_walk using wpAny_loadPart' hl
    repeat (first
      | (refine wpAny_ite_false (decide_eq_false (by rw [c0]; exact Bool.false_ne_true)) ?_; wp_walk using wpAny_loadPart' hl)
      | (refine wpAny_ite_false (decide_eq_false (by rw [c1]; exact Bool.false_ne_true)) ?_; wp_walk using wpAny_loadPart' hl)
      | (refine wpAny_ite_true (decide_eq_true c2) ?_; wp_walk using wpAny_loadPart' hl))
    exact ⟨_, rfl, h⟩
def rRepT1 (K : PySem.W.Frag) : R2 := fun x y H Q => ∃ l k xs, x = .ref l ∧ y = .int k ∧ SqT K H l xs ∧ (xs = [] ∨ k = 1) ∧ -1000 ≤ k ∧ k ≤ 1000 ∧ Q (.ref l) H
def rRepT0 (K : PySem.W.Frag) : R2 := fun x y H Q => ∃ l k xs, x = .ref l ∧ y = .int k ∧ SqT K H l xs ∧ xs ≠ [] ∧ -1000 ≤ k ∧ k ≤ 0 ∧ ∀ p, H p = none → Q (.ref p) (upd H p (.tup []))
section
variable {X : Cx}
theorem op_repT1 : OpR X (binaryOp .Mult) (rRepT1 X.K) := by
  intro pins s σ H x y v u Q I rx ry h
  obtain ⟨l, k, xs, rfl, rfl, hT, hne, h1, h2, q⟩ := h
  cases rx
  obtain ⟨t, rfl⟩ := ry
  obtain ⟨its, r, ⟨⟨cls, dd, data, sl⟩, ho, hc, n, hd⟩, hs⟩ := I.tuple hT
  simp only at hc hd
  subst hc hd
  have hle : its.length = xs.length := r.length.symm
  have c0 : (decide (k < -(2 ^ 63)) || decide (k ≥ 2 ^ 63)) = false := by
    rw [decide_eq_false (by omega), decide_eq_false (by omega)] <;> rfl
  have c1 : (its.toArray.isEmpty || k == 1) = true := by
    rcases hne with e | e
    · subst e
      have : its = [] := List.eq_nil_of_length_eq_zero hle
      subst this
      rfl
    · subst e
      simp
  refine wpAny_binaryOp_repeat_ref (T := "tuple") (U := "int") (by decide) ⟨_, ho, rfl⟩ (fun s' => typeIs_int s' k t) noFill_tuple_mul F.fills_int_mul F.slot_int_rmul repeat_tuple F.slot_int_index.lookup
    (call_meets F.slot_int_rmul (typeIs_int s k t) F.entry_int_rmul (F.args_int_rmul_2 _ _) (int_rmul_tuple k t l its.toArray n dd sl)
      ⟨ho, rfl, ⟨_, ho, rfl⟩, call_meets F.slot_tuple_mul ⟨_, ho, rfl⟩ F.entry_tuple_mul (F.args_tuple_mul_2 _ _) (tuple_mul1 l its.toArray n dd sl k t c0 c1) ⟨ho, ?_⟩⟩)
  exact ⟨.ref l, H, I, rfl, q⟩
theorem op_repT0 : OpR X (binaryOp .Mult) (rRepT0 X.K) := by
  intro pins s σ H x y v u Q I rx ry h
  obtain ⟨l, k, xs, rfl, rfl, hT, hne, h1, h2, q⟩ := h
  cases rx
  obtain ⟨t, rfl⟩ := ry
  obtain ⟨its, r, ⟨⟨cls, dd, data, sl⟩, ho, hc, n, hd⟩, hs⟩ := I.tuple hT
  simp only at hc hd
  subst hc hd
  have hle : its.length = xs.length := r.length.symm
  have hn : its ≠ [] := fun e => hne (by
    rw [e] at hle
    exact List.eq_nil_of_length_eq_zero hle.symm)
  have hi : its.toArray.isEmpty = false := by
    cases its with
    | nil => exact absurd rfl hn
    | cons a b => rfl
  have c0 : (decide (k < -(2 ^ 63)) || decide (k ≥ 2 ^ 63)) = false := by
    rw [decide_eq_false (by omega), decide_eq_false (by omega)] <;> rfl
  have c1 : (its.toArray.isEmpty || k == 1) = false := by
    rw [hi, Bool.false_or]
    exact beq_eq_false_iff_ne.mpr (by omega)
  have c2 : (decide (k ≤ 0) || its.toArray.isEmpty) = true := by
    rw [decide_eq_true h2]
    rfl
  refine wpAny_binaryOp_repeat_ref (T := "tuple") (U := "int") (by decide) ⟨_, ho, rfl⟩ (fun s' => typeIs_int s' k t) noFill_tuple_mul F.fills_int_mul F.slot_int_rmul repeat_tuple F.slot_int_index.lookup
    (call_meets F.slot_int_rmul (typeIs_int s k t) F.entry_int_rmul (F.args_int_rmul_2 _ _) (int_rmul_tuple k t l its.toArray n dd sl)
      ⟨ho, rfl, ⟨_, ho, rfl⟩, call_meets F.slot_tuple_mul ⟨_, ho, rfl⟩ F.entry_tuple_mul (F.args_tuple_mul_2 _ _) (tuple_mul0 l its.toArray n dd sl k t c0 c1 c2) ⟨ho, ?_⟩⟩)
  refine ⟨.ref s.heap.objs.size, _, I.laid (t' := s.toks) (o := .tup []) (fun b ob q => Heap.get?_push_of_some _ q) (Nat.le_refl _) ?_, rfl, q _ (I.hok.fresh (Nat.le_refl _))⟩
  exact ⟨by rw [sizeLine_eq]; simp, [], .nil, IsTup.new _ _⟩
end
end Mr

namespace Mr
open PySem PySem.Spec PyProof.Rows L2
section
variable {X : Cx} {W : WX} {Ω : List Nat} {a b c e : Expr} {es : List Expr} {ma mb mc : EM} {ml : LM} {pos : Pos} {x : Str}
theorem Post.V {K : PySem.W.Frag} {mg : Str → Option Value} {G H : Hp} {ρ : List Addr} {S : Store} {Wx : XK} {Q : VK} {d : D} {v : V} (p : Post K mg (rV K mg) Wx Q G ρ H (.ok d S)) (s : Same G H) (st : StOk K mg G ρ S H) (r : Rep K mg G ρ d v) : Q v H := Post.done p s st r
theorem toS_app (a b : Tx) : toS a ++ toS b = toS (a ++ b) := by
  apply PySem.Str.ext'
  show (a.map Char.toNat).toArray ++ (b.map Char.toNat).toArray = ((a ++ b).map Char.toNat).toArray
  simp
theorem toS_list (a : Tx) : (toS a).cps.toList = a.map Char.toNat := by simp [toS]

def rAdd4 (K : PySem.W.Frag) : R2 := fun x y H Q => rI0 (fun i j => .int (i + j)) x y H Q ∨ (∃ i j, x = .str i ∧ y = .str j ∧ i.length + j.length ≤ sizeLine ∧ Q (.str (i ++ j)) H) ∨ rCatA K x y H Q ∨ rCat x y H Q
theorem or_add : OpR X (binaryOp .Add) (rAdd4 X.K) := op_add.or (op_add_str.or (op_catA.or op_cat))
theorem ok_add : OpOk X (rAdd4 X.K) opAdd := by
  intro G ρ S H d e x y Wx Q s st rd re p
  cases d with
  | int a =>
    cases e with
    | int b => rw [rd.int, re.int]; exact .inl ⟨a, b, rfl, rfl, Post.V (S := S) (d := .int (a + b)) p s st (.int _)⟩
    | _ => exact (show False from p).elim
  | str a =>
    cases e with
    | str b =>
      obtain ⟨rfl, ha⟩ := rd.str
      obtain ⟨rfl, hb⟩ := re.str
      by_cases hz : a.length + b.length ≤ sizeLine
      · simp only [opAdd, if_pos hz] at p
        refine .inr (.inl ⟨toS a, toS b, rfl, rfl, by rw [toS_length, toS_length]; exact hz, ?_⟩)
        rw [toS_app]
        exact Post.V (S := S) (d := .str (a ++ b)) p s st (.str _ (by rw [List.length_append]; exact hz))
      · simp only [opAdd, if_neg hz] at p
        exact (show False from p).elim
    | _ => exact (show False from p).elim
  | tup a =>
    cases e with
    | tup b =>
      by_cases hz : a.length + b.length ≤ sizeLine
      · simp only [opAdd, if_pos hz] at p
        have p : Post X.K X.mg (rV X.K X.mg) Wx Q G ρ H (.ok (.tup (a ++ b)) S) := p
        obtain ⟨pa, va, rfl, ta, ga, ra, za⟩ := rd.tup s
        obtain ⟨pb, vb, rfl, tb, gb, rb, zb⟩ := re.tup s
        have hl : va.length + vb.length ≤ sizeLine := by rw [← ra.length, ← rb.length]; exact hz
        refine .inr (.inr (.inl ⟨pa, pb, va, vb, rfl, rfl, ta, tb, hl, fun h => ?_, fun h h2 => ?_, fun h h2 q hq => ?_⟩))
        · subst h
          cases ra
          exact Post.V p s st (.tup gb zb rb)
        · subst h2
          cases rb
          rw [List.append_nil] at p
          exact Post.V p s st (.tup ga za ra)
        · exact Post.tup p s st (ra.append rb) (by rw [List.length_append]; exact hl) hq
      · simp only [opAdd, if_neg hz] at p
        exact (show False from p).elim
    | _ => exact (show False from p).elim
  | lst a =>
    cases e with
    | lst b =>
      by_cases hz : a.length + b.length ≤ sizeLine
      · simp only [opAdd, if_pos hz] at p
        obtain ⟨pa, va, rfl, ta, ra, za⟩ := rd.lst s
        obtain ⟨pb, vb, rfl, tb, rb, zb⟩ := re.lst s
        have hl : va.length + vb.length ≤ sizeLine := by rw [← ra.length, ← rb.length]; exact hz
        exact .inr (.inr (.inr ⟨pa, pb, va, vb, rfl, rfl, ta, tb, hl, fun q hq => Post.lst (xs := a ++ b) p s st (ra.append rb) (by rw [List.length_append]; exact hl) hq⟩))
      · simp only [opAdd, if_neg hz] at p
        exact (show False from p).elim
    | _ => exact (show False from p).elim
  | _ => exact (show False from p).elim
theorem pv_add (ha : pO X W Ω a ma) (hb : pO X W Ω b mb) : pV X W Ω (.BinOp a .Add b pos) (eBin opAdd ma mb) := pv_op or_add ok_add ha hb

theorem ok_sub : OpOk X (rI0 fun i j => .int (i - j)) opSub := by
  intro G ρ S H d e x y Wx Q s st rd re p
  cases d with
  | int a =>
    cases e with
    | int b => rw [rd.int, re.int]; exact ⟨a, b, rfl, rfl, Post.V (S := S) (d := .int (a - b)) p s st (.int _)⟩
    | _ => exact (show False from p).elim
  | _ => exact (show False from p).elim
theorem pv_sub (ha : pO X W Ω a ma) (hb : pO X W Ω b mb) : pV X W Ω (.BinOp a .Sub b pos) (eBin opSub ma mb) := pv_op op_sub ok_sub ha hb
theorem ok_mod : OpOk X (rI (fun _ j => j ≠ 0) fun i j => .int (i.fmod j)) opMod := by
  intro G ρ S H d e x y Wx Q s st rd re p
  cases d with
  | int a =>
    cases e with
    | int b =>
      rw [rd.int, re.int]
      by_cases hz : b = 0
      · simp only [opMod, if_pos hz] at p
        exact (show False from p).elim
      · simp only [opMod, if_neg hz] at p
        exact ⟨a, b, rfl, rfl, hz, Post.V (S := S) (d := .int (a.fmod b)) p s st (.int _)⟩
    | _ => exact (show False from p).elim
  | _ => exact (show False from p).elim
theorem pv_mod (ha : pO X W Ω a ma) (hb : pO X W Ω b mb) : pV X W Ω (.BinOp a .Mod b pos) (eBin opMod ma mb) := pv_op op_modN ok_mod ha hb
theorem ok_div : OpOk X (rI CDivN fun i j => .int (i.fdiv j)) opDiv := by
  intro G ρ S H d e x y Wx Q s st rd re p
  cases d with
  | int a =>
    cases e with
    | int b =>
      rw [rd.int, re.int]
      by_cases hz : b ≠ 0 ∧ b.natAbs < 1073741824
      · simp only [opDiv, if_pos hz] at p
        exact ⟨a, b, rfl, rfl, hz, Post.V (S := S) (d := .int (a.fdiv b)) p s st (.int _)⟩
      · simp only [opDiv, if_neg hz] at p
        exact (show False from p).elim
    | _ => exact (show False from p).elim
  | _ => exact (show False from p).elim
theorem pv_div (ha : pO X W Ω a ma) (hb : pO X W Ω b mb) : pV X W Ω (.BinOp a .FloorDiv b pos) (eBin opDiv ma mb) := pv_op op_fdivN ok_div ha hb
theorem ok_pow : OpOk X (rI CPow fun i j => .int (i ^ j.toNat)) opPow := by
  intro G ρ S H d e x y Wx Q s st rd re p
  cases d with
  | int a =>
    cases e with
    | int b =>
      rw [rd.int, re.int]
      by_cases hz : 0 ≤ b ∧ b ≤ 1000000 ∧ a.natAbs < 2 ^ 64
      · simp only [opPow, if_pos hz] at p
        exact ⟨a, b, rfl, rfl, hz, Post.V (S := S) (d := .int (a ^ b.toNat)) p s st (.int _)⟩
      · simp only [opPow, if_neg hz] at p
        exact (show False from p).elim
    | _ => exact (show False from p).elim
  | _ => exact (show False from p).elim
theorem pv_pow (ha : pO X W Ω a ma) (hb : pO X W Ω b mb) : pV X W Ω (.BinOp a .Pow b pos) (eBin opPow ma mb) := pv_op op_pow ok_pow ha hb
theorem ok_neg : UnOk X (rU fun i => .int (-i)) opNeg := by
  intro G ρ S H d x Wx Q s st rd p
  cases d with
  | int a => rw [rd.int]; exact ⟨a, rfl, Post.V (S := S) (d := .int (-a)) p s st (.int _)⟩
  | _ => exact (show False from p).elim
theorem pv_neg (ha : pO X W Ω a ma) : pV X W Ω (.UnaryOp .USub a pos) (eUn opNeg ma) := pv_un un_neg ok_neg ha

theorem flat_rep {α : Type} (xs : List α) : ∀ n : Nat, (repL n xs).length = n * xs.length
  | 0 => by simp [repL]
  | n + 1 => by
    have ih := flat_rep xs n
    unfold repL at ih ⊢
    rw [List.replicate_succ, List.flatten_cons, List.length_append, ih, Nat.succ_mul, Nat.add_comm]
theorem RepL.rep {K : PySem.W.Frag} {mg : Str → Option Value} {G : Hp} {ρ : List Addr} {ds : List D} {vs : List V} (h : RepL K mg G ρ ds vs) : ∀ n : Nat, RepL K mg G ρ (repL n ds) (List.replicate n vs).flatten
  | 0 => .nil
  | n + 1 => by
    unfold repL
    rw [List.replicate_succ, List.replicate_succ, List.flatten_cons, List.flatten_cons]
    exact h.append (RepL.rep h n)
theorem rep_le {n m : Nat} (h1 : n ≤ 1000) (h2 : m ≤ 1000) : n * m ≤ sizeLine := by
  have : n * m ≤ 1000 * 1000 := Nat.mul_le_mul h1 h2
  rw [sizeLine_eq]
  omega
theorem mul_toS (a : Tx) (n : Int) : PySem.Txt.mul (toS a) n = toS (repL n.toNat a) := by
  unfold PySem.Txt.mul
  by_cases h1 : n < 1
  · rw [if_pos h1]
    have : n.toNat = 0 := by omega
    rw [this]
    rfl
  · rw [if_neg h1]
    by_cases h2 : (n == 1 || (toS a).length == 0) = true
    · rw [if_pos h2]
      rcases Bool.or_eq_true_iff.mp h2 with h | h
      · have : n.toNat = 1 := by have := beq_iff_eq.mp h; omega
        rw [this]
        show toS a = toS (repL 1 a)
        congr 1
        simp [repL]
      · have : a = [] := by
          have := beq_iff_eq.mp h
          rw [toS_length] at this
          exact List.length_eq_zero_iff.mp this
        subst this
        show toS [] = toS (repL n.toNat [])
        congr 1
        simp [repL]
    · rw [if_neg h2]
      apply PySem.Str.ext'
      show (List.replicate n.toNat (toS a).cps).foldl (· ++ ·) #[] = ((repL n.toNat a).map Char.toNat).toArray
      have f : ∀ (k : Nat) (acc : Array Nat), (List.replicate k (toS a).cps).foldl (· ++ ·) acc = acc ++ ((repL k a).map Char.toNat).toArray := by
        intro k
        induction k with
        | zero => intro acc; simp [repL]
        | succ k ih =>
          intro acc
          rw [List.replicate_succ, List.foldl_cons, ih]
          unfold repL
          rw [List.replicate_succ, List.flatten_cons, List.map_append]
          simp [toS]
      rw [f]
      simp
def rMulS : R2 := fun x y H Q => ∃ (a : Tx) (n : Int), x = .str (toS a) ∧ y = .int n ∧ n ≤ 1000 ∧ -1000 ≤ n ∧ a.length ≤ 1000 ∧ Q (.str (toS (repL n.toNat a))) H
theorem op_mulS : OpR X (binaryOp .Mult) rMulS := by
  intro pins s σ H x y v u Q I rx ry h
  obtain ⟨a, n, rfl, rfl, h1, h2, h3, q⟩ := h
  obtain ⟨t, rfl⟩ := rx
  obtain ⟨t', rfl⟩ := ry
  refine PySem.SB.mul ⟨?_, fun _ _ => ?_, fun _ _ => ?_⟩ fun t' k => ⟨.str _, H, I.tok _, ⟨_, by rw [mul_toS]⟩, q⟩
  · have e1 : decide (n < -(2 ^ 63 : Int)) = false := decide_eq_false (by omega)
    have e2 : decide (n ≥ 2 ^ 63) = false := decide_eq_false (by omega)
    rw [e1, e2]
    rfl
  · rw [toS_length]
    rename_i g1 g2
    have h4 : (a.length : Int) ≤ 1000 := by omega
    have h5 : (1000 : Int) ≤ (2 ^ 63 - 1) / n := by
      have hn : 0 < n := by omega
      exact (Int.le_ediv_iff_mul_le hn).mpr (by omega)
    omega
  · rw [toS_length]
    have hn : n.toNat ≤ 1000 := by omega
    have := rep_le (n := a.length) (m := n.toNat) h3 hn
    unfold Builtin.Str.tooLong
    rw [sizeLine_eq] at this
    exact decide_eq_false (by rw [sizeLine_eq]; omega)
def rMul4 (K : PySem.W.Frag) : R2 := fun x y H Q => rI CMul (fun i j => .int (i * j)) x y H Q ∨ rMulS x y H Q ∨ rRep x y H Q ∨ rRepT K x y H Q ∨ rRepT1 K x y H Q ∨ rRepT0 K x y H Q
theorem or_mul : OpR X (binaryOp .Mult) (rMul4 X.K) := op_mul.or (op_mulS.or (op_rep.or (op_repT.or (op_repT1.or op_repT0))))
theorem ok_mul : OpOk X (rMul4 X.K) opMul := by
  intro G ρ S H d e x y Wx Q s st rd re p
  cases d with
  | int a =>
    cases e with
    | int b =>
      rw [rd.int, re.int]
      by_cases hz : (-(2 ^ 64) < a ∧ a < 2 ^ 64) ∨ (-(2 ^ 64) < b ∧ b < 2 ^ 64)
      · simp only [opMul, if_pos hz] at p
        exact .inl ⟨a, b, rfl, rfl, hz, Post.V (S := S) (d := .int (a * b)) p s st (.int _)⟩
      · simp only [opMul, if_neg hz] at p
        exact (show False from p).elim
    | _ => exact (show False from p).elim
  | str a =>
    cases e with
    | int b =>
      obtain ⟨rfl, ha⟩ := rd.str
      rw [re.int]
      by_cases hz : b ≤ 1000 ∧ -1000 ≤ b ∧ a.length ≤ 1000
      · simp only [opMul, if_pos hz] at p
        refine .inr (.inl ⟨a, b, rfl, rfl, hz.1, hz.2.1, hz.2.2, Post.V (S := S) (d := .str (repL b.toNat a)) p s st (.str _ ?_)⟩)
        rw [flat_rep]
        exact rep_le (by omega) hz.2.2
      · simp only [opMul, if_neg hz] at p
        exact (show False from p).elim
    | _ => exact (show False from p).elim
  | lst a =>
    cases e with
    | int b =>
      rw [re.int]
      by_cases hz : b ≤ 1000 ∧ -1000 ≤ b ∧ a.length ≤ 1000
      · simp only [opMul, if_pos hz] at p
        obtain ⟨pa, va, rfl, ta, ra, za⟩ := rd.lst s
        have hl := ra.length
        have hn : b.toNat ≤ 1000 := by omega
        have h5 := rep_le (n := va.length) (m := b.toNat) (by omega) hn
        refine .inr (.inr (.inl ⟨pa, b, va, rfl, rfl, ta, by omega, by omega, h5, fun q hq => Post.lst (xs := repL b.toNat a) p s st (ra.rep _) ?_ hq⟩))
        have := flat_rep va b.toNat
        unfold repL at this
        rw [this, Nat.mul_comm]
        exact h5
      · simp only [opMul, if_neg hz] at p
        exact (show False from p).elim
    | _ => exact (show False from p).elim
  | tup a =>
    cases e with
    | int b =>
      rw [re.int]
      by_cases hz : b ≤ 1000 ∧ -1000 ≤ b ∧ a.length ≤ 1000
      · simp only [opMul, if_pos hz] at p
        obtain ⟨pa, va, rfl, ta, tg, ra, za⟩ := rd.tup s
        have hl := ra.length
        have hn : b.toNat ≤ 1000 := by omega
        have h5 := rep_le (n := va.length) (m := b.toNat) (by omega) hn
        by_cases h1 : va = [] ∨ b = 1
        · have e : repL b.toNat a = a := by
            rcases h1 with h1 | h1
            · subst h1
              cases ra
              unfold repL
              simp
            · subst h1
              show (List.replicate 1 a).flatten = a
              simp
          rw [e] at p
          exact .inr (.inr (.inr (.inr (.inl ⟨pa, b, va, rfl, rfl, ta, h1, hz.2.1, hz.1, Post.V (S := S) (d := .tup a) p s st (.tup tg za ra)⟩))))
        · have hv : va ≠ [] := fun z => h1 (.inl z)
          have hb1 : b ≠ 1 := fun z => h1 (.inr z)
          by_cases h2 : 2 ≤ b
          · refine .inr (.inr (.inr (.inl ⟨pa, b, va, rfl, rfl, ta, hv, h2, hz.1, by omega, fun q hq => Post.tup (xs := repL b.toNat a) p s st (ra.rep _) ?_ hq⟩)))
            have := flat_rep va b.toNat
            unfold repL at this
            rw [this, Nat.mul_comm]
            exact h5
          · have h0 : b ≤ 0 := by omega
            have e : repL b.toNat a = [] := by
              rw [show b.toNat = 0 by omega]
              rfl
            rw [e] at p
            exact .inr (.inr (.inr (.inr (.inr ⟨pa, b, va, rfl, rfl, ta, hv, hz.2.1, h0, fun q hq => Post.tup (xs := []) p s st .nil (Nat.zero_le _) hq⟩))))
      · simp only [opMul, if_neg hz] at p
        exact (show False from p).elim
    | _ => exact (show False from p).elim
  | _ => exact (show False from p).elim
theorem pv_mul (ha : pO X W Ω a ma) (hb : pO X W Ω b mb) : pV X W Ω (.BinOp a .Mult b pos) (eBin opMul ma mb) := pv_op or_mul ok_mul ha hb

theorem ok_eq : OpOk X (rEqD X.K) opEq := by
  intro G ρ S H d e x y Wx Q s st rd re p
  unfold opEq at p
  by_cases hz : (d.okD && e.okD) = true
  · simp only [if_pos hz] at p
    have h' := Bool.and_eq_true_iff.mp hz
    have pd : d.plain = true := (by simpa [D.okD] using h'.1 : d.plain = true ∧ d.depth ≤ 60).1
    have pe : e.plain = true := (by simpa [D.okD] using h'.2 : e.plain = true ∧ e.depth ≤ 60).1
    refine ⟨d.toP, e.toP, rd.dp s pd, re.dp s pe, D.shaped h'.1, D.shaped h'.2, ?_⟩
    rw [D.eqv_toP d e pd pe]
    exact Post.V (S := S) (d := .bl (D.eqv d e)) p s st (.bl _)
  · simp only [if_neg hz] at p
    exact (show False from p).elim
theorem ok_ne : OpOk X (rNeD X.K) opNe := by
  intro G ρ S H d e x y Wx Q s st rd re p
  unfold opNe at p
  by_cases hz : (d.okD && e.okD) = true
  · simp only [if_pos hz] at p
    have h' := Bool.and_eq_true_iff.mp hz
    have pd : d.plain = true := (by simpa [D.okD] using h'.1 : d.plain = true ∧ d.depth ≤ 60).1
    have pe : e.plain = true := (by simpa [D.okD] using h'.2 : e.plain = true ∧ e.depth ≤ 60).1
    refine ⟨d.toP, e.toP, rd.dp s pd, re.dp s pe, D.shaped h'.1, D.shaped h'.2, ?_⟩
    rw [D.eqv_toP d e pd pe]
    exact Post.V (S := S) (d := .bl (!D.eqv d e)) p s st (.bl _)
  · simp only [if_neg hz] at p
    exact (show False from p).elim
theorem opB_ok {f : Int → Int → Bool} {g : D → D → M D} {r : R2} (hr : ∀ i j H Q, Q (.bl (f i j)) H → r (.int i) (.int j) H Q) (hi : ∀ a b, g (.int a) (.int b) = pure (.bl (f a b)))
    (hs : ∀ a b G ρ S H Wx Q, Same G H → StOk X.K X.mg G ρ S H → Post X.K X.mg (rV X.K X.mg) Wx Q G ρ H (g (.str a) (.str b) S) → r (.str (toS a)) (.str (toS b)) H Q)
    (hb : ∀ d e, (∀ a b, ¬ (d = .int a ∧ e = .int b)) → (∀ a b, ¬ (d = .str a ∧ e = .str b)) → g d e = bad) : OpOk X r g := by
  intro G ρ S H d e x y Wx Q s st rd re p
  by_cases h1 : ∃ a b, d = .int a ∧ e = .int b
  · obtain ⟨a, b, rfl, rfl⟩ := h1
    rw [rd.int, re.int]
    rw [hi] at p
    exact hr a b H Q (Post.V (S := S) (d := .bl (f a b)) p s st (.bl _))
  · by_cases h2 : ∃ a b, d = .str a ∧ e = .str b
    · obtain ⟨a, b, rfl, rfl⟩ := h2
      rw [rd.str.1, re.str.1]
      exact hs a b G ρ S H Wx Q s st p
    · rw [hb d e (fun a b z => h1 ⟨a, b, z⟩) (fun a b z => h2 ⟨a, b, z⟩)] at p
      exact (show False from p).elim
def rLt2 : R2 := fun x y H Q => rI0 (fun i j => .bl (decide (i < j))) x y H Q ∨ ∃ i j, x = .str i ∧ y = .str j ∧ Q (.bl (decide (i.cps.toList < j.cps.toList))) H
theorem or_lt : OpR X (compareOp .Lt) rLt2 := op_lt.or op_lt_str
theorem ok_lt : OpOk X rLt2 opLt := opB_ok (f := fun i j => decide (i < j)) (fun i j H Q q => .inl ⟨i, j, rfl, rfl, q⟩) (fun _ _ => rfl)
  (fun a b G ρ S H Wx Q s st p => .inr ⟨_, _, rfl, rfl, by rw [toS_list, toS_list]; exact Post.V (S := S) (d := .bl (ltT a b)) p s st (.bl _)⟩)
  (fun d e h1 h2 => by cases d <;> cases e <;> first | rfl | exact absurd ⟨rfl, rfl⟩ (h1 _ _) | exact absurd ⟨rfl, rfl⟩ (h2 _ _))
def rLe2 : R2 := fun x y H Q => rI0 (fun i j => .bl (decide (i ≤ j))) x y H Q ∨ ∃ i j, x = .str i ∧ y = .str j ∧ Q (.bl (!decide (j.cps.toList < i.cps.toList))) H
theorem or_le : OpR X (compareOp .LtE) rLe2 := op_le.or op_le_str
theorem ok_le : OpOk X rLe2 opLe := opB_ok (f := fun i j => decide (i ≤ j)) (fun i j H Q q => .inl ⟨i, j, rfl, rfl, q⟩) (fun _ _ => rfl)
  (fun a b G ρ S H Wx Q s st p => .inr ⟨_, _, rfl, rfl, by rw [toS_list, toS_list]; exact Post.V (S := S) (d := .bl (!ltT b a)) p s st (.bl _)⟩)
  (fun d e h1 h2 => by cases d <;> cases e <;> first | rfl | exact absurd ⟨rfl, rfl⟩ (h1 _ _) | exact absurd ⟨rfl, rfl⟩ (h2 _ _))
theorem ok_gt : OpOk X (rI0 fun i j => .bl (decide (j < i))) opGt := opB_ok (f := fun i j => decide (j < i)) (fun i j H Q q => ⟨i, j, rfl, rfl, q⟩) (fun _ _ => rfl) (fun a b G ρ S H Wx Q s st p => (show False from p).elim)
  (fun d e h1 h2 => by cases d <;> cases e <;> first | rfl | exact absurd ⟨rfl, rfl⟩ (h1 _ _) | exact absurd ⟨rfl, rfl⟩ (h2 _ _))
theorem ok_ge : OpOk X (rI0 fun i j => .bl (decide (j ≤ i))) opGe := opB_ok (f := fun i j => decide (j ≤ i)) (fun i j H Q q => ⟨i, j, rfl, rfl, q⟩) (fun _ _ => rfl) (fun a b G ρ S H Wx Q s st p => (show False from p).elim)
  (fun d e h1 h2 => by cases d <;> cases e <;> first | rfl | exact absurd ⟨rfl, rfl⟩ (h1 _ _) | exact absurd ⟨rfl, rfl⟩ (h2 _ _))

theorem isNon_iff {K : PySem.W.Frag} {mg : Str → Option Value} {G H : Hp} {ρ : List Addr} {d : D} {v : V} (r : RepO K mg G ρ H d v) : decide (v = .non) = isNon d := by
  rcases r with r | ⟨a, o, rfl, h, r, _⟩
  · cases r <;> rfl
  · cases d <;> cases o <;> first | exact (show False from r).elim | rfl
def rIs2 : R2 := fun x y H Q => (y = .non ∧ Q (.bl (decide (x = .non))) H) ∨ rIsB x y H Q
def rNot2 : R2 := fun x y H Q => (y = .non ∧ Q (.bl (!decide (x = .non))) H) ∨ rNotB x y H Q
theorem or_is : OpR X (compareOp .Is) rIs2 := op_isN.or op_isBl
theorem or_isnot : OpR X (compareOp .IsNot) rNot2 := op_notN.or op_notBl
theorem ok_is : OpOk X rIs2 opIs := by
  intro G ρ S H d e x y Wx Q s st rd re p
  cases e with
  | non =>
    have hp : Post X.K X.mg (rV X.K X.mg) Wx Q G ρ H (.ok (.bl (isNon d)) S) := by cases d <;> exact p
    refine .inl ⟨re.non, ?_⟩
    rw [isNon_iff rd]
    exact Post.V hp s st (.bl _)
  | bl b =>
    cases d with
    | bl a => exact .inr ⟨a, b, rd.bl, re.bl, Post.V (S := S) (d := .bl (decide (a = b))) p s st (.bl _)⟩
    | _ => exact (show False from p).elim
  | _ => cases d <;> exact (show False from p).elim
theorem ok_isnot : OpOk X rNot2 opIsNot := by
  intro G ρ S H d e x y Wx Q s st rd re p
  cases e with
  | non =>
    have hp : Post X.K X.mg (rV X.K X.mg) Wx Q G ρ H (.ok (.bl (!isNon d)) S) := by cases d <;> exact p
    refine .inl ⟨re.non, ?_⟩
    rw [isNon_iff rd]
    exact Post.V hp s st (.bl _)
  | bl b =>
    cases d with
    | bl a => exact .inr ⟨a, b, rd.bl, re.bl, Post.V (S := S) (d := .bl (!decide (a = b))) p s st (.bl _)⟩
    | _ => exact (show False from p).elim
  | _ => cases d <;> exact (show False from p).elim

def rIn3 (K : PySem.W.Frag) : R2 := fun x y H Q => (∃ (c : Nat) (z : Str), x = .str ⟨#[c]⟩ ∧ y = .str z ∧ Q (.bl (decide (c ∈ z.cps.toList))) H) ∨ rInD K x y H Q ∨ rIn K false x y H Q
def rNin3 (K : PySem.W.Frag) : R2 := fun x y H Q => (∃ (c : Nat) (z : Str), x = .str ⟨#[c]⟩ ∧ y = .str z ∧ Q (.bl (!decide (c ∈ z.cps.toList))) H) ∨ rNotInD K x y H Q ∨ rIn K true x y H Q
theorem or_in (hu : X.A.units + 65 < cLine) : OpR X (compareOp .In) (rIn3 X.K) := op_in_sign.or ((op_inD hu).or op_in_seq)
theorem or_nin (hu : X.A.units + 65 < cLine) : OpR X (compareOp .NotIn) (rNin3 X.K) := op_notIn_sign.or ((op_notInD hu).or op_notIn_seq)
theorem toS_mem (c : Char) (b : Tx) : decide (c.toNat ∈ (toS b).cps.toList) = decide (c ∈ b) := by
  rw [toS_list]
  congr 1
  rw [eq_iff_iff, List.mem_map]
  refine ⟨fun ⟨d, h1, h2⟩ => ?_, fun h => ⟨c, h, rfl⟩⟩
  have : d.val = c.val := UInt32.toNat_inj.mp h2
  rw [← Char.ext this]
  exact h1
theorem anyP (d : D) (hd : d.plain = true) : ∀ xs : List D, D.plainL xs = true → ((D.toPL xs).any fun z => PyData.eqv z d.toP) = dIn d xs
  | [], _ => rfl
  | x :: xs, h => by
    have h' : x.plain = true ∧ D.plainL xs = true := by simpa [D.plainL] using h
    show (PyData.eqv x.toP d.toP || (D.toPL xs).any fun z => PyData.eqv z d.toP) = (D.eqv x d || dIn d xs)
    rw [anyP d hd xs h'.2, D.eqv_toP x d h'.1 hd]
theorem flat_V {K : PySem.W.Frag} {mg : Str → Option Value} {G H : Hp} {ρ : List Addr} {d : D} {v : V} (r : Rep K mg G ρ d v) (h : d.flat = true) : flatV v = true := by
  cases r <;> first | rfl | (simp [D.flat] at h)
theorem flat_eq {K : PySem.W.Frag} {mg : Str → Option Value} {G H : Hp} {ρ : List Addr} {d e : D} {v u : V} (r : Rep K mg G ρ d v) (q : Rep K mg G ρ e u) (h : d.flat = true) (h2 : e.flat = true) : eqV v u = D.eqv d e := by
  cases r <;> cases q <;> first
    | (simp [D.flat] at h; done)
    | (simp [D.flat] at h2; done)
    | (simp only [eqV, D.eqv]; done)
    | (simp [eqV, D.eqv, toS_inj]; done)
    | (simp only [eqV, D.eqv]; rw [Bool.eq_iff_iff]; simp [toS_inj]; done)
theorem flat_all {K : PySem.W.Frag} {mg : Str → Option Value} {G H : Hp} {ρ : List Addr} : ∀ {ds : List D} {vs : List V}, RepL K mg G ρ ds vs → ds.all D.flat = true → vs.all flatV = true
  | _, _, .nil, _ => rfl
  | _, _, .cons r t, h => by
    have h' := Bool.and_eq_true_iff.mp (show (D.flat _ && List.all _ D.flat) = true from h)
    rw [List.all_cons, flat_V (H := H) r h'.1, flat_all (H := H) t h'.2]
    rfl
theorem flat_any {K : PySem.W.Frag} {mg : Str → Option Value} {G H : Hp} {ρ : List Addr} {d : D} {v : V} (q : Rep K mg G ρ d v) (hd : d.flat = true) : ∀ {ds : List D} {vs : List V}, RepL K mg G ρ ds vs → ds.all D.flat = true → inV v vs = dIn d ds
  | _, _, .nil, _ => rfl
  | _, _, .cons r t, h => by
    have h' := Bool.and_eq_true_iff.mp (show (D.flat _ && List.all _ D.flat) = true from h)
    have ih := flat_any (H := H) q hd t h'.2
    unfold inV dIn at ih ⊢
    rw [List.any_cons, List.any_cons, ih, flat_eq (H := H) r q h'.1 hd]
theorem RepO.flatV {K : PySem.W.Frag} {mg : Str → Option Value} {G H : Hp} {ρ : List Addr} {d : D} {v : V} (r : RepO K mg G ρ H d v) (h : d.flat = true) : Rep K mg G ρ d v := by
  rcases r with r | ⟨a, o, rfl, _, r, _⟩
  · exact r
  · cases d <;> cases o <;> first | exact (show False from r).elim | (simp [D.flat] at h)
theorem ok_in : OpOk X (rIn3 X.K) opIn := by
  intro G ρ S H d e x y Wx Q s st rd re p
  cases e with
  | str b =>
    cases d with
    | str cs =>
      cases cs with
      | nil => exact (show False from p).elim
      | cons c cs =>
        cases cs with
        | nil =>
          refine .inl ⟨c.toNat, toS b, rd.str.1, re.str.1, ?_⟩
          rw [toS_mem]
          exact Post.V (S := S) (d := .bl (decide (c ∈ b))) p s st (.bl _)
        | cons _ _ => exact (show False from p).elim
    | _ => exact (show False from p).elim
  | lst xs =>
    have p : Post X.K X.mg (rV X.K X.mg) Wx Q G ρ H ((if d.okD && D.okD (.lst xs) then pure (.bl (dIn d xs)) else bad : M D) S) := by
      cases d with
      | str cs => cases cs with
        | nil => exact p
        | cons c cs => cases cs <;> exact p
      | _ => exact p
    by_cases hz : (d.okD && D.okD (.lst xs)) = true
    · simp only [if_pos hz] at p
      have h' := Bool.and_eq_true_iff.mp hz
      have pd : d.plain = true := (by simpa [D.okD] using h'.1 : d.plain = true ∧ d.depth ≤ 60).1
      have pe : (D.lst xs).plain = true := (by simpa [D.okD] using h'.2 : (D.lst xs).plain = true ∧ (D.lst xs).depth ≤ 60).1
      have px : D.plainL xs = true := by simpa [D.plain] using pe
      have e1 : (D.lst xs).toP = .list (D.toPL xs) := by simp only [D.toP]
      refine .inr (.inl ⟨d.toP, D.toPL xs, rd.dp s pd, e1 ▸ re.dp s pe, D.shaped h'.1, e1 ▸ D.shaped h'.2, ?_⟩)
      rw [anyP d pd xs px]
      exact Post.V (S := S) (d := .bl (dIn d xs)) p s st (.bl _)
    · simp only [if_neg hz] at p
      exact (show False from p).elim
  | tup xs =>
    have p : Post X.K X.mg (rV X.K X.mg) Wx Q G ρ H ((if d.flat && xs.all D.flat then pure (.bl (dIn d xs)) else bad : M D) S) := by
      cases d with
      | str cs => cases cs with
        | nil => exact p
        | cons c cs => cases cs <;> exact p
      | _ => exact p
    by_cases hz : (d.flat && xs.all D.flat) = true
    · simp only [if_pos hz] at p
      have h' := Bool.and_eq_true_iff.mp hz
      obtain ⟨q, vs, rfl, t1, _, r, _⟩ := re.tup s
      have rd' := rd.flatV h'.1
      refine .inr (.inr ⟨q, vs, rfl, .inr t1, flat_V (H := H) rd' h'.1, flat_all (H := H) r h'.2, ?_⟩)
      show Q (.bl (inV x vs)) H
      rw [flat_any (H := H) rd' h'.1 r h'.2]
      exact Post.V (S := S) (d := .bl (dIn d xs)) p s st (.bl _)
    · simp only [if_neg hz] at p
      exact (show False from p).elim
  | _ =>
    cases d with
    | str cs => cases cs with
      | nil => exact (show False from p).elim
      | cons c cs => cases cs <;> exact (show False from p).elim
    | _ => exact (show False from p).elim
theorem ok_nin : OpOk X (rNin3 X.K) opNotIn := by
  intro G ρ S H d e x y Wx Q s st rd re p
  cases e with
  | str b =>
    cases d with
    | str cs =>
      cases cs with
      | nil => exact (show False from p).elim
      | cons c cs =>
        cases cs with
        | nil =>
          refine .inl ⟨c.toNat, toS b, rd.str.1, re.str.1, ?_⟩
          rw [toS_mem]
          exact Post.V (S := S) (d := .bl (!decide (c ∈ b))) p s st (.bl _)
        | cons _ _ => exact (show False from p).elim
    | _ => exact (show False from p).elim
  | lst xs =>
    have p : Post X.K X.mg (rV X.K X.mg) Wx Q G ρ H ((if d.okD && D.okD (.lst xs) then pure (.bl (!dIn d xs)) else bad : M D) S) := by
      cases d with
      | str cs => cases cs with
        | nil => exact p
        | cons c cs => cases cs <;> exact p
      | _ => exact p
    by_cases hz : (d.okD && D.okD (.lst xs)) = true
    · simp only [if_pos hz] at p
      have h' := Bool.and_eq_true_iff.mp hz
      have pd : d.plain = true := (by simpa [D.okD] using h'.1 : d.plain = true ∧ d.depth ≤ 60).1
      have pe : (D.lst xs).plain = true := (by simpa [D.okD] using h'.2 : (D.lst xs).plain = true ∧ (D.lst xs).depth ≤ 60).1
      have px : D.plainL xs = true := by simpa [D.plain] using pe
      have e1 : (D.lst xs).toP = .list (D.toPL xs) := by simp only [D.toP]
      refine .inr (.inl ⟨d.toP, D.toPL xs, rd.dp s pd, e1 ▸ re.dp s pe, D.shaped h'.1, e1 ▸ D.shaped h'.2, ?_⟩)
      rw [anyP d pd xs px]
      exact Post.V (S := S) (d := .bl (!dIn d xs)) p s st (.bl _)
    · simp only [if_neg hz] at p
      exact (show False from p).elim
  | tup xs =>
    have p : Post X.K X.mg (rV X.K X.mg) Wx Q G ρ H ((if d.flat && xs.all D.flat then pure (.bl (!dIn d xs)) else bad : M D) S) := by
      cases d with
      | str cs => cases cs with
        | nil => exact p
        | cons c cs => cases cs <;> exact p
      | _ => exact p
    by_cases hz : (d.flat && xs.all D.flat) = true
    · simp only [if_pos hz] at p
      have h' := Bool.and_eq_true_iff.mp hz
      obtain ⟨q, vs, rfl, t1, _, r, _⟩ := re.tup s
      have rd' := rd.flatV h'.1
      refine .inr (.inr ⟨q, vs, rfl, .inr t1, flat_V (H := H) rd' h'.1, flat_all (H := H) r h'.2, ?_⟩)
      show Q (.bl (!inV x vs)) H
      rw [flat_any (H := H) rd' h'.1 r h'.2]
      exact Post.V (S := S) (d := .bl (!dIn d xs)) p s st (.bl _)
    · simp only [if_neg hz] at p
      exact (show False from p).elim
  | _ =>
    cases d with
    | str cs => cases cs with
      | nil => exact (show False from p).elim
      | cons c cs => cases cs <;> exact (show False from p).elim
    | _ => exact (show False from p).elim
end
end Mr

namespace Mr
open PySem PySem.Spec PyProof.Rows L2
section
variable {α β γ δ : Type} {K : PySem.W.Frag} {mg : Str → Option Value} {G G' H H' H1 : Hp} {ρ ρ' ρ1 : List Addr} {S : Store}
theorem Post.sub {R : Rl α β} {R2 : Rl γ δ} {Wx : XK} {m : M α} {k : α → M γ} {Q : δ → Hp → Prop} {C : β → Hp → Prop} (post : Post K mg R2 Wx Q G ρ H ((m >>= k) S))
    (c : ∀ G1 ρ1 S1 H1 a b, Same G1 H1 → Grow G ρ H G1 ρ1 H1 → StOk K mg G1 ρ1 S1 H1 → R.r H G1 ρ1 H1 a b → Post K mg R2 Wx Q G1 ρ1 H1 (k a S1) → C b H1) : Post K mg R Wx C G ρ H (m S) := by
  rw [bind_app] at post
  cases e : m S with
  | ok a S1 =>
    rw [e] at post
    exact fun G1 ρ1 H1 b s g st rl => c G1 ρ1 S1 H1 a b s g st rl (Post.grow g post)
  | exc x S1 =>
    rw [e] at post
    exact post
  | bad =>
    rw [e] at post
    exact post
end
section
variable {X : Cx} {W : WX} {Ω : List Nat} {a b c e : Expr} {es rest : List Expr} {ma mb mc : EM} {ml : LM} {pos : Pos} {x : Str} {K : PySem.W.Frag} {mg : Str → Option Value} {G G' H H' H1 : Hp} {ρ ρ' ρ1 : List Addr} {S : Store}

theorem RepL.atI {ds : List D} {vs : List V} {i : Int} {d : D} (r : RepL K mg G ρ ds vs) (h : atI ds i = some d) : ∃ v, L2.atI vs i = some v ∧ Rep K mg G ρ d v := by
  unfold L2.atI at h ⊢
  rw [← r.length]
  cases q : ixN ds.length i with
  | none => rw [q] at h; cases h
  | some j =>
    rw [q] at h
    exact r.at (show ds[j]? = some d from h)
theorem toS_at {s : Tx} {i : Int} {c : Char} (h : atI s i = some c) : atI (toS s).cps.toList i = some c.toNat := by
  rw [toS_list]
  unfold L2.atI at h ⊢
  rw [List.length_map]
  cases q : ixN s.length i with
  | none => rw [q] at h; cases h
  | some j =>
    rw [q] at h
    have h : s[j]? = some c := h
    show (s.map Char.toNat)[j]? = some c.toNat
    rw [List.getElem?_map, h]
    rfl
theorem ok_ix : OpOk X (rIx X.K) opIx := by
  intro G ρ S H d e x y Wx Q s st rd re p
  cases e with
  | int i =>
    rw [re.int]
    cases d with
    | lst xs =>
      obtain ⟨q, vs, rfl, h1, r, z⟩ := rd.lst s
      have p : Post X.K X.mg (rV X.K X.mg) Wx Q G ρ H (ofO (atI xs i) S) := p
      cases h : atI xs i with
      | none => rw [h] at p; exact (show False from p).elim
      | some u =>
        rw [h] at p
        obtain ⟨v, h2, h3⟩ := r.atI h
        exact .inl ⟨q, vs, i, v, rfl, rfl, SqL.of h1, h2, Post.V (S := S) (d := u) p s st h3⟩
    | tup xs =>
      obtain ⟨q, vs, rfl, h1, _, r, z⟩ := rd.tup s
      have p : Post X.K X.mg (rV X.K X.mg) Wx Q G ρ H (ofO (atI xs i) S) := p
      cases h : atI xs i with
      | none => rw [h] at p; exact (show False from p).elim
      | some u =>
        rw [h] at p
        obtain ⟨v, h2, h3⟩ := r.atI h
        exact .inr (.inl ⟨q, vs, i, v, rfl, rfl, h1, h2, Post.V (S := S) (d := u) p s st h3⟩)
    | str cs =>
      have p : Post X.K X.mg (rV X.K X.mg) Wx Q G ρ H (ofO ((atI cs i).map fun c => D.str [c]) S) := p
      obtain ⟨rfl, hz⟩ := rd.str
      cases h : atI cs i with
      | none => rw [h] at p; exact (show False from p).elim
      | some c =>
        rw [h] at p
        exact .inr (.inr ⟨toS cs, i, c.toNat, rfl, rfl, by rw [toS_length]; exact hz, toS_at h, Post.V (S := S) (d := .str [c]) p s st (.str [c] (by show 1 ≤ sizeLine; decide))⟩)
    | ref n =>
      have p : Post X.K X.mg (rV X.K X.mg) Wx Q G ρ H (ofO (ixS i n S) S) := p
      have rd : Rep X.K X.mg G ρ (.ref n) x := by
        rcases rd with rd | ⟨a, o, rfl, _, r, _⟩
        · exact rd
        · cases o <;> exact (show False from r).elim
      cases rd with
      | ref hn =>
        unfold ixS at p
        cases q : S[n]? with
        | none => rw [q] at p; exact (show False from p).elim
        | some so =>
          rw [q] at p
          cases so with
          | lst xs =>
            obtain ⟨vs, h1, r⟩ := st.obj _ _ _ hn q
            have p : Post X.K X.mg (rV X.K X.mg) Wx Q G ρ H (ofO (atI xs i) S) := p
            cases h : atI xs i with
            | none => rw [h] at p; exact (show False from p).elim
            | some u =>
              rw [h] at p
              obtain ⟨v, h2, h3⟩ := r.atI h
              exact .inl ⟨_, vs, i, v, rfl, rfl, SqL.of h1, h2, Post.V (S := S) (d := u) p s st h3⟩
          | ins _ _ => exact (show False from p).elim
    | _ => exact (show False from p).elim
  | _ => cases d <;> exact (show False from p).elim
theorem pv_ix (ha : pO X W Ω a ma) (hb : pO X W Ω b mb) (hs : PlainIx b := by intro _ _; rfl) : pV X W Ω (.Subscript a b pos) (eBin opIx ma mb) := pe_imp (pe_ix ix_seq ha hb hs) fun _ _ _ h => tOp_of ok_ix h

def rOp : Rl (Option Int) (Option Int) := ⟨fun _ _ _ _ a b => a = b, fun _ h => h⟩
abbrev PM := Ev → M (Option Int)
def pNo : PM := fun _ => pure none
def asI : D → M (Option Int)
  | .int i => pure (some i)
  | _ => bad
def pSome (m : EM) : PM := fun env => m env >>= asI
abbrev pP (X : Cx) (W : WX) (Ω : List Nat) (o : Option Expr) (m : PM) : Prop := PO X o (tG X.K X.mg rOp W Ω m)
theorem po_imp {o : Option Expr} {t t' : TO} (h : PO X o t) (i : ∀ σ H Q, t' σ H Q → t σ H Q) : PO X o t' := ⟨fun pins s σ H Q I q => h.run pins s σ H Q I (i σ H Q q)⟩
theorem pp_no : pP X W Ω none pNo := po_imp po_none fun σ H Q ⟨G, ρ, S, env, at_, p⟩ => Post.done (S := S) (a := (none : Option Int)) p at_.sub at_.st rfl
theorem pp_some (h : pO X W Ω e ma) : pP X W Ω (some e) (pSome ma) := po_imp (po_some h) fun σ H Q h => tG.thn (k := fun d _ => asI d) h fun G1 ρ1 S1 env H1 d v at1 r1 p1 => by
  cases d with
  | int i =>
    refine ⟨i, r1.int, ?_⟩
    exact Post.done (S := S1) (a := some i) p1 at1.sub at1.st rfl
  | _ => exact (show False from p1).elim
def eSl (a : EM) (lo hi : PM) : EM := fun env => a env >>= fun x => lo env >>= fun l => hi env >>= fun h => opSl x l h
theorem RepL.cut {ds : List D} {vs : List V} (r : RepL K mg G ρ ds vs) (lo hi : Option Int) : RepL K mg G ρ (cutL ds lo hi) (cutV vs lo hi) := by
  unfold cutL cutV
  rw [r.length]
  exact (r.drop _).take _
theorem cut_whole {α : Type} {xs : List α} {lo hi : Option Int} (h1 : HT.sIx xs.length 0 lo = 0) (h2 : HT.sIx xs.length xs.length hi = xs.length) : cutL xs lo hi = xs := by
  unfold cutL
  rw [h1, h2]
  simp
theorem cut_str (s : Tx) (lo hi : Option Int) : cutS (toS s) lo hi = toS (cutL s lo hi) := by
  apply PySem.Str.ext'
  unfold cutS cutL
  show (_ : List Nat).toArray = _
  rw [toS_list, toS_length]
  simp [toS, List.map_drop, List.map_take]
theorem cutL_length {α : Type} (xs : List α) (lo hi : Option Int) : (cutL xs lo hi).length ≤ xs.length := by
  unfold cutL
  rw [List.length_take, List.length_drop]
  omega
def rSl3 (K : PySem.W.Frag) : V → Option Int → Option Int → Hp → VK → Prop := fun x lo hi H Q => rSlL K x lo hi H Q ∨ rSlA K x lo hi H Q ∨ rSlS x lo hi H Q
theorem sl_3 : SlR X (rSl3 X.K) := sl_list.or (sl_tupA.or sl_str)
theorem pv_sl {lo hi : Option Expr} {p2 : Pos} {ml mh : PM} (ha : pO X W Ω a ma) (hl : pP X W Ω lo ml) (hh : pP X W Ω hi mh) : pV X W Ω (.Subscript a (.Slice lo hi none p2) pos) (eSl ma ml mh) :=
  pe_imp (pe_slice sl_3 ha hl hh) fun σ H Q h => tG.thn (k := fun x env => ml env >>= fun l => mh env >>= fun u => opSl x l u) h fun G1 ρ1 S1 env H1 d v at1 r1 p1 =>
    Post.thn (m := ml) (k := fun l => mh env >>= fun u => opSl d l u) at1 p1 fun G2 ρ2 S2 H2 l l' g2 at2 r2 p2 => Post.thn (m := mh) (k := fun u => opSl d l u) at2 p2 fun G3 ρ3 S3 H3 u u' g3 at3 r3 p3 => by
      have r1 := (r1.grow g2).grow g3
      cases (show l = l' from r2)
      cases (show u = u' from r3)
      cases d with
      | lst xs =>
        obtain ⟨q, vs, rfl, h1, r, z⟩ := r1.lst at3.sub
        exact .inl ⟨q, vs, rfl, SqL.of h1, fun p hp => Post.lst (S := S3) (xs := cutL xs l u) p3 at3.sub at3.st (r.cut l u) (Nat.le_trans (cutV_length _ _ _) z) hp⟩
      | tup xs =>
        obtain ⟨q, vs, rfl, h1, h0, r, z⟩ := r1.tup at3.sub
        refine .inr (.inl ⟨q, vs, rfl, h1, fun ⟨e1, e2⟩ => ?_, fun _ p hp => Post.tup (S := S3) (xs := cutL xs l u) p3 at3.sub at3.st (r.cut l u) (Nat.le_trans (cutV_length _ _ _) z) hp⟩)
        have e : cutL xs l u = xs := by
          rw [← r.length] at e1 e2
          exact cut_whole e1 e2
        have p3 : Post X.K X.mg (rV X.K X.mg) (fun c d H => W c d σ H) Q G3 ρ3 H3 (.ok (.tup (cutL xs l u)) S3) := p3
        rw [e] at p3
        exact Post.V p3 at3.sub at3.st (.tup h0 z r)
      | str cs =>
        obtain ⟨rfl, hz⟩ := r1.str
        refine .inr (.inr ⟨toS cs, rfl, by rw [toS_length]; exact hz, ?_⟩)
        rw [cut_str]
        exact Post.V (S := S3) (d := .str (cutL cs l u)) p3 at3.sub at3.st (.str _ (Nat.le_trans (cutL_length _ _ _) hz))
      | _ => exact (show False from p3).elim
structure CmpOk (X : Cx) (o : CmpOp) (op : D → D → M D) : Prop where
  ex : ∃ r : R2, OpR X (compareOp o) r ∧ OpOk X r op
theorem c_eq (hu : X.A.units + 64 < cLine) : CmpOk X .Eq opEq := ⟨⟨_, op_eqD hu, ok_eq⟩⟩
theorem c_ne (hu : X.A.units + 64 < cLine) : CmpOk X .NotEq opNe := ⟨⟨_, op_neD hu, ok_ne⟩⟩
theorem c_lt : CmpOk X .Lt opLt := ⟨⟨_, or_lt, ok_lt⟩⟩
theorem c_le : CmpOk X .LtE opLe := ⟨⟨_, or_le, ok_le⟩⟩
theorem c_gt : CmpOk X .Gt opGt := ⟨⟨_, op_gt, ok_gt⟩⟩
theorem c_ge : CmpOk X .GtE opGe := ⟨⟨_, op_ge, ok_ge⟩⟩
theorem c_is : CmpOk X .Is opIs := ⟨⟨_, or_is, ok_is⟩⟩
theorem c_isnot : CmpOk X .IsNot opIsNot := ⟨⟨_, or_isnot, ok_isnot⟩⟩
theorem c_in (hu : X.A.units + 65 < cLine) : CmpOk X .In opIn := ⟨⟨_, or_in hu, ok_in⟩⟩
theorem c_nin (hu : X.A.units + 65 < cLine) : CmpOk X .NotIn opNotIn := ⟨⟨_, or_nin hu, ok_nin⟩⟩
theorem pv_c1 {o : CmpOp} {op : D → D → M D} (h : CmpOk X o op) (ha : pO X W Ω a ma) (hb : pO X W Ω b mb) (hm : behindInMarks o b = false) : pV X W Ω (.Compare a [o] [b] pos) (eBin op ma mb) := by
  obtain ⟨r, h1, h2⟩ := h.ex
  exact pv_cmp h1 h2 ha hb hm
def tBin (op : D → D → M D) (a b : EM) : TM := fun env => a env >>= fun x => b env >>= fun y => op x y >>= unB
theorem unB_post {Wx : XK} {Q : Bool → Hp → Prop} {d : D} {v : V} (p : Post K mg rB Wx Q G ρ H (unB d S)) (s : Same G H) (st : StOk K mg G ρ S H) (r : Rep K mg G ρ d v) : ∃ k, v = .bl k ∧ Q k H := by
  cases d with
  | bl k => cases r; exact ⟨k, rfl, Post.done (S := S) (a := k) p s st rfl⟩
  | _ => exact (show False from p).elim
theorem pt_c1 {o : CmpOp} {op : D → D → M D} (h : CmpOk X o op) (ha : pO X W Ω a ma) (hb : pO X W Ω b mb) (hm : behindInMarks o b = false) : pT X W Ω (.Compare a [o] [b] pos) (tBin op ma mb) := by
  obtain ⟨r, h1, h2⟩ := h.ex
  refine pt_imp (pt_cmpR h1 ha hb hm) fun σ H Q h => ?_
  exact tG.thn (k := fun x env => mb env >>= fun y => op x y >>= unB) h fun G1 ρ1 S1 env H1 d v at1 r1 p1 => p1.thn at1 fun G2 ρ2 S2 H2 e w g at2 r2 p2 =>
    h2 G2 ρ2 S2 H2 d e v w _ _ at2.sub at2.st (RepO.grow r1 g) r2 (Post.sub p2 fun G3 ρ3 S3 H3 z u s3 g3 st3 r3 p3 => unB_post p3 s3 st3 r3)
def eChain (op op' : D → D → M D) (a b c : EM) : EM := fun env => a env >>= fun x => b env >>= fun y => op x y >>= unB >>= fun k => if k then c env >>= fun z => op' y z else pure (.bl false)
def tChn (op op' : D → D → M D) (a b c : EM) : TM := fun env => a env >>= fun x => b env >>= fun y => op x y >>= unB >>= fun k => if k then c env >>= fun z => op' y z >>= unB else pure false
theorem At.of {env : Ev} {σ : L2.St} (x : At K mg Ω G ρ env S σ H) {S' : Store} (s : Same G' H') (g : Grow G ρ H G' ρ' H') (st : StOk K mg G' ρ' S' H') : At K mg Ω G' ρ' env S' σ H' := x.grow g s st
theorem pv_chain {o o' : CmpOp} {op op' : D → D → M D} (h : CmpOk X o op) (h' : CmpOk X o' op') (ha : pO X W Ω a ma) (hb : pO X W Ω b mb) (hc : pO X W Ω c mc) (hm : lastMarks [o, o'] [b, c] = false := by with_unfolding_all rfl) :
    pV X W Ω (.Compare a [o, o'] [b, c] pos) (eChain op op' ma mb mc) := by
  obtain ⟨r, h1, h2⟩ := h.ex
  obtain ⟨r', h1', h2'⟩ := h'.ex
  refine pe_imp (pe_chain h1 h1' ha hb hc hm) fun σ H Q h => ?_
  refine tG.thn (k := fun x env => mb env >>= fun y => op x y >>= unB >>= fun k => if k then mc env >>= fun z => op' y z else pure (.bl false)) h fun G1 ρ1 S1 env H1 d v at1 r1 p1 => p1.thn at1 fun G2 ρ2 S2 H2 e w g at2 r2 p2 => ?_
  have p2' : Post X.K X.mg (rV X.K X.mg) (fun c d H => W c d σ H) Q G2 ρ2 H2 ((op d e >>= fun z => unB z >>= fun k => if k then mc env >>= fun z => op' e z else pure (.bl false)) S2) := by rw [← bind_assocM]; exact p2
  refine h2 G2 ρ2 S2 H2 d e v w _ _ at2.sub at2.st (RepO.grow r1 g) r2 (Post.sub p2' fun G3 ρ3 S3 H3 z u s3 g3 st3 r3 p3 => ?_)
  cases z with
  | bl k =>
    cases (show Rep X.K X.mg G3 ρ3 (.bl k) u from r3)
    refine ⟨k, rfl, ?_⟩
    cases k with
    | true =>
      rw [if_pos rfl]
      have p3 : Post X.K X.mg (rV X.K X.mg) (fun c d H => W c d σ H) Q G3 ρ3 H3 ((mc env >>= fun z => op' e z) S3) := p3
      exact p3.thn (at2.grow g3 s3 st3) fun G4 ρ4 S4 H4 z w' g4 at4 r4 p4 => h2' G4 ρ4 S4 H4 e z w w' _ Q at4.sub at4.st (RepO.grow (RepO.grow r2 g3) g4) r4 p4
    | false =>
      rw [if_neg Bool.false_ne_true]
      exact Post.V (S := S3) (d := .bl false) p3 s3 st3 (.bl false)
  | _ => exact (show False from p3).elim
theorem pt_chain' {o o' : CmpOp} {op op' : D → D → M D} (h : CmpOk X o op) (h' : CmpOk X o' op') (ha : pO X W Ω a ma) (hb : pO X W Ω b mb) (hc : pO X W Ω c mc) (hm : lastMarks [o, o'] [b, c] = false := by with_unfolding_all rfl) :
    pT X W Ω (.Compare a [o, o'] [b, c] pos) (tChn op op' ma mb mc) := by
  obtain ⟨r, h1, h2⟩ := h.ex
  obtain ⟨r', h1', h2'⟩ := h'.ex
  refine pt_imp (pt_chain h1 h1' ha hb hc hm) fun σ H Q h => ?_
  refine tG.thn (k := fun x env => mb env >>= fun y => op x y >>= unB >>= fun k => if k then mc env >>= fun z => op' y z >>= unB else pure false) h fun G1 ρ1 S1 env H1 d v at1 r1 p1 => p1.thn at1 fun G2 ρ2 S2 H2 e w g at2 r2 p2 => ?_
  have p2' : Post X.K X.mg rB (fun c d H => W c d σ H) Q G2 ρ2 H2 ((op d e >>= fun z => unB z >>= fun k => if k then mc env >>= fun z => op' e z >>= unB else pure false) S2) := by rw [← bind_assocM]; exact p2
  refine h2 G2 ρ2 S2 H2 d e v w _ _ at2.sub at2.st (RepO.grow r1 g) r2 (Post.sub p2' fun G3 ρ3 S3 H3 z u s3 g3 st3 r3 p3 => ?_)
  cases z with
  | bl k =>
    cases (show Rep X.K X.mg G3 ρ3 (.bl k) u from r3)
    refine ⟨k, rfl, ?_⟩
    cases k with
    | true =>
      rw [if_pos rfl]
      have p3 : Post X.K X.mg rB (fun c d H => W c d σ H) Q G3 ρ3 H3 ((mc env >>= fun z => op' e z >>= unB) S3) := p3
      exact p3.thn (at2.grow g3 s3 st3) fun G4 ρ4 S4 H4 z w' g4 at4 r4 p4 => h2' G4 ρ4 S4 H4 e z w w' _ _ at4.sub at4.st (RepO.grow (RepO.grow r2 g3) g4) r4 (Post.sub p4 fun G5 ρ5 S5 H5 z5 u5 s5 g5 st5 r5 p5 => unB_post p5 s5 st5 r5)
    | false =>
      rw [if_neg Bool.false_ne_true]
      exact ⟨false, rfl, Post.done (S := S3) (a := false) p3 s3 st3 rfl⟩
  | _ => exact (show False from p3).elim

theorem RepO.tru {d : D} {v : V} {k : Bool} (r : RepO K mg G ρ H d v) (s : Same G H) (h : truD d = some k) : TruV K v H k := by
  cases d with
  | non => rw [r.non]; cases h; rfl
  | bl b => rw [r.bl]; cases h; rfl
  | int i => rw [r.int]; cases h; rfl
  | str t =>
    obtain ⟨rfl, hz⟩ := r.str
    cases h
    refine ⟨by rw [toS_length]; exact hz, ?_⟩
    rw [toS_length]
    cases t <;> simp
    omega
  | tup xs =>
    obtain ⟨q, vs, rfl, h1, _, r, z⟩ := r.tup s
    cases h
    refine .inr (.inl ⟨vs, h1, ?_⟩)
    cases r <;> rfl
  | lst xs =>
    obtain ⟨q, vs, rfl, h1, r, z⟩ := r.lst s
    cases h
    refine .inl ⟨vs, SqL.of h1, ?_⟩
    cases r <;> rfl
  | _ => cases h
theorem tru_post {α β : Type} {R : Rl α β} {Wx : XK} {Q : β → Hp → Prop} {d : D} {k : Bool → M α} (p : Post K mg R Wx Q G ρ H ((tru d >>= k) S)) : ∃ b, truD d = some b ∧ Post K mg R Wx Q G ρ H (k b S) := by
  unfold tru at p
  cases h : truD d with
  | none => rw [h] at p; exact (show False from p).elim
  | some b => rw [h] at p; exact ⟨b, rfl, p⟩
def tVal (m : EM) : TM := fun env => m env >>= tru
theorem pt_val' (ha : pO X W Ω a ma) (he : ∀ whole, isTrue a X.env whole = (do let v ← whole; standAt a.pos; holding [v] (truthy v)) := by intro _; rfl) : pT X W Ω a (tVal ma) :=
  pt_imp (pt_truth ha he) fun σ H Q h => tG.thn (k := fun x _ => tru x) h fun G1 ρ1 S1 env H1 d v at1 r1 p1 => by
    have p1 : Post X.K X.mg rB (fun c d H => W c d σ H) Q G1 ρ1 H1 ((tru d >>= fun b => pure b) S1) := by rw [bind_pureM]; exact p1
    obtain ⟨b, h1, p1⟩ := tru_post p1
    exact ⟨b, RepO.tru r1 at1.sub h1, Post.done (S := S1) (a := b) p1 at1.sub at1.st rfl⟩
abbrev pW (X : Cx) (W : WX) (Ω : List Nat) (e : Expr) (m : TM) : Prop := PW X e (tG X.K X.mg rB W Ω m)
variable {ta tb tc : TM}
def tAnd' (a b : TM) : TM := fun env => a env >>= fun k => if k then b env else pure false
def tOr' (a b : TM) : TM := fun env => a env >>= fun k => if k then pure true else b env
def tNot' (a : TM) : TM := fun env => a env >>= fun k => pure (!k)
theorem pw_a1 (ha : pT X W Ω a ta) : pW X W Ω (.BoolOp .And [a] pos) ta := pw_and1 ha
theorem pw_o1 (ha : pT X W Ω a ta) : pW X W Ω (.BoolOp .Or [a] pos) ta := pw_or1 ha
theorem pw_a (ha : pT X W Ω a ta) (hb : pW X W Ω (.BoolOp .And (b :: rest) pos) tb) : pW X W Ω (.BoolOp .And (a :: b :: rest) pos) (tAnd' ta tb) :=
  pw_imp (pw_and ha hb) fun σ H Q h => tG.thn (k := fun k env => if k then tb env else pure false) h fun G1 ρ1 S1 env H1 d v at1 r1 p1 => by
    cases (show d = v from r1)
    cases d with
    | true => rw [if_pos rfl]; exact ⟨G1, ρ1, S1, env, at1, p1⟩
    | false => rw [if_neg Bool.false_ne_true]; exact Post.done (S := S1) (a := false) p1 at1.sub at1.st rfl
theorem pw_o (ha : pT X W Ω a ta) (hb : pW X W Ω (.BoolOp .Or (b :: rest) pos) tb) : pW X W Ω (.BoolOp .Or (a :: b :: rest) pos) (tOr' ta tb) :=
  pw_imp (pw_or ha hb) fun σ H Q h => tG.thn (k := fun k env => if k then pure true else tb env) h fun G1 ρ1 S1 env H1 d v at1 r1 p1 => by
    cases (show d = v from r1)
    cases d with
    | true => rw [if_pos rfl]; exact Post.done (S := S1) (a := true) p1 at1.sub at1.st rfl
    | false => rw [if_neg Bool.false_ne_true]; exact ⟨G1, ρ1, S1, env, at1, p1⟩
theorem pt_w (h : pW X W Ω e ta) : pT X W Ω e ta := h.pt
theorem pt_no (ha : pT X W Ω a ta) : pT X W Ω (.UnaryOp .Not a pos) (tNot' ta) :=
  pt_imp (pt_not ha) fun σ H Q h => tG.thn (k := fun k _ => pure (!k)) h fun G1 ρ1 S1 env H1 d v at1 r1 p1 => by
    cases (show d = v from r1)
    exact Post.done (S := S1) (a := !d) p1 at1.sub at1.st rfl
def eAnd (a b : EM) : EM := fun env => a env >>= fun x => tru x >>= fun k => if k then b env else pure x
def eOr (a b : EM) : EM := fun env => a env >>= fun x => tru x >>= fun k => if k then pure x else b env
def eNot (a : EM) : EM := fun env => a env >>= fun x => tru x >>= fun k => pure (D.bl (!k))
theorem pv_b1 {op} (ha : pV X W Ω a ma) : pV X W Ω (.BoolOp op [a] pos) ma := pe_one ha
theorem pv_and (ha : pV X W Ω a ma) (hb : pV X W Ω (.BoolOp .And (b :: rest) pos) mb) : pV X W Ω (.BoolOp .And (a :: b :: rest) pos) (eAnd ma mb) :=
  pe_imp (pe_andT ha hb) fun σ H Q h => tG.thn (k := fun x env => tru x >>= fun k => if k then mb env else pure x) h fun G1 ρ1 S1 env H1 d v at1 r1 p1 => by
    obtain ⟨b, h1, p1⟩ := tru_post p1
    refine ⟨b, RepO.tru (.inl r1) at1.sub h1, ?_⟩
    cases b with
    | true => rw [if_pos rfl]; exact ⟨G1, ρ1, S1, env, at1, p1⟩
    | false => rw [if_neg Bool.false_ne_true]; exact Post.V (S := S1) (d := d) p1 at1.sub at1.st r1
theorem pv_or (ha : pV X W Ω a ma) (hb : pV X W Ω (.BoolOp .Or (b :: rest) pos) mb) : pV X W Ω (.BoolOp .Or (a :: b :: rest) pos) (eOr ma mb) :=
  pe_imp (pe_orT ha hb) fun σ H Q h => tG.thn (k := fun x env => tru x >>= fun k => if k then pure x else mb env) h fun G1 ρ1 S1 env H1 d v at1 r1 p1 => by
    obtain ⟨b, h1, p1⟩ := tru_post p1
    refine ⟨b, RepO.tru (.inl r1) at1.sub h1, ?_⟩
    cases b with
    | true => rw [if_pos rfl]; exact Post.V (S := S1) (d := d) p1 at1.sub at1.st r1
    | false => rw [if_neg Bool.false_ne_true]; exact ⟨G1, ρ1, S1, env, at1, p1⟩
theorem pv_not (ha : pO X W Ω a ma) : pV X W Ω (.UnaryOp .Not a pos) (eNot ma) :=
  pe_imp (pe_notT ha) fun σ H Q h => tG.thn (k := fun x _ => tru x >>= fun k => pure (D.bl (!k))) h fun G1 ρ1 S1 env H1 d v at1 r1 p1 => by
    obtain ⟨b, h1, p1⟩ := tru_post p1
    exact ⟨b, RepO.tru r1 at1.sub h1, Post.V (S := S1) (d := .bl (!b)) p1 at1.sub at1.st (.bl _)⟩
def eIf (t : TM) (a b : EM) : EM := fun env => t env >>= fun k => if k then a env else b env
theorem pv_if (hc : pT X W Ω c tc) (ha : pV X W Ω a ma) (hb : pV X W Ω b mb) : pV X W Ω (.IfExp c a b pos) (eIf tc ma mb) :=
  pe_imp (pe_ifExp hc ha hb) fun σ H Q h => tG.thn (k := fun k env => if k then ma env else mb env) h fun G1 ρ1 S1 env H1 d v at1 r1 p1 => by
    cases (show d = v from r1)
    cases d with
    | true => rw [if_pos rfl]; exact ⟨G1, ρ1, S1, env, at1, p1⟩
    | false => rw [if_neg Bool.false_ne_true]; exact ⟨G1, ρ1, S1, env, at1, p1⟩
end
end Mr

namespace Mr
open PySem PySem.Spec PyProof.Rows L2
section
variable {X : Cx} {W : WX} {Ω : List Nat} {a b c e : Expr} {es rest : List Expr} {ma mb mc : EM} {ml : LM} {ta tb tc : TM} {p pos : Pos} {x : Str} {K : PySem.W.Frag} {mg : Str → Option Value} {G G' H H' H1 : Hp} {ρ ρ' ρ1 : List Addr} {S : Store}

def eTup (l : LM) : EM := fun env => l env >>= fun xs => pure (.tup xs)
def eLst (l : LM) : EM := fun env => l env >>= fun xs => pure (.lst xs)
theorem small_line {n : Nat} (h : n ≤ 10000) : n ≤ sizeLine := Nat.le_trans h (by decide)
theorem pv_tup {k} (h : pL X W Ω es ml) (hz : es.length ≤ 10000 := by decide) : pV X W Ω (.Tuple es k pos) (eTup ml) := pe_imp (pe_tup h) fun σ H Q h => tG.thn (k := fun xs _ => pure (D.tup xs)) h fun G1 ρ1 S1 env H1 ds vs at1 r1 p1 =>
  ⟨by rw [r1.2]; exact small_line hz, fun p hp => Post.tup (S := S1) (xs := ds) p1 at1.sub at1.st r1.1 (by rw [r1.2]; exact small_line hz) hp⟩
theorem pv_lst (h : pL X W Ω es ml) (hz : es.length ≤ 10000 := by decide) : pV X W Ω (.List es pos) (eLst ml) := pe_imp (pe_lst h) fun σ H Q h => tG.thn (k := fun xs _ => pure (D.lst xs)) h fun G1 ρ1 S1 env H1 ds vs at1 r1 p1 =>
  ⟨by rw [r1.2]; exact small_line hz, fun p hp => Post.lst (S := S1) (xs := ds) p1 at1.sub at1.st r1.1 (by rw [r1.2]; exact small_line hz) hp⟩
theorem pf_lst (h : pL X W Ω es ml) (hz : es.length ≤ 10000 := by decide) : pF X W Ω (.List es pos) (eLst ml) := pe_imp (pe_lst h) fun σ H Q h => tG.thn (k := fun xs _ => pure (D.lst xs)) h fun G1 ρ1 S1 env H1 ds vs at1 r1 p1 =>
  ⟨by rw [r1.2]; exact small_line hz, fun p hp => Post.lstF' (S := S1) (xs := ds) p1 at1.sub at1.st r1.1 (by rw [r1.2]; exact small_line hz) hp⟩
theorem pv_dic0 : pV X W Ω (.Dict [] [] pos) (eC (.dic [] [])) := pe_imp (pe_lk pe_dnewK) fun σ H Q ⟨G, ρ, S, env, at_, post⟩ => fun p hp =>
  ⟨p, _, upd_same, trivial, fun od => by
    rw [upd_upd]
    exact post (upd G p (.frz od (.dK []))) ρ _ _ (up_lay at_.sub) (up_growV at_.sub hp) (up_stV at_.sub at_.st hp) (.dic ⟨od, upd_same⟩ .nil .nil)⟩
def eNew (l : LM) : EM := fun env => l env >>= fun xs => fun s => .ok (.ref s.length) (s ++ [.lst xs])
def Ok1 (X : Cx) (R : Rl D V) (r : List V → Hp → VK → Prop) (g : D → M D) : Prop := ∀ (G : Hp) (ρ : List Addr) (S : Store) (H : Hp) (d : D) (x : V) (Wx : XK) (Q : VK), Same G H → StOk X.K X.mg G ρ S H → RepO X.K X.mg G ρ H d x →
  Post X.K X.mg R Wx Q G ρ H (g d S) → r [x] H Q
theorem t1_of {R : Rl D V} {r : List V → Hp → VK → Prop} {g : D → M D} (ok : Ok1 X R r g) {σ : L2.St} {H : Hp} {Q : VK} (h : tG X.K X.mg R W Ω (eUn g ma) σ H Q) : tCB r (tCons (tG X.K X.mg (rO X.K X.mg) W Ω ma) tNil) σ H Q :=
  tG.thn (k := fun x _ => g x) h fun G1 ρ1 S1 env H1 d v at1 r1 p1 => ok G1 ρ1 S1 H1 d v _ Q at1.sub at1.st r1 p1
theorem p_callB1 {R : Rl D V} {id : String} {r : List V → Hp → VK → Prop} {g : D → M D} (hc : CallR X (.builtin id) r) (ok : Ok1 X R r g) (hg : Gl X x) (hm : X.mg x = none) (hv : bootBuiltins x = some (.builtin id)) (ha : pO X W Ω e ma)
    (hn : x ≠ "__name__" := by decide) (hdb : (x == ("__debug__" : Str)) = false := by decide) (he : starEach [e] X.env = (false, eval e X.env) :: starEach [] X.env := by rfl) : PE X (.Call (.Name x p) [e] [] pos) (tG X.K X.mg R W Ω (eUn g ma)) :=
  pe_imp (pe_callB hc hg hm hv (pa_cons ha pa_nil he) hn hdb he rfl) fun _ _ _ h => t1_of ok h
theorem p_callT1 {R : Rl D V} {T : String} {r : List V → Hp → VK → Prop} {g : D → M D} (hc : CallR X (.type T) r) (ok : Ok1 X R r g) (hg : Gl X x) (hm : X.mg x = none) (hv : bootBuiltins x = some (.type T)) (ha : pO X W Ω e ma)
    (hn : x ≠ "__name__" := by decide) (hdb : (x == ("__debug__" : Str)) = false := by decide) (he : starEach [e] X.env = (false, eval e X.env) :: starEach [] X.env := by rfl) : PE X (.Call (.Name x p) [e] [] pos) (tG X.K X.mg R W Ω (eUn g ma)) :=
  pe_imp (pe_callTy hc hg hm hv (pa_cons ha pa_nil he) hn hdb he rfl) fun _ _ _ h => t1_of ok h
def fLen : D → M D
  | .str s => pure (.int s.length)
  | .tup xs => pure (.int xs.length)
  | .lst xs => pure (.int xs.length)
  | _ => bad
theorem ok_len : Ok1 X (rV X.K X.mg) (fun xs H Q => ∃ x n, xs = [x] ∧ LenV X.K x H n ∧ Q (.int n) H) fLen := by
  intro G ρ S H d x Wx Q s st rd p
  cases d with
  | str t =>
    obtain ⟨rfl, hz⟩ := rd.str
    exact ⟨_, t.length, rfl, ⟨by rw [toS_length]; exact hz, (toS_length t).symm⟩, Post.V (S := S) (d := .int t.length) p s st (.int _)⟩
  | tup xs =>
    obtain ⟨q, vs, rfl, h1, _, r, z⟩ := rd.tup s
    exact ⟨_, xs.length, rfl, .inr ⟨vs, h1, r.length⟩, Post.V (S := S) (d := .int xs.length) p s st (.int _)⟩
  | lst xs =>
    obtain ⟨q, vs, rfl, h1, r, z⟩ := rd.lst s
    exact ⟨_, xs.length, rfl, .inl ⟨vs, SqL.of h1, r.length⟩, Post.V (S := S) (d := .int xs.length) p s st (.int _)⟩
  | _ => exact (show False from p).elim
theorem pv_len (hg : Gl X "len") (hm : X.mg "len" = none) (ha : pO X W Ω e ma) (he : starEach [e] X.env = (false, eval e X.env) :: starEach [] X.env := by rfl) : pV X W Ω (.Call (.Name "len" p) [e] [] pos) (eUn fLen ma) :=
  p_callB1 call_len ok_len hg hm PySem.boot_len ha (by decide) (by decide) he
def fInt : D → M D
  | .int i => pure (.int i)
  | .bl b => pure (.int (if b then 1 else 0))
  | _ => bad
theorem ok_int : Ok1 X (rV X.K X.mg) (fun xs H Q => (∃ i, xs = [.int i] ∧ Q (.int i) H) ∨ ∃ k, xs = [.bl k] ∧ Q (.int (if k then 1 else 0)) H) fInt := by
  intro G ρ S H d x Wx Q s st rd p
  cases d with
  | int i => rw [rd.int]; exact .inl ⟨i, rfl, Post.V (S := S) (d := .int i) p s st (.int _)⟩
  | bl b => rw [rd.bl]; exact .inr ⟨b, rfl, Post.V (S := S) (d := .int (if b then 1 else 0)) p s st (.int _)⟩
  | _ => exact (show False from p).elim
theorem pv_toint (hg : Gl X "int") (hm : X.mg "int" = none) (ha : pO X W Ω e ma) (he : starEach [e] X.env = (false, eval e X.env) :: starEach [] X.env := by rfl) : pV X W Ω (.Call (.Name "int" p) [e] [] pos) (eUn fInt ma) :=
  p_callT1 call_int1 ok_int hg hm (by decide +kernel) ha (by decide) (by decide) he
def fOrd : D → M D
  | .str [c] => pure (.int c.toNat)
  | _ => bad
theorem ok_ord : Ok1 X (rV X.K X.mg) (fun xs H Q => ∃ x, xs = [.str x] ∧ x.length = 1 ∧ Q (.int (x.cps.getD 0 0 : Nat)) H) fOrd := by
  intro G ρ S H d x Wx Q s st rd p
  cases d with
  | str t =>
    cases t with
    | nil => exact (show False from p).elim
    | cons c t =>
      cases t with
      | nil => exact ⟨toS [c], by rw [rd.str.1], rfl, Post.V (S := S) (d := .int c.toNat) p s st (.int _)⟩
      | cons _ _ => exact (show False from p).elim
  | _ => exact (show False from p).elim
theorem pv_ord (hg : Gl X "ord") (hm : X.mg "ord" = none) (ha : pO X W Ω e ma) (he : starEach [e] X.env = (false, eval e X.env) :: starEach [] X.env := by rfl) : pV X W Ω (.Call (.Name "ord" p) [e] [] pos) (eUn fOrd ma) :=
  p_callB1 call_ord ok_ord hg hm (by decide +kernel) ha (by decide) (by decide) he
def fList : D → M D
  | .lst xs => pure (.lst xs)
  | .tup xs => pure (.lst xs)
  | _ => bad
def fTuple : D → M D
  | .lst xs => pure (.tup xs)
  | .tup xs => pure (.tup xs)
  | _ => bad
def rListOf (K : PySem.W.Frag) : List V → Hp → VK → Prop := fun xs H Q => ∃ p ys, xs = [.ref p] ∧ (SqL K H p ys ∨ SqT K H p ys) ∧ ∀ l, H l = none → Q (.ref l) (upd H l (.lst ys))
theorem ok_listF : Ok1 X (rF X.K X.mg) (rListOf X.K) fList := by
  intro G ρ S H d x Wx Q s st rd p
  cases d with
  | lst xs =>
    obtain ⟨q, vs, rfl, h1, r, z⟩ := rd.lst s
    exact ⟨q, vs, rfl, .inl (SqL.of h1), fun l hl => Post.lstF' (S := S) (xs := xs) p s st r z hl⟩
  | tup xs =>
    obtain ⟨q, vs, rfl, h1, _, r, z⟩ := rd.tup s
    exact ⟨q, vs, rfl, .inr h1, fun l hl => Post.lstF' (S := S) (xs := xs) p s st r z hl⟩
  | _ => exact (show False from p).elim
theorem pf_list (hg : Gl X "list") (hm : X.mg "list" = none) (ha : pO X W Ω e ma) (he : starEach [e] X.env = (false, eval e X.env) :: starEach [] X.env := by rfl) : pF X W Ω (.Call (.Name "list" p) [e] [] pos) (eUn fList ma) :=
  p_callT1 call_list_of ok_listF hg hm (by decide +kernel) ha (by decide) (by decide) he
theorem ok_tuple : Ok1 X (rV X.K X.mg) (fun xs H Q => ∃ p ys, xs = [.ref p] ∧ ((SqL X.K H p ys ∧ ∀ l, H l = none → Q (.ref l) (upd H l (.tup ys))) ∨ (SqT X.K H p ys ∧ Q (.ref p) H))) fTuple := by
  intro G ρ S H d x Wx Q s st rd p
  cases d with
  | lst xs =>
    obtain ⟨q, vs, rfl, h1, r, z⟩ := rd.lst s
    exact ⟨q, vs, rfl, .inl ⟨SqL.of h1, fun l hl => Post.tup (S := S) (xs := xs) p s st r z hl⟩⟩
  | tup xs =>
    obtain ⟨q, vs, rfl, h1, h0, r, z⟩ := rd.tup s
    exact ⟨q, vs, rfl, .inr ⟨h1, Post.V (S := S) (d := .tup xs) p s st (.tup h0 z r)⟩⟩
  | _ => exact (show False from p).elim
theorem pv_tuple (hg : Gl X "tuple") (hm : X.mg "tuple" = none) (ha : pO X W Ω e ma) (he : starEach [e] X.env = (false, eval e X.env) :: starEach [] X.env := by rfl) : pV X W Ω (.Call (.Name "tuple" p) [e] [] pos) (eUn fTuple ma) :=
  p_callT1 call_tuple_of ok_tuple hg hm (by decide +kernel) ha (by decide) (by decide) he
def boolsOf : List D → Option (List Bool)
  | [] => some []
  | .bl b :: r => (boolsOf r).map (b :: ·)
  | _ => none
theorem bools_rep : ∀ {ds : List D} {vs : List V} {bs : List Bool}, RepL K mg G ρ ds vs → boolsOf ds = some bs → vs = bs.map V.bl
  | _, _, _, .nil, h => by cases h; rfl
  | d :: ds, _, bs, .cons r t, h => by
    cases d with
    | bl b =>
      cases q : boolsOf ds with
      | none => simp [boolsOf, q] at h
      | some cs =>
        have h : some (b :: cs) = some bs := by simpa [boolsOf, q] using h
        cases h
        cases r
        rw [bools_rep t q]
        rfl
    | _ => simp [boolsOf] at h
def fAll : D → M D
  | .lst xs => ofO ((boolsOf xs).map fun bs => D.bl (bs.all id))
  | _ => bad
def fAny : D → M D
  | .lst xs => ofO ((boolsOf xs).map fun bs => D.bl (bs.any id))
  | _ => bad
theorem pv_all (hc : X.calm = true) (hg : Gl X "all") (hm : X.mg "all" = none) (ha : pO X W Ω e ma) (he : starEach [e] X.env = (false, eval e X.env) :: starEach [] X.env := by rfl) : pV X W Ω (.Call (.Name "all" p) [e] [] pos) (eUn fAll ma) :=
  p_callB1 (cr_all hc) (fun G ρ S H d x Wx Q s st rd p => by
    cases d with
    | lst xs =>
      obtain ⟨q, vs, rfl, h1, r, z⟩ := rd.lst s
      have p : Post X.K X.mg (rV X.K X.mg) Wx Q G ρ H (ofO ((boolsOf xs).map fun bs => D.bl (bs.all id)) S) := p
      cases hb : boolsOf xs with
      | none => rw [hb] at p; exact (show False from p).elim
      | some bs =>
        rw [hb] at p
        refine ⟨q, bs, rfl, SqL.of ?_, Post.V (S := S) (d := .bl (bs.all id)) p s st (.bl _)⟩
        rw [← bools_rep r hb]
        exact h1
    | _ => exact (show False from p).elim) hg hm (by decide +kernel) ha (by decide) (by decide) he
theorem pv_any (hc : X.calm = true) (hg : Gl X "any") (hm : X.mg "any" = none) (ha : pO X W Ω e ma) (he : starEach [e] X.env = (false, eval e X.env) :: starEach [] X.env := by rfl) : pV X W Ω (.Call (.Name "any" p) [e] [] pos) (eUn fAny ma) :=
  p_callB1 (cr_any hc) (fun G ρ S H d x Wx Q s st rd p => by
    cases d with
    | lst xs =>
      obtain ⟨q, vs, rfl, h1, r, z⟩ := rd.lst s
      have p : Post X.K X.mg (rV X.K X.mg) Wx Q G ρ H (ofO ((boolsOf xs).map fun bs => D.bl (bs.any id)) S) := p
      cases hb : boolsOf xs with
      | none => rw [hb] at p; exact (show False from p).elim
      | some bs =>
        rw [hb] at p
        refine ⟨q, bs, rfl, SqL.of ?_, Post.V (S := S) (d := .bl (bs.any id)) p s st (.bl _)⟩
        rw [← bools_rep r hb]
        exact h1
    | _ => exact (show False from p).elim) hg hm (by decide +kernel) ha (by decide) (by decide) he

def tyD : D → Option String
  | .non => some "NoneType"
  | .bl _ => some "bool"
  | .int _ => some "int"
  | .str _ => some "str"
  | .tup _ => some "tuple"
  | .lst _ => some "list"
  | .dic _ _ => some "dict"
  | _ => none
def isT (n : String) (d : D) : Option Bool := (tyD d).bind fun t => kitB t n
def fIs (n : String) (d : D) : M D := match isT n d with
  | some b => pure (.bl b)
  | none => bad
theorem RepO.tyx {d : D} {v : V} {t : String} (s : Same G H) (r : RepO K mg G ρ H d v) (h : tyD d = some t) : TyX K H v (.type t) := by
  cases d with
  | non => cases h; rw [r.non]; exact .base .non
  | bl b => cases h; rw [r.bl]; exact .base (.bl b)
  | int i => cases h; rw [r.int]; exact .base (.int i)
  | str t => cases h; rw [r.str.1]; exact .base (.str _)
  | tup xs =>
    cases h
    obtain ⟨q, vs, rfl, h1, _, _⟩ := r.tup s
    rcases h1 with (h1 | ⟨o, h1⟩) | ⟨o, its, n, h1, h2, _⟩
    · exact .base (.tup h1)
    · exact .fTuple h1
    · exact .kTuple h1 h2
  | lst xs =>
    cases h
    obtain ⟨q, vs, rfl, h1, _, _⟩ := r.lst s
    exact .base (.lst h1)
  | dic ks xs =>
    cases h
    obtain ⟨q, kvs, rfl, h1, _, _⟩ := r.dic s
    rcases h1 with h1 | ⟨o, h1⟩
    · exact .base (.dK h1)
    · exact .fDict h1
  | _ => cases h
theorem pv_isi {n : String} {y : Str} {p2 : Pos} (hg : Gl X "isinstance") (hm : X.mg "isinstance" = none) (hy : Gl X y) (hmy : X.mg y = none) (hvy : bootBuiltins y = some (.type n)) (ha : pO X W Ω e ma) (hny : y ≠ "__name__" := by decide) (hdy : (y == ("__debug__" : Str)) = false := by decide)
    (he : starEach [e, .Name y p2] X.env = (false, eval e X.env) :: starEach [.Name y p2] X.env := by rfl) (he2 : starEach [.Name y p2] X.env = (false, eval (.Name y p2) X.env) :: starEach [] X.env := by rfl) (hpl : (backTo pos (starEach [.Name y p2] X.env)).any (·.1) = false := by rfl) :
    pV X W Ω (.Call (.Name "isinstance" p) [e, .Name y p2] [] pos) (eUn (fIs n) ma) :=
  pe_imp (pe_callB call_isi hg hm (by decide +kernel) (pa_cons ha (pa_cons (pe_bltn (v := .ty n) hy hmy hvy rfl hny hdy) pa_nil he2) he) (by decide) (by decide) he hpl) fun σ H Q h => tG.thn (k := fun x _ => fIs n x) h fun G1 ρ1 S1 env H1 d v at1 r1 p1 => by
    unfold fIs isT at p1
    cases ht : tyD d with
    | none => rw [ht] at p1; exact (show False from p1).elim
    | some t =>
      rw [ht] at p1
      have p1 : Post X.K X.mg (rV X.K X.mg) (fun c d H => W c d σ H) Q G1 ρ1 H1 ((match kitB t n with
        | some b => pure (.bl b)
        | none => bad : M D) S1) := p1
      cases hk : kitB t n with
      | none => rw [hk] at p1; exact (show False from p1).elim
      | some b =>
        rw [hk] at p1
        exact ⟨v, .ty n, .type t, .type n, b, rfl, .ty n, RepO.tyx at1.sub r1 ht, kit_ty hk, Post.V (S := S1) (d := .bl b) p1 at1.sub at1.st (.bl b)⟩
def fIs2 (n n' : String) (d : D) : M D := match isT n d, isT n' d with
  | some b, some b' => pure (.bl (b || b'))
  | _, _ => bad
end
end Mr

namespace Mr
open PySem PySem.Spec PyProof.Rows L2
structure Walks (K : PySem.W.Frag) (mg : Str → Option Value) (G : Hp) (ρ : List Addr) (J : It) (ds : List D) : Prop where
  len : ds.length ≤ sizeLine
  go : ∀ (i : Nat) (H : Hp), i < ds.length → Same G H → J.go i H
  stop : ∀ H, Same G H → J.stop ds.length H
  yld : ∀ (i : Nat) (G2 : Hp) (ρ2 : List Addr) (H : Hp) (x : V) (H' : Hp), i < ds.length → Same G G2 → (∀ (n : Nat) (a : Addr), ρ[n]? = some a → ρ2[n]? = some a) → Same G2 H → J.yld i H x H' →
    ∃ d G3, ds[i]? = some d ∧ Same G3 H' ∧ Grow G2 ρ2 H G3 ρ2 H' ∧ (∀ S, StOk K mg G2 ρ2 S H → StOk K mg G3 ρ2 S H') ∧ Rep K mg G3 ρ2 d x
def rI (K : PySem.W.Frag) (mg : Str → Option Value) : Rl (List D) It := ⟨fun _ G ρ _ ds J => Walks K mg G ρ J ds, fun _ h => h⟩
section
variable {X : Cx} {W : WX} {Ω : List Nat} {a b c e tg : Expr} {es rest : List Expr} {ma mb mc : EM} {ml : LM} {ta tb tc : TM} {p pos : Pos} {x : Str} {K : PySem.W.Frag} {mg : Str → Option Value} {G G' H H' H1 : Hp} {ρ ρ' ρ1 : List Addr} {S : Store}
abbrev pI (X : Cx) (W : WX) (Ω : List Nat) (tg e : Expr) (m : LM) : Prop := PI X tg e (tG X.K X.mg (rI X.K X.mg) W Ω m)
theorem walk_lst {q : Addr} {vs : List V} {ds : List D} (h : G q = some (.lst vs)) (z : vs.length ≤ sizeLine) (r : RepL K mg G ρ ds vs) : Walks K mg G ρ (Itl K q) ds where
  len := by rw [r.length]; exact z
  go := fun i H hi s => by
    rw [r.length] at hi
    exact ⟨vs, vs[i], SqL.of (s _ _ h), by simp [hi]⟩
  stop := fun H s => ⟨vs, SqL.of (s _ _ h), by rw [r.length]; exact Nat.le_refl _⟩
  yld := fun i G2 ρ2 H x H' hi e pr s y => by
    obtain ⟨rfl, y⟩ := y
    obtain ⟨d, h1, h2⟩ := r.get (y vs (SqL.of (s _ _ (e _ _ h))))
    exact ⟨d, G2, h1, s, Grow.refl, fun _ st => st, h2.mono e pr⟩
theorem walk_tup {q : Addr} {vs : List V} {ds : List D} (h : SqT K G q vs) (z : vs.length ≤ sizeLine) (r : RepL K mg G ρ ds vs) : Walks K mg G ρ (Itt K q) ds where
  len := by rw [r.length]; exact z
  go := fun i H hi s => by
    rw [r.length] at hi
    exact ⟨vs, vs[i], seqT s h, by simp [hi]⟩
  stop := fun H s => ⟨vs, seqT s h, by rw [r.length]; exact Nat.le_refl _⟩
  yld := fun i G2 ρ2 H x H' hi e pr s y => by
    obtain ⟨rfl, y⟩ := y
    obtain ⟨d, h1, h2⟩ := r.get (y vs (seqT s (seqT e h)))
    exact ⟨d, G2, h1, s, Grow.refl, fun _ st => st, h2.mono e pr⟩
def signs (s : Tx) : List D := s.map fun c => D.str [c]
theorem walk_str {s : Tx} (z : s.length ≤ sizeLine) : Walks K mg G ρ (Its (toS s)) (signs s) where
  len := by unfold signs; rw [List.length_map]; exact z
  go := fun i H hi _ => by
    unfold signs at hi
    rw [List.length_map] at hi
    show i < (toS s).length
    rw [toS_length]
    exact hi
  stop := fun H _ => by
    show (toS s).length ≤ _
    rw [toS_length]
    unfold signs
    rw [List.length_map]
    exact Nat.le_refl _
  yld := fun i G2 ρ2 H x H' hi e pr sm y => by
    obtain ⟨rfl, c, h1, rfl⟩ := y
    have h2 : (s.map Char.toNat)[i]? = some c := by
      have := h1
      simpa [toS] using this
    rw [List.getElem?_map] at h2
    cases q : s[i]? with
    | none => rw [q] at h2; cases h2
    | some ch =>
      rw [q] at h2
      have h2 : some ch.toNat = some c := h2
      cases h2
      refine ⟨.str [ch], G2, ?_, sm, Grow.refl, fun _ st => st, .str [ch] (by show 1 ≤ sizeLine; decide)⟩
      unfold signs
      rw [List.getElem?_map, q]
      rfl
def nums (lo : Int) (n : Nat) : List D := (List.range n).map fun i => D.int (lo + (i : Nat))
theorem nums_length (lo : Int) (n : Nat) : (nums lo n).length = n := by unfold nums; rw [List.length_map, List.length_range]
theorem walk_rng {lo : Int} {n : Nat} (z : n ≤ sizeLine) : Walks K mg G ρ (Itr lo n) (nums lo n) where
  len := by rw [nums_length]; exact z
  go := fun i H hi _ => by rw [nums_length] at hi; exact hi
  stop := fun H _ => by rw [nums_length]; exact Nat.le_refl _
  yld := fun i G2 ρ2 H x H' hi e pr sm y => by
    obtain ⟨rfl, rfl⟩ := y
    rw [nums_length] at hi
    refine ⟨.int (lo + (i : Nat)), G2, ?_, sm, Grow.refl, fun _ st => st, .int _⟩
    unfold nums
    rw [List.getElem?_map, List.getElem?_range hi]
    rfl

def seqOf : D → M (List D)
  | .lst xs => pure xs
  | .tup xs => pure xs
  | .str s => pure (signs s)
  | _ => bad
def iSeq (m : EM) : LM := fun env => m env >>= seqOf
theorem pi_or {t t' : TI} (h : PI X tg e t) (h' : PI X tg e t') : PI X tg e (fun σ H R => t σ H R ∨ t' σ H R) := ⟨fun pins s σ H R I q => q.elim (h.run pins s σ H R I) (h'.run pins s σ H R I)⟩
theorem pi_seq (ha : pV X W Ω e ma) : pI X W Ω tg e (iSeq ma) := pi_imp (pi_or (pi_list ha) (pi_or (pi_tup ha) (pi_str ha))) fun σ H R h => by
  obtain ⟨G, ρ, S, env, at_, post⟩ := h
  have post : Post X.K X.mg (rI X.K X.mg) (fun c d H => W c d σ H) R G ρ H ((ma env >>= seqOf) S) := post
  have base : ∀ {C : V → Hp → Prop}, (∀ G1 ρ1 S1 H1 d v, ma env S = .ok d S1 → At X.K X.mg Ω G1 ρ1 env S1 σ H1 → Rep X.K X.mg G1 ρ1 d v → Post X.K X.mg (rI X.K X.mg) (fun c d H => W c d σ H) R G1 ρ1 H1 (seqOf d S1) → C v H1) → tG X.K X.mg (rV X.K X.mg) W Ω ma σ H C := fun {C} k => by
    refine ⟨G, ρ, S, env, at_, ?_⟩
    rw [bind_app] at post
    cases em : ma env S with
    | ok d S1 =>
      rw [em] at post
      exact fun G1 ρ1 H1 v s g st r => k G1 ρ1 S1 H1 d v em (at_.grow g s st) r (Post.grow g post)
    | exc x S1 => rw [em] at post; exact post
    | bad => rw [em] at post; exact post
  have post0 := post
  rw [bind_app] at post0
  cases em : ma env S with
  | ok d S1 =>
    cases d with
    | lst xs =>
      refine .inl (base fun G1 ρ1 S2 H1 d v e1 at1 r1 p1 => ?_)
      rw [em] at e1
      cases e1
      cases (show Rep X.K X.mg G1 ρ1 (.lst xs) v from r1) with
      | lst h z r => exact ⟨_, rfl, ⟨_, SqL.of (at1.sub _ _ h)⟩, Post.done (S := S1) (a := xs) p1 at1.sub at1.st (walk_lst h z r)⟩
    | tup xs =>
      refine .inr (.inl (base fun G1 ρ1 S2 H1 d v e1 at1 r1 p1 => ?_))
      rw [em] at e1
      cases e1
      cases (show Rep X.K X.mg G1 ρ1 (.tup xs) v from r1) with
      | tup h z r => exact ⟨_, rfl, ⟨_, seqT at1.sub h⟩, Post.done (S := S1) (a := xs) p1 at1.sub at1.st (walk_tup h z r)⟩
    | str cs =>
      refine .inr (.inr (base fun G1 ρ1 S2 H1 d v e1 at1 r1 p1 => ?_))
      rw [em] at e1
      cases e1
      cases (show Rep X.K X.mg G1 ρ1 (.str cs) v from r1) with
      | str _ z => exact ⟨toS cs, rfl, Post.done (S := S1) (a := signs cs) p1 at1.sub at1.st (walk_str z)⟩
    | _ => rw [em] at post0; exact (show False from post0).elim
  | exc x S1 =>
    refine .inl (base fun G1 ρ1 S2 H1 d v e1 _ _ _ => ?_)
    rw [em] at e1; cases e1
  | bad => rw [em] at post0; exact (show False from post0).elim
def rngOf (lo hi : Int) : M (List D) := if -1000000 ≤ lo ∧ lo ≤ 1000000 ∧ -1000000 ≤ hi ∧ hi ≤ 1000000 then pure (nums lo (hi - lo).toNat) else bad
def rng1 : D → M (List D)
  | .int j => rngOf 0 j
  | _ => bad
def rng2 : D → D → M (List D)
  | .int i, .int j => rngOf i j
  | _, _ => bad
def iRng (a : EM) : LM := fun env => a env >>= rng1
def iRng2' (a b : EM) : LM := fun env => a env >>= fun x => b env >>= fun y => rng2 x y
theorem rng_post {Wx : XK} {R : It → Hp → Prop} {lo hi : Int} (p : Post K mg (rI K mg) Wx R G ρ H (rngOf lo hi S)) (s : Same G H) (st : StOk K mg G ρ S H) :
    (-(2 ^ 62) ≤ lo ∧ lo < 2 ^ 62 ∧ -(2 ^ 62) ≤ hi ∧ hi < 2 ^ 62) ∧ R (Itr lo (hi - lo).toNat) H := by
  unfold rngOf at p
  by_cases hz : -1000000 ≤ lo ∧ lo ≤ 1000000 ∧ -1000000 ≤ hi ∧ hi ≤ 1000000
  · rw [if_pos hz] at p
    exact ⟨by omega, Post.done (S := S) (a := nums lo (hi - lo).toNat) p s st (walk_rng (by rw [sizeLine_eq]; omega))⟩
  · rw [if_neg hz] at p
    exact (show False from p).elim
theorem pi_rng (hg : Gl X "range") (hm : X.mg "range" = none) (ha : pO X W Ω a ma) (he : starEach [a] X.env = (false, eval a X.env) :: starEach [] X.env := by rfl) : pI X W Ω tg (.Call (.Name "range" p) [a] [] pos) (iRng ma) :=
  pi_imp (pi_range1 hg hm (pa_cons ha pa_nil he) he) fun σ H R h => tG.thn (k := fun d _ => rng1 d) h fun G1 ρ1 S1 env H1 d v at1 r1 p1 => by
    cases d with
    | int j =>
      obtain ⟨h1, h2⟩ := rng_post (S := S1) (lo := 0) (hi := j) p1 at1.sub at1.st
      refine ⟨j, by rw [RepO.int r1], h1.2.2.1, h1.2.2.2, ?_⟩
      rw [Int.sub_zero] at h2
      exact h2
    | _ => exact (show False from p1).elim
def revOf : D → M (List D)
  | .lst xs => pure xs.reverse
  | _ => bad
def iRevs (m : EM) : LM := fun env => m env >>= revOf
abbrev GM := D → Option (List (Nat × D))
def gOne (i : Nat) : GM := fun d => some [(i, d)]
def gMany (is : List Nat) : GM := fun d => match d with
  | .tup xs => if xs.length = is.length then some (is.zip xs) else none
  | _ => none
def setAll {α : Type} : List (Nat × α) → List (Option α) → List (Option α)
  | [], l => l
  | (i, a) :: r, l => setAll r (l.set i (some a))
def tTg (K : PySem.W.Frag) (mg : Str → Option Value) (g : GM) : TG := fun v σ H Q => ∃ G ρ d l, Same G H ∧ Rep K mg G ρ d v ∧ g d = some l ∧ ∀ vs, RepL K mg G ρ (l.map (·.2)) vs → Q (setAll ((l.map (·.1)).zip vs) σ) H
abbrev pG (X : Cx) (tg : Expr) (g : GM) : Prop := PG X tg (tTg X.K X.mg g)
theorem pg_imp {t t' : TG} (h : PG X tg t) (i : ∀ v σ H Q, t' v σ H Q → t v σ H Q) : PG X tg t' := ⟨fun pins s σ H v u Q I r q => h.run pins s σ H v u Q I r (i v σ H Q q)⟩
theorem pg_one {i : Nat} (hN : X.N.Nodup) (hi : X.N[i]? = some x) (hx : Loc X.env.scope x := by first | exact .inl rfl | exact .inr rfl) (hf : X.fn x = true ∨ X.env.scope.names.lookup x = some .local := by first | exact .inl rfl | exact .inr rfl) : pG X (.Name x pos) (gOne i) :=
  pg_imp (pg_name hN hi hx hf) fun v σ H Q ⟨G, ρ, d, l, s, r, e, q⟩ => by
    cases e
    exact q [v] (.cons r .nil)
inductive Names (X : Cx) : List Expr → List Nat → TGs → Prop
  | nil : Names X [] [] gNil
  | cons {e : Expr} {es : List Expr} {i : Nat} {is : List Nat} {t : TGs} (h : PG X e (gName i)) (r : Names X es is t) : Names X (e :: es) (i :: is) (gCons (gName i) t)
theorem names_run : ∀ {es : List Expr} {is : List Nat} {t : TGs}, Names X es is t → ∀ {vs : List V} {σ : L2.St} {H : Hp} {Q : L2.St → Hp → Prop}, vs.length = is.length → Q (setAll (is.zip vs) σ) H → t vs σ H Q
  | _, _, _, .nil, vs, σ, H, Q, hl, q => by
    cases vs with
    | nil => exact ⟨rfl, q⟩
    | cons _ _ => cases hl
  | _, _, _, .cons h r, vs, σ, H, Q, hl, q => by
    cases vs with
    | nil => cases hl
    | cons v vs => exact ⟨v, vs, rfl, names_run r (Nat.succ.inj hl) q⟩
theorem pg_many {k : Nat} {is : List Nat} {t : TGs} (hc : X.calm = true) (n : Names X es is t) (h : PGs X es t) (hn : (assignEach es X.env).length = is.length := by rfl) (hst : (assignEach es X.env).findIdx? (·.1) = none := by rfl) : pG X (.Tuple es k pos) (gMany is) :=
  pg_imp (pg_tup hc h hn hst) fun v σ H Q ⟨G, ρ, d, l, s, r, e, q⟩ => by
    cases d with
    | tup xs =>
      unfold gMany at e
      by_cases hl : xs.length = is.length
      · simp only [if_pos hl] at e
        cases e
        cases r with
        | @tup a vs ds h z rr =>
          have hv : vs.length = is.length := by rw [← rr.length]; exact hl
          refine ⟨a, vs, rfl, seqT s h, hv, names_run n hv ?_⟩
          have e1 : (is.zip xs).map (·.1) = is := by
            rw [List.map_fst_zip]
            omega
          have e2 : (is.zip xs).map (·.2) = xs := by
            rw [List.map_snd_zip]
            omega
          have := q vs (by rw [e2]; exact rr)
          rw [e1] at this
          exact this
      · simp only [if_neg hl] at e
        cases e
    | _ => cases e
theorem EvOk.set {env : Ev} {σ : L2.St} {i : Nat} {d : D} {v : V} (x : EvOk K mg Ω G ρ env σ H) (hi : i ∉ Ω) (r : Rep K mg G ρ d v) : EvOk K mg Ω G ρ (env.set i (some d)) (σ.set i (some v)) H where
  len := by rw [List.length_set, List.length_set, x.len]
  val := fun j e h n => by
    by_cases hj : i = j
    · subst hj
      by_cases hl : i < env.length
      · rw [List.getElem?_set_self hl] at h
        cases h
        exact ⟨v, by rw [List.getElem?_set_self (by rw [← x.len]; exact hl)], r⟩
      · rw [List.getElem?_eq_none (by rw [List.length_set]; omega)] at h
        cases h
    · rw [List.getElem?_set_ne hj] at h ⊢
      exact x.val j e h n
  own := fun j e h n => by
    have hj : i ≠ j := fun z => hi (z ▸ n)
    rw [List.getElem?_set_ne hj] at h ⊢
    exact x.own j e h n
  sep := fun j k d' e' v' h1 h2 h3 h4 h5 h6 h7 => by
    have hj : i ≠ j := fun z => hi (z ▸ h1)
    have hk : i ≠ k := fun z => hi (z ▸ h2)
    rw [List.getElem?_set_ne hj] at h4 h6
    rw [List.getElem?_set_ne hk] at h5 h7
    exact x.sep j k d' e' v' h1 h2 h3 h4 h5 h6 h7
theorem EvOk.setAll : ∀ {l : List (Nat × D)} {vs : List V} {env : Ev} {σ : L2.St}, EvOk K mg Ω G ρ env σ H → (∀ p ∈ l, p.1 ∉ Ω) → RepL K mg G ρ (l.map (·.2)) vs → EvOk K mg Ω G ρ (Mr.setAll l env) (Mr.setAll ((l.map (·.1)).zip vs) σ) H
  | [], vs, env, σ, x, _, r => by cases r; exact x
  | (i, d) :: l, _, env, σ, x, n, r => by
    obtain ⟨v, vs, rfl, h1, h2⟩ := r.cons_inv
    exact EvOk.setAll (l := l) (vs := vs) (env := env.set i (some d)) (σ := σ.set i (some v)) (x.set (n (i, d) (List.mem_cons_self ..)) h1) (fun p hp => n p (List.mem_cons_of_mem _ hp)) h2
theorem At.setAll {l : List (Nat × D)} {vs : List V} {env : Ev} {σ : L2.St} (x : At K mg Ω G ρ env S σ H) (n : ∀ p ∈ l, p.1 ∉ Ω) (r : RepL K mg G ρ (l.map (·.2)) vs) : At K mg Ω G ρ (Mr.setAll l env) S (Mr.setAll ((l.map (·.1)).zip vs) σ) H := ⟨x.sub, x.st, x.ev.setAll n r⟩

def wipeE (env : Ev) : List Nat → Ev
  | [] => env
  | v :: vs => (wipeE env vs).set v none
theorem wipe_ev {env : Ev} {σ : L2.St} (x : EvOk K mg Ω G ρ env σ H) : ∀ vs : List Nat, (∀ i ∈ vs, i ∉ Ω) → EvOk K mg Ω G ρ (wipeE env vs) (wipe σ vs) H
  | [], _ => x
  | i :: vs, n => by
    have y := wipe_ev x vs fun j hj => n j (List.mem_cons_of_mem _ hj)
    have hi := n i (List.mem_cons_self ..)
    refine ⟨by unfold wipeE wipe; rw [List.length_set, List.length_set, y.len], fun j e h m => ?_, fun j e h m => ?_, fun j k d' e' v' h1 h2 h3 h4 h5 h6 h7 => ?_⟩
    · unfold wipeE at h
      unfold wipe
      by_cases hj : i = j
      · subst hj
        by_cases hl : i < (wipeE env vs).length
        · rw [List.getElem?_set_self hl] at h; cases h
        · rw [List.getElem?_eq_none (by rw [List.length_set]; omega)] at h; cases h
      · rw [List.getElem?_set_ne hj] at h ⊢
        exact y.val j e h m
    · have hj : i ≠ j := fun z => hi (z ▸ m)
      unfold wipeE at h
      unfold wipe
      rw [List.getElem?_set_ne hj] at h ⊢
      exact y.own j e h m
    · have hj : i ≠ j := fun z => hi (z ▸ h1)
      have hk : i ≠ k := fun z => hi (z ▸ h2)
      unfold wipeE at h4 h5
      unfold wipe at h6 h7
      rw [List.getElem?_set_ne hj] at h4 h6
      rw [List.getElem?_set_ne hk] at h5 h7
      exact y.sep j k d' e' v' h1 h2 h3 h4 h5 h6 h7
def noX {α : Type} (m : M α) : M α := fun s => match m s with
  | .ok a s' => .ok a s'
  | _ => .bad
@[simp] theorem noX_pure {α : Type} (a : α) : noX (pure a : M α) = pure a := rfl
@[simp] theorem noX_bad {α : Type} : noX (bad : M α) = bad := rfl
@[simp] theorem noX_bind {α β : Type} (m : M α) (k : α → M β) : noX (m >>= k) = noX m >>= fun a => noX (k a) := by
  funext s
  show noX (M.bind m k) s = M.bind (noX m) (fun a => noX (k a)) s
  unfold noX M.bind
  cases h : m s <;> simp only [h]
def compM (sl : List Nat) (g : GM) (c : TM) (t : EM) (env : Ev) : List D → M (List D)
  | [] => pure []
  | d :: ds => (match g d with
    | none => bad
    | some l => noX (c (setAll l (wipeE env sl))) >>= fun k => if k then noX (t (setAll l (wipeE env sl))) >>= fun y => compM sl g c t env ds >>= fun ys => pure (y :: ys) else compM sl g c t env ds)
def eComp (sl : List Nat) (it : LM) (g : GM) (c : TM) (t : EM) : EM := fun env => it env >>= fun ds => compM sl g c t env ds >>= fun ys => pure (.lst ys)
def cYes : TM := fun _ => pure true
theorem wipe_get (σ : L2.St) (j : Nat) : ∀ sl : List Nat, (wipe σ sl)[j]? = if j ∈ sl then (σ[j]?).map (fun _ => none) else σ[j]?
  | [] => by simp [wipe]
  | i :: sl => by
    unfold wipe
    by_cases hj : i = j
    · subst hj
      rw [if_pos (List.mem_cons_self ..)]
      by_cases hl : i < σ.length
      · rw [List.getElem?_set_self (by rw [wipe_length]; exact hl), List.getElem?_eq_getElem hl]
        rfl
      · rw [List.getElem?_eq_none (by rw [List.length_set, wipe_length]; omega), List.getElem?_eq_none (by omega)]
        rfl
    · rw [List.getElem?_set_ne hj, wipe_get σ j sl]
      have e : (j ∈ i :: sl) ↔ j ∈ sl := by
        rw [List.mem_cons]
        exact ⟨fun h => h.resolve_left fun z => hj z.symm, .inr⟩
      by_cases h : j ∈ sl
      · rw [if_pos h, if_pos (e.mpr h)]
      · rw [if_neg h, if_neg fun z => h (e.mp z)]
theorem setAll_len {α : Type} : ∀ (l : List (Nat × α)) (s : List (Option α)), (setAll l s).length = s.length
  | [], _ => rfl
  | (i, a) :: l, s => by
    unfold setAll
    rw [setAll_len l, List.length_set]
theorem setAll_out {α : Type} {j : Nat} : ∀ (l : List (Nat × α)) (s : List (Option α)), (∀ p ∈ l, p.1 ≠ j) → (setAll l s)[j]? = s[j]?
  | [], _, _ => rfl
  | (i, a) :: l, s, h => by
    unfold setAll
    rw [setAll_out l _ fun p hp => h p (List.mem_cons_of_mem _ hp), List.getElem?_set_ne (h (i, a) (List.mem_cons_self ..))]
theorem wipe_set {l : List (Nat × V)} {sl : List Nat} {σ : L2.St} (h : ∀ p ∈ l, p.1 ∈ sl) : wipe (setAll l (wipe σ sl)) sl = wipe σ sl := by
  apply List.ext_getElem?
  intro j
  rw [wipe_get, wipe_get]
  by_cases hj : j ∈ sl
  · rw [if_pos hj, if_pos hj]
    by_cases hl : j < σ.length
    · rw [List.getElem?_eq_getElem hl, List.getElem?_eq_getElem (by rw [setAll_len, wipe_length]; exact hl)]
      rfl
    · rw [List.getElem?_eq_none (l := σ) (by omega), List.getElem?_eq_none (by rw [setAll_len, wipe_length]; omega)]
  · rw [if_neg hj, if_neg hj, setAll_out _ _ fun p hp z => hj (by rw [← z]; exact h p hp), wipe_get, if_neg hj]
theorem Grow.upd {q : Addr} {o : HO} (g : Grow G ρ H G' ρ' H') (hn : H q = none) : Grow G ρ H G' ρ' (upd H' q o) where
  sub := g.sub
  pre := g.pre
  keep := fun a u e m nt => by
    rw [upd_ne (ne_of_none e hn)]
    exact g.keep a u e m nt
  live := fun a e => by
    by_cases hb : a = q
    · subst hb; exact hn
    · rw [upd_ne hb] at e; exact g.live a e
  new := g.new
  newr := g.newr
theorem same_upd {q : Addr} {o : HO} (s : Same G H) (hn : G q = none) : Same G (upd H q o) := fun b u e => by
  rw [upd_ne (ne_of_none e hn)]
  exact s b u e
theorem st_upd {q : Addr} {o : HO} (st : StOk K mg G ρ S H) (hn : q ∉ ρ) {o' : HO} (hq : H q = some o') (n1 : (∀ ps, o' ≠ .tbl ps) ∧ ∀ a q, o' ≠ LamX.CodeO a q) : StOk K mg G ρ S (upd H q o) := st.mono (Same.refl _) (fun a ha => upd_ne fun z => hn (z ▸ ha)) st.out (fun t => t.upd hq n1.1 (n1.2 _)) st.gt
theorem g_stay {q : Addr} {u : HO} (g : Grow G ρ H G' ρ' H') (h : H q = some u) (hG : G q = none) : G' q = none := by
  cases e : G' q with
  | none => rfl
  | some o =>
    rcases g.new q o e with z | z
    · rw [hG] at z; cases z
    · rw [h] at z; cases z
theorem r_stay {q : Addr} {u : HO} (g : Grow G ρ H G' ρ' H') (h : H q = some u) (hr : q ∉ ρ) : q ∉ ρ' := fun hm => by
  rcases g.newr q hm with z | z
  · exact hr z
  · rw [h] at z; cases z
abbrev wNo : WX := fun _ _ _ _ => False
def GOk (g : GM) (sl : List Nat) : Prop := ∀ d l, g d = some l → ∀ p ∈ l, p.1 ∈ sl
theorem g_one {i : Nat} {sl : List Nat} (h : i ∈ sl := by decide) : GOk (gOne i) sl := fun d l e p hp => by
  cases e
  rw [List.mem_singleton.mp hp]
  exact h
theorem g_many {is : List Nat} {sl : List Nat} (h : ∀ i ∈ is, i ∈ sl := by decide) : GOk (gMany is) sl := fun d l e p hp => by
  cases d with
  | tup xs =>
    unfold gMany at e
    by_cases hl : xs.length = is.length
    · simp only [if_pos hl] at e
      cases e
      exact h _ (List.of_mem_zip (show (p.1, p.2) ∈ _ from hp)).1
    · simp only [if_neg hl] at e; cases e
  | _ => cases e
theorem lc_run {R : Rl D V} {Wx : XK} {Q : VK} {J : It} {ds : List D} {g : GM} {c : TM} {t : EM} {sl : List Nat} {env : Ev} {σ : L2.St} {Dd : Addr} (wk : Walks K mg G ρ J ds) (ev : EvOk K mg Ω G ρ env σ H) (sm : Same G H) (st : StOk K mg G ρ S H)
    {P : Hp → Prop} (hP : ∀ G2 H2, Same G G2 → Same G2 H2 → P H2) (hg : GOk g sl) (hΩ : ∀ i ∈ sl, i ∉ Ω) (hD : H Dd = none) (post : Post K mg R Wx Q G ρ H ((compM sl g c t env ds >>= fun ys => pure (.lst ys)) S))
    (fin : ∀ G2 ρ2 S2 H2 ys vs, Same G2 H2 → Grow G ρ H G2 ρ2 H2 → StOk K mg G2 ρ2 S2 H2 → H2 Dd = some (.lst vs) → RepL K mg G2 ρ2 ys vs → vs.length ≤ sizeLine → G2 Dd = none → Dd ∉ ρ2 → Post K mg R Wx Q G ρ H (.ok (.lst ys) S2) → Q (.ref Dd) H2) :
    ∃ Wv : Nat → Nat → Hp → Prop, (∃ m, Wv 0 m (L2.upd H Dd (.lst []))) ∧ ∀ i m H', Wv i m H' → P H' ∧ ((J.stop i H' ∧ Q (.ref Dd) H') ∨ (J.go i H' ∧ ∃ Nx : Hp → Prop, (∀ H2, Nx H2 → ∃ m', m' < m ∧ Wv (i + 1) m' H2) ∧ ∀ x H2, J.yld i H' x H2 → tTg K mg g x (wipe σ sl) H2 fun σ2 H3 =>
      wipe σ2 sl = wipe σ sl ∧ tG K mg rB wNo Ω c σ2 H3 fun b H4 => if b = true then tG K mg (rV K mg) wNo Ω t σ2 H4 fun y H5 => ∃ acc, H5 Dd = some (.lst acc) ∧ acc.length < sizeLine ∧ Nx (L2.upd H5 Dd (.lst (acc ++ [y]))) else Nx H4)) := by
  let Iv : Nat → Hp → Prop := fun i H' => i ≤ ds.length ∧ ∃ G2 ρ2 S2 acc vs, Same G2 H' ∧ Grow G ρ H G2 ρ2 H' ∧ StOk K mg G2 ρ2 S2 H' ∧ H' Dd = some (.lst vs) ∧ RepL K mg G2 ρ2 acc vs ∧ vs.length ≤ i ∧ G2 Dd = none ∧ Dd ∉ ρ2 ∧
    Post K mg R Wx Q G ρ H ((compM sl g c t env (ds.drop i) >>= fun ys => pure (.lst (acc ++ ys))) S2)
  refine ⟨fun i m H' => m = ds.length - i ∧ Iv i H', ⟨ds.length, by omega, Nat.zero_le _, G, ρ, S, [], [], up_same sm hD, up_grow hD, up_st st hD, upd_same, .nil, Nat.le_refl _, g_none sm hD, r_notin st hD, ?_⟩, ?_⟩
  · rw [List.drop_zero]
    exact post
  rintro i m H' ⟨rfl, hi, G2, ρ2, S2, acc, vs, s2, g2, st2, hv, ra, hvl, gD, rD, p2⟩
  refine ⟨hP G2 H' g2.sub s2, ?_⟩
  by_cases hlt : i < ds.length
  · refine .inr ⟨wk.go i H' hlt (g2.sub.trans s2), Iv (i + 1), fun H2 h2 => ⟨ds.length - (i + 1), by omega, rfl, h2⟩, fun x H3 y3 => ?_⟩
    obtain ⟨d, G3, hd, s3, g3, st3, r3⟩ := wk.yld i G2 ρ2 H' x H3 hlt g2.sub g2.pre s2 y3
    have e1 : ds.drop i = d :: ds.drop (i + 1) := by
      rw [List.drop_eq_getElem_cons hlt]
      congr 1
      rw [List.getElem?_eq_getElem hlt] at hd
      exact Option.some.inj hd
    rw [e1] at p2
    unfold compM at p2
    cases hl : g d with
    | none => rw [hl] at p2; exact (show False from p2).elim
    | some l =>
      rw [hl] at p2
      refine ⟨G3, ρ2, d, l, s3, r3, hl, fun us ru => ?_⟩
      have hk : ∀ p ∈ (l.map (·.1)).zip us, p.1 ∈ sl := fun p hp => by
        obtain ⟨q, hq, e⟩ := List.mem_map.mp (List.of_mem_zip (show (p.1, p.2) ∈ _ from hp)).1
        rw [← e]
        exact hg d l hl q hq
      refine ⟨wipe_set hk, ?_⟩
      have hv3 : H3 Dd = some (.lst vs) := g3.keep _ _ hv rD (fun ps z => by cases z)
      have gD3 : G3 Dd = none := g_stay g3 hv gD
      have g13 : Grow G ρ H G3 ρ2 H3 := g2.trans g3
      have at3 : At K mg Ω G3 ρ2 (Mr.setAll l (wipeE env sl)) S2 (Mr.setAll ((l.map (·.1)).zip us) (wipe σ sl)) H3 :=
        At.setAll ⟨s3, st3 S2 st2, (wipe_ev ev sl hΩ).grow g13⟩ (fun p hp => hΩ _ (hg d l hl p hp)) ru
      have p2 : Post K mg R Wx Q G ρ H (((noX (c (Mr.setAll l (wipeE env sl))) >>= fun k => if k then noX (t (Mr.setAll l (wipeE env sl))) >>= fun y => compM sl g c t env (ds.drop (i + 1)) >>= fun ys => pure (y :: ys) else compM sl g c t env (ds.drop (i + 1))) >>= fun ys => pure (D.lst (acc ++ ys))) S2) := p2
      rw [bind_assocM, bind_app] at p2
      refine ⟨G3, ρ2, S2, _, at3, ?_⟩
      cases ec : c (Mr.setAll l (wipeE env sl)) S2 with
      | bad => unfold noX at p2; rw [ec] at p2; exact (show False from p2).elim
      | exc x S3 => unfold noX at p2; rw [ec] at p2; exact (show False from p2).elim
      | ok k S4 =>
        have p4 : Post K mg R Wx Q G ρ H (((if k then noX (t (Mr.setAll l (wipeE env sl))) >>= fun y => compM sl g c t env (ds.drop (i + 1)) >>= fun ys => pure (y :: ys) else compM sl g c t env (ds.drop (i + 1))) >>= fun ys => pure (D.lst (acc ++ ys))) S4) := by
          unfold noX at p2
          rw [ec] at p2
          exact p2
        refine fun G4 ρ4 H4 b s4 g4 st4 eb => ?_
        cases (show k = b from eb)
        have hv4 : H4 Dd = some (.lst vs) := g4.keep _ _ hv3 rD (fun ps z => by cases z)
        have gD4 : G4 Dd = none := g_stay g4 hv3 gD3
        have rD4 : Dd ∉ ρ4 := r_stay g4 hv3 rD
        have g14 := g13.trans g4
        have ra4 : RepL K mg G4 ρ4 acc vs := (ra.mono g3.sub g3.pre).mono g4.sub g4.pre
        cases k with
        | false =>
          rw [if_neg Bool.false_ne_true]
          exact ⟨hlt, G4, ρ4, S4, acc, vs, s4, g14, st4, hv4, ra4, by omega, gD4, rD4, p4⟩
        | true =>
          rw [if_pos rfl]
          have p5 : Post K mg R Wx Q G ρ H ((noX (t (Mr.setAll l (wipeE env sl))) >>= fun y => (compM sl g c t env (ds.drop (i + 1)) >>= fun ys => pure (y :: ys)) >>= fun ys => pure (D.lst (acc ++ ys))) S4) := by
            rw [← bind_assocM]
            exact p4
          rw [bind_app] at p5
          refine ⟨G4, ρ4, S4, _, at3.grow g4 s4 st4, ?_⟩
          cases et : t (Mr.setAll l (wipeE env sl)) S4 with
          | bad => unfold noX at p5; rw [et] at p5; exact (show False from p5).elim
          | exc x S3 => unfold noX at p5; rw [et] at p5; exact (show False from p5).elim
          | ok y S5 =>
            have p6 : Post K mg R Wx Q G ρ H (((compM sl g c t env (ds.drop (i + 1)) >>= fun ys => pure (y :: ys)) >>= fun ys => pure (D.lst (acc ++ ys))) S5) := by
              unfold noX at p5
              rw [et] at p5
              exact p5
            rw [bind_assocM] at p6
            refine fun G5 ρ5 H5 v s5 g5 st5 r5 => ?_
            have hv5 : H5 Dd = some (.lst vs) := g5.keep _ _ hv4 rD4 (fun ps z => by cases z)
            have gD5 : G5 Dd = none := g_stay g5 hv4 gD4
            have rD5 : Dd ∉ ρ5 := r_stay g5 hv4 rD4
            have hlen := wk.len
            refine ⟨vs, hv5, by omega, hlt, G5, ρ5, S5, acc ++ [y], vs ++ [v], same_upd s5 gD5, (g14.trans g5).upd hD, st_upd st5 rD5 hv5 ⟨fun ps z => (by cases z), fun a q z => (by unfold LamX.CodeO at z; cases z)⟩, upd_same, (ra4.mono g5.sub g5.pre).append (.cons r5 .nil), by rw [List.length_append, List.length_singleton]; omega, gD5, rD5, ?_⟩
            have e2 : (fun ys => (pure (D.lst (acc ++ [y] ++ ys)) : M D)) = fun ys => (pure (y :: ys) : M (List D)) >>= fun ys => pure (D.lst (acc ++ ys)) := by
              funext ys
              rw [pure_bindM, List.append_assoc]
              rfl
            rw [e2]
            exact p6
  · have e : i = ds.length := by omega
    subst e
    rw [List.drop_length] at p2
    have p2 : Post K mg R Wx Q G ρ H (.ok (.lst (acc ++ [])) S2) := p2
    rw [List.append_nil] at p2
    exact .inl ⟨wk.stop H' (g2.sub.trans s2), fin G2 ρ2 S2 H' acc vs s2 g2 st2 hv ra (Nat.le_trans hvl wk.len) gD rD p2⟩
abbrev pTs (X : Cx) (W : WX) (Ω : List Nat) (ifs : List Expr) (m : TM) : Prop := PTs X ifs (tG X.K X.mg rB W Ω m)
theorem pts_imp {ifs : List Expr} {t t' : TT} (h : PTs X ifs t) (i : ∀ σ H Q, t' σ H Q → t σ H Q) : PTs X ifs t' := ⟨fun pins s σ H Q I q => h.run pins s σ H Q I (i σ H Q q)⟩
theorem pts_0 : pTs X W Ω [] cYes := pts_imp pts_nil fun σ H Q ⟨G, ρ, S, env, at_, post⟩ => Post.done (S := S) (a := true) post at_.sub at_.st rfl
theorem pts_1 (h : pT X W Ω c tc) : pTs X W Ω [c] tc := pts_one h
section
variable {elt iter : Expr} {ifs : List Expr} {scope : Scope} {own : List (Str × Nat)} {spos : Pos} {mi : LM} {g : GM} {ct : TM} {mt : EM}
theorem t_lc {R : Rl D V} (fin : ∀ (Wx : XK) (Q : VK) G ρ H Dd G2 ρ2 S2 H2 ys vs, H Dd = none → Same G2 H2 → Grow G ρ H G2 ρ2 H2 → StOk X.K X.mg G2 ρ2 S2 H2 → H2 Dd = some (.lst vs) → RepL X.K X.mg G2 ρ2 ys vs → vs.length ≤ sizeLine → G2 Dd = none → Dd ∉ ρ2 → Post X.K X.mg R Wx Q G ρ H (.ok (.lst ys) S2) → Q (.ref Dd) H2)
    (hg : GOk g (own.map (·.2))) (hΩ : ∀ i ∈ own.map (·.2), i ∉ Ω) {σ : L2.St} {H : Hp} {Q : VK} (h : tG X.K X.mg R W Ω (eComp (own.map (·.2)) mi g ct mt) σ H Q) :
    tLc (tG X.K X.mg (rI X.K X.mg) W Ω mi) (tTg X.K X.mg g) (tG X.K X.mg rB wNo Ω ct) (tG X.K X.mg (rV X.K X.mg) wNo Ω mt) (own.map (·.2)) σ H Q :=
  tG.thn (k := fun ds env => compM (own.map (·.2)) g ct mt env ds >>= fun ys => pure (D.lst ys)) h fun G1 ρ1 S1 env H1 ds J at1 wk p1 => fun Dd hD =>
    let ⟨Wv, w0, w1⟩ := lc_run (P := fun _ => True) wk at1.ev at1.sub at1.st (fun _ _ _ _ => trivial) hg hΩ hD p1 fun G2 ρ2 S2 H2 ys vs => fin _ Q G1 ρ1 H1 Dd G2 ρ2 S2 H2 ys vs hD
    ⟨Wv, w0, fun i m H w => (w1 i m H w).2⟩
theorem fin_V (Wx : XK) (Q : VK) (G : Hp) (ρ : List Addr) (H : Hp) (Dd : Addr) (G2 : Hp) (ρ2 : List Addr) (S2 : Store) (H2 : Hp) (ys : List D) (vs : List V) (hD : H Dd = none) (s : Same G2 H2) (g : Grow G ρ H G2 ρ2 H2) (st : StOk K mg G2 ρ2 S2 H2) (hv : H2 Dd = some (.lst vs)) (r : RepL K mg G2 ρ2 ys vs) (z : vs.length ≤ sizeLine) (gD : G2 Dd = none) (rD : Dd ∉ ρ2)
    (p : Post K mg (rV K mg) Wx Q G ρ H (.ok (.lst ys) S2)) : Q (.ref Dd) H2 := by
  obtain ⟨s1, _, r1⟩ := ownLay (d := .lst ys) (o := .lst vs) s hv ⟨z, r⟩ gD
  exact p (L2.upd G2 Dd (.lst vs)) ρ2 H2 (.ref Dd) s1 (g.lay hD gD) (stLay st gD rD (fun ps z => by cases z)) r1
theorem pv_lc (hc : X.calm = true) (hN : X.N.Nodup) (ok : BlkOk X.N X.env.scope scope own) (hg : GOk g (own.map (·.2))) (hΩ : ∀ i ∈ own.map (·.2), i ∉ Ω) (hi : pI X W Ω tg iter mi)
    (ht : ∀ (s : Shared) (H : Hp) (C : Addr) (cl : List (Str × Addr)) (fp : List Addr), pG (X.blk s H scope (compEnvC scope cl C X.env) fp) tg g)
    (hif : ∀ (s : Shared) (H : Hp) (C : Addr) (cl : List (Str × Addr)) (fp : List Addr), pTs (X.blk s H scope (compEnvC scope cl C X.env) fp) wNo Ω ifs ct)
    (he : ∀ (s : Shared) (H : Hp) (C : Addr) (cl : List (Str × Addr)) (fp : List Addr), pV (X.blk s H scope (compEnvC scope cl C X.env) fp) wNo Ω elt mt) (hs : ∀ x, foldedSetIterable iter X.env x = pure x := by intro _; rfl) :
    pV X W Ω (.ListComp elt [⟨tg, iter, ifs, 0⟩] scope pos) (eComp (own.map (·.2)) mi g ct mt) := pe_imp (pe_lc (own := own) hc hN hi ok ht hif he hs) fun σ H Q h => t_lc fin_V hg hΩ h
end
end
end Mr

namespace Mr
open PySem PySem.Spec PyProof.Rows L2
structure Ent where
  G : Hp
  ρ : List Addr
  H : Hp
structure Here (K : PySem.W.Frag) (mg : Str → Option Value) (en : Ent) (Ω : List Nat) (G : Hp) (ρ : List Addr) (env : Ev) (S : Store) (σ : L2.St) (H : Hp) : Prop where
  at_ : At K mg Ω G ρ env S σ H
  gr : Grow en.G en.ρ en.H G ρ H
  fr : ∀ (j : Nat) (d : D) (a : Addr), j ∈ Ω → env[j]? = some (some d) → σ[j]? = some (some (.ref a)) → en.H a = none
inductive SR where
  | nx (e : Ev) (s : Store)
  | brk (e : Ev) (s : Store)
  | cnt (e : Ev) (s : Store)
  | ret (d : D) (s : Store)
  | exc (x : Xc) (e : Ev) (s : Store)
  | bad
abbrev SM := Ev → Store → SR
def rRes (K : PySem.W.Frag) (mg : Str → Option Value) (fr : Bool) : Rl D V := if fr then rF K mg else rV K mg
structure Le (G : Hp) (ρ : List Addr) (G' : Hp) (ρ' : List Addr) : Prop where
  g : Same G G'
  r : ∀ (n : Nat) (a : Addr), ρ[n]? = some a → ρ'[n]? = some a
theorem Le.refl {G : Hp} {ρ : List Addr} : Le G ρ G ρ := ⟨Same.refl _, fun _ _ q => q⟩
theorem Le.trans {G G1 G2 : Hp} {ρ ρ1 ρ2 : List Addr} (a : Le G ρ G1 ρ1) (b : Le G1 ρ1 G2 ρ2) : Le G ρ G2 ρ2 := ⟨a.g.trans b.g, fun n x e => b.r n x (a.r n x e)⟩
theorem Grow.le {G H G' H' : Hp} {ρ ρ' : List Addr} (g : Grow G ρ H G' ρ' H') : Le G ρ G' ρ' := ⟨g.sub, g.pre⟩
def PostS (K : PySem.W.Frag) (mg : Str → Option Value) (W : WX) (fr : Bool) (en : Ent) (Ω Ωl : List Nat) (De : Ends) (G0 : Hp) (ρ0 : List Addr) : SR → Prop
  | .nx e S => ∀ G ρ σ H, Le G0 ρ0 G ρ → Here K mg en Ω G ρ e S σ H → De.nx σ H
  | .brk e S => ∀ G ρ σ H, Le G0 ρ0 G ρ → Here K mg en Ωl G ρ e S σ H → De.bk σ H
  | .cnt e S => ∀ G ρ σ H, Le G0 ρ0 G ρ → Here K mg en Ωl G ρ e S σ H → De.ct σ H
  | .ret d S => ∀ G ρ H v, Same G H → Grow en.G en.ρ en.H G ρ H → StOk K mg G ρ S H → (rRes K mg fr).r en.H G ρ H d v → De.rt v H
  | .exc x e S => ∀ G ρ σ H cls od, Le G0 ρ0 G ρ → Here K mg en [] G ρ e S σ H → ExcV K mg G ρ H x cls od → W cls od σ H
  | .bad => False
theorem PostS.up {K : PySem.W.Frag} {mg : Str → Option Value} {W : WX} {fr : Bool} {en : Ent} {Ω Ωl : List Nat} {De : Ends} {G G1 : Hp} {ρ ρ1 : List Addr} {r : SR} (l : Le G ρ G1 ρ1) (p : PostS K mg W fr en Ω Ωl De G ρ r) : PostS K mg W fr en Ω Ωl De G1 ρ1 r := by
  cases r with
  | nx e S => exact fun G2 ρ2 σ H l2 h => p G2 ρ2 σ H (l.trans l2) h
  | brk e S => exact fun G2 ρ2 σ H l2 h => p G2 ρ2 σ H (l.trans l2) h
  | cnt e S => exact fun G2 ρ2 σ H l2 h => p G2 ρ2 σ H (l.trans l2) h
  | exc x e S => exact fun G2 ρ2 σ H cls od l2 h => p G2 ρ2 σ H cls od (l.trans l2) h
  | _ => exact p
def tS (K : PySem.W.Frag) (mg : Str → Option Value) (W : WX) (fr : Bool) (en : Ent) (Ω Ω' Ωl : List Nat) (m : SM) : TS := fun De σ H => ∃ G ρ S env, Here K mg en Ω G ρ env S σ H ∧ PostS K mg W fr en Ω' Ωl De G ρ (m env S)
section
variable {K : PySem.W.Frag} {mg : Str → Option Value} {G G' H H' H1 : Hp} {ρ ρ' ρ1 : List Addr} {S S' : Store} {en : Ent} {Ω Ω' Ωl : List Nat} {env : Ev} {σ : L2.St}
theorem Here.grow (h : Here K mg en Ω G ρ env S σ H) (g : Grow G ρ H G' ρ' H') (s : Same G' H') (st : StOk K mg G' ρ' S' H') : Here K mg en Ω G' ρ' env S' σ H' := ⟨h.at_.grow g s st, h.gr.trans g, h.fr⟩
theorem Here.show1 (h : Here K mg en Ω G ρ env S σ H) (i : Nat) : ∃ G', Here K mg en (Ω.filter (· ≠ i)) G' ρ env S σ H ∧ Same G G' := by
  have mem : ∀ {j : Nat}, j ∈ Ω.filter (· ≠ i) ↔ j ∈ Ω ∧ j ≠ i := by intro j; simp
  by_cases hi : i ∈ Ω
  · cases e : env[i]? with
    | none =>
      refine ⟨G, ⟨⟨h.at_.sub, h.at_.st, ⟨h.at_.ev.len, fun j d e1 n => ?_, fun j d e1 n => h.at_.ev.own j d e1 (mem.mp n).1, fun j k d1 d2 v a b c e1 e2 e3 e4 => h.at_.ev.sep j k d1 d2 v (mem.mp a).1 (mem.mp b).1 c e1 e2 e3 e4⟩⟩, h.gr, fun j d a n => h.fr j d a (mem.mp n).1⟩, Same.refl _⟩
      exact h.at_.ev.val j d e1 fun hj => n (mem.mpr ⟨hj, fun z => by subst z; rw [e] at e1; cases e1⟩)
    | some o =>
      cases o with
      | none =>
        refine ⟨G, ⟨⟨h.at_.sub, h.at_.st, ⟨h.at_.ev.len, fun j d e1 n => ?_, fun j d e1 n => h.at_.ev.own j d e1 (mem.mp n).1, fun j k d1 d2 v a b c e1 e2 e3 e4 => h.at_.ev.sep j k d1 d2 v (mem.mp a).1 (mem.mp b).1 c e1 e2 e3 e4⟩⟩, h.gr, fun j d a n => h.fr j d a (mem.mp n).1⟩, Same.refl _⟩
        exact h.at_.ev.val j d e1 fun hj => n (mem.mpr ⟨hj, fun z => by subst z; rw [e] at e1; cases e1⟩)
      | some d =>
        obtain ⟨v, hv, a, o, rfl, ha, ro, ga, ra⟩ := h.at_.ev.own i d e hi
        obtain ⟨s1, s2, r1⟩ := ownLay h.at_.sub ha ro ga
        refine ⟨upd G a o, ⟨⟨s1, stLay h.at_.st ga ra ro.nt.1, ⟨h.at_.ev.len, fun j d' e1 n => ?_, fun j d' e1 n => ?_, fun j k d1 d2 v a b c e1 e2 e3 e4 => h.at_.ev.sep j k d1 d2 v (mem.mp a).1 (mem.mp b).1 c e1 e2 e3 e4⟩⟩, h.gr.lay (h.fr i d a hi e hv) ga, fun j d a n => h.fr j d a (mem.mp n).1⟩, s2⟩
        · by_cases hj : j = i
          · subst hj
            rw [e] at e1
            cases e1
            exact ⟨_, hv, r1⟩
          · obtain ⟨v, h1, h2⟩ := h.at_.ev.val j d' e1 fun z => n (mem.mpr ⟨z, hj⟩)
            exact ⟨v, h1, h2.mono s2 fun _ _ q => q⟩
        · obtain ⟨hj, hne⟩ := mem.mp n
          obtain ⟨v, hv', b, o', rfl, hb, rb, gb, rb'⟩ := h.at_.ev.own j d' e1 hj
          have hab : b ≠ a := fun z => by
            subst z
            exact h.at_.ev.sep j i d' d (.ref b) hj hi hne e1 e hv' hv
          exact ⟨_, hv', b, o', rfl, hb, rb.mono s2 fun _ _ q => q, by rw [upd_ne hab]; exact gb, rb'⟩
  · refine ⟨G, ⟨⟨h.at_.sub, h.at_.st, ⟨h.at_.ev.len, fun j d e1 n => ?_, fun j d e1 n => h.at_.ev.own j d e1 (mem.mp n).1, fun j k d1 d2 v a b c e1 e2 e3 e4 => h.at_.ev.sep j k d1 d2 v (mem.mp a).1 (mem.mp b).1 c e1 e2 e3 e4⟩⟩, h.gr, fun j d a n => h.fr j d a (mem.mp n).1⟩, Same.refl _⟩
    exact h.at_.ev.val j d e1 fun hj => n (mem.mpr ⟨hj, fun z => by subst z; exact hi hj⟩)
theorem Here.of_mem (h : Here K mg en Ω G ρ env S σ H) (e : ∀ j, j ∈ Ω ↔ j ∈ Ω') : Here K mg en Ω' G ρ env S σ H :=
  ⟨⟨h.at_.sub, h.at_.st, ⟨h.at_.ev.len, fun j d e1 n => h.at_.ev.val j d e1 fun z => n ((e j).mp z), fun j d e1 n => h.at_.ev.own j d e1 ((e j).mpr n), fun j k d1 d2 v a b c e1 e2 e3 e4 => h.at_.ev.sep j k d1 d2 v ((e j).mpr a) ((e k).mpr b) c e1 e2 e3 e4⟩⟩, h.gr, fun j d a n => h.fr j d a ((e j).mpr n)⟩
theorem Here.shows : ∀ (l : List Nat) {Ω : List Nat} {G : Hp}, Here K mg en Ω G ρ env S σ H → ∃ G', Here K mg en (Ω.filter (· ∉ l)) G' ρ env S σ H ∧ Same G G'
  | [], Ω, G, h => ⟨G, h.of_mem fun j => by simp, Same.refl _⟩
  | i :: l, Ω, G, h => by
    obtain ⟨G1, h1, s1⟩ := h.show1 i
    obtain ⟨G2, h2, s2⟩ := Here.shows l h1
    refine ⟨G2, h2.of_mem fun j => ?_, s1.trans s2⟩
    simp only [List.mem_filter, List.mem_cons, decide_eq_true_eq, not_or]
    exact ⟨fun ⟨⟨a, b⟩, c⟩ => ⟨a, b, c⟩, fun ⟨a, b, c⟩ => ⟨⟨a, b⟩, c⟩⟩
theorem Here.sub (h : Here K mg en Ω G ρ env S σ H) (e : ∀ j ∈ Ω', j ∈ Ω) : ∃ G', Here K mg en Ω' G' ρ env S σ H ∧ Same G G' := by
  obtain ⟨G1, h1, s1⟩ := h.shows (Ω.filter (· ∉ Ω'))
  refine ⟨G1, h1.of_mem fun j => ?_, s1⟩
  simp only [List.mem_filter, decide_eq_true_eq, not_and, Decidable.not_not]
  exact ⟨fun ⟨a, b⟩ => b a, fun a => ⟨e j a, fun _ => a⟩⟩
theorem ExcV.mono {x : Xc} {cls : Value} {od : Option Addr} (h : ExcV K mg G ρ H x cls od) (s : Same G G') : ExcV K mg G' ρ H x cls od := by
  obtain ⟨C, h1, h2, h3, h4, h5⟩ := h
  refine ⟨C, h1, h2, h3, h4, h5.imp id ?_⟩
  rintro ⟨d, v, e, a, b, c, r⟩
  exact ⟨d, v, e, a, b, c, r.mono s fun _ _ q => q⟩
theorem here_post {α β : Type} {R : Rl α β} {W : WX} {fr : Bool} {De : Ends} {m : Ev → M α} {C : β → Hp → Prop} {k : α → Store → SR} (h : Here K mg en Ω G ρ env S σ H)
    (p : PostS K mg W fr en Ω' Ωl De G ρ (match m env S with
      | .ok a s => k a s
      | .exc x s => .exc x env s
      | .bad => .bad))
    (c : ∀ G1 ρ1 S1 H1 a b, Grow G ρ H G1 ρ1 H1 → Here K mg en Ω G1 ρ1 env S1 σ H1 → R.r H G1 ρ1 H1 a b → PostS K mg W fr en Ω' Ωl De G1 ρ1 (k a S1) → C b H1) : tG K mg R W Ω m σ H C := by
  refine ⟨G, ρ, S, env, h.at_, ?_⟩
  cases e : m env S with
  | ok a S1 =>
    rw [e] at p
    exact fun G1 ρ1 H1 b s g st rl => c G1 ρ1 S1 H1 a b g (h.grow g s st) rl (PostS.up g.le p)
  | exc x S1 =>
    rw [e] at p
    refine fun G1 ρ1 H1 cls od s g st ex => ?_
    obtain ⟨G2, h2, s2⟩ := (h.grow g s st).sub (Ω' := []) (fun j z => by cases z)
    exact p G2 ρ1 σ H1 cls od ⟨g.sub.trans s2, g.pre⟩ h2 (ex.mono s2)
  | bad =>
    rw [e] at p
    exact p
end
def sE {α : Type} (m : Ev → M α) (k : α → Ev → Store → SR) : SM := fun env S => match m env S with
  | .ok a s => k a env s
  | .exc x s => .exc x env s
  | .bad => .bad
def sDrop {α : Type} (m : Ev → M α) : SM := sE m fun _ e s => .nx e s
def sSet (i : Nat) (m : EM) : SM := sE m fun d e s => .nx (e.set i (some d)) s
def sUnp (g : GM) (m : EM) : SM := sE m fun d e s => match g d with
  | some l => .nx (setAll l e) s
  | none => .bad
def sPar (is : List Nat) (m : LM) : SM := sE m fun ds e s => if ds.length = is.length then .nx (setAll (is.zip ds) e) s else .bad
def sRet (m : EM) : SM := sE m fun d _ s => .ret d s
def sRetN : SM := fun _ s => .ret .non s
def sNext : SM := fun e s => .nx e s
def sBrk : SM := fun e s => .brk e s
def sCnt : SM := fun e s => .cnt e s
def sSeq (a b : SM) : SM := fun e s => match a e s with
  | .nx e' s' => b e' s'
  | r => r
def sIf (c : TM) (a b : SM) : SM := sE c fun k e s => if k then a e s else b e s
def forL (g : GM) (b : SM) : List D → SM
  | [] => fun e s => .nx e s
  | d :: ds => fun e s => match g d with
    | none => .bad
    | some l => (match b (setAll l e) s with
      | .nx e' s' => forL g b ds e' s'
      | .cnt e' s' => forL g b ds e' s'
      | .brk e' s' => .nx e' s'
      | r => r)
def sFor (it : LM) (g : GM) (b : SM) : SM := sE it fun ds e s => forL g b ds e s
def sWhile (c : TM) (b : SM) : Nat → SM
  | 0 => fun _ _ => .bad
  | n + 1 => fun e s => match c e s with
    | .ok true s' => (match b e s' with
      | .nx e2 s2 => sWhile c b n e2 s2
      | .cnt e2 s2 => sWhile c b n e2 s2
      | .brk e2 s2 => .nx e2 s2
      | r => r)
    | .ok false s' => .nx e s'
    | .exc x s' => .exc x e s'
    | .bad => .bad
def sRaise (c : Str) : SM := fun e s => .exc ⟨c, []⟩ e s
def chOwn (i : Nat) (f : List D → Option (List D)) (e : Ev) (s : Store) : SR := match e[i]? with
  | some (some (.lst xs)) => (match f xs with
    | some ys => .nx (e.set i (some (.lst ys))) s
    | none => .bad)
  | _ => .bad
def ckLen (ys : List D) : Option (List D) := if ys.length ≤ sizeLine then some ys else none
def sApp (i : Nat) (m : EM) : SM := sE m fun d e s => chOwn i (fun xs => ckLen (xs ++ [d])) e s
def sExt (i : Nat) (m : EM) : SM := sE m fun d e s => match d with
  | .lst ys => chOwn i (fun xs => ckLen (xs ++ ys)) e s
  | _ => .bad
def sRevI (i : Nat) : SM := fun e s => chOwn i (fun xs => some xs.reverse) e s
def insAt (j : Int) (y : D) (xs : List D) : Option (List D) := if 0 ≤ j ∧ j < 2 ^ 63 then ckLen (xs.take j.toNat ++ y :: xs.drop j.toNat) else none
def sIns (i : Nat) (mj : EM) (m : EM) : SM := sE mj fun j => sE m fun d e s => match j with
  | .int j => chOwn i (insAt j d) e s
  | _ => .bad
def setI (j : Int) (y : D) (xs : List D) : Option (List D) := (ixN xs.length j).map fun k => xs.set k y
def sSetI (i : Nat) (m mj : EM) : SM := sE m fun d => sE mj fun j e s => match j with
  | .int j => chOwn i (setI j d) e s
  | _ => .bad
def sSetR (m mo mj : EM) : SM := sE m fun d => sE mo fun o => sE mj fun j e s => match o, j with
  | .ref n, .int j => (match s[n]? with
    | some (.lst xs) => (match setI j d xs with
      | some ys => .nx e (s.set n (.lst ys))
      | none => .bad)
    | _ => .bad)
  | _, _ => .bad

section
variable {X : Cx} {W : WX} {fr : Bool} {en : Ent} {Ω Ω1 Ω' Ωl Ω0 : List Nat} {st : Stmt} {sts sts2 : List Stmt} {m n : SM} {c e tg it : Expr} {ma mb mc : EM} {ml : LM} {tc : TM} {pos : Pos} {x : Str}
abbrev qS (X : Cx) (W : WX) (fr : Bool) (en : Ent) (Ω Ω' Ωl : List Nat) (st : Stmt) (m : SM) : Prop := PS X st (tS X.K X.mg W fr en Ω Ω' Ωl m)
abbrev qB (X : Cx) (W : WX) (fr : Bool) (en : Ent) (Ω Ω' Ωl : List Nat) (st : List Stmt) (m : SM) : Prop := PSs X st (tS X.K X.mg W fr en Ω Ω' Ωl m)
theorem q_nil : qB X W fr en Ω Ω Ωl [] sNext := pss_imp pss_nil fun De σ H ⟨G, ρ, S, env, h, p⟩ => p G ρ σ H Le.refl h
theorem q_cons (h1 : qS X W fr en Ω Ω1 Ωl st m) (h2 : qB X W fr en Ω1 Ω' Ωl sts n) : qB X W fr en Ω Ω' Ωl (st :: sts) (sSeq m n) := pss_imp (pss_cons h1 h2) fun De σ H ⟨G, ρ, S, env, h, p⟩ => by
  refine ⟨G, ρ, S, env, h, ?_⟩
  unfold sSeq at p
  cases e : m env S with
  | nx e' s' => rw [e] at p; exact fun G1 ρ1 σ1 H1 l h1 => ⟨G1, ρ1, s', e', h1, PostS.up l p⟩
  | brk e' s' => rw [e] at p; exact p
  | cnt e' s' => rw [e] at p; exact p
  | ret d s' => rw [e] at p; exact p
  | exc x e' s' => rw [e] at p; exact p
  | bad => rw [e] at p; exact p
theorem q_one (h1 : qS X W fr en Ω Ω' Ωl st m) : qB X W fr en Ω Ω' Ωl [st] m := pss_one h1
theorem q_show (Ω1 : List Nat) (h : qB X W fr en Ω1 Ω' Ωl sts m) (e : ∀ j ∈ Ω1, j ∈ Ω := by decide) : qB X W fr en Ω Ω' Ωl sts m := pss_imp h fun De σ H ⟨G, ρ, S, env, h, p⟩ =>
  let ⟨G', h', s'⟩ := h.sub e
  ⟨G', ρ, S, env, h', PostS.up ⟨s', fun _ _ q => q⟩ p⟩
theorem q_end (Ω1 : List Nat) (h : qB X W fr en Ω Ω1 Ωl sts m) (e : ∀ j ∈ Ω', j ∈ Ω1 := by decide) : qB X W fr en Ω Ω' Ωl sts m := pss_imp h fun De σ H ⟨G, ρ, S, env, h, p⟩ => by
  refine ⟨G, ρ, S, env, h, ?_⟩
  cases q : m env S with
  | nx e' s' =>
    rw [q] at p
    exact fun G1 ρ1 σ1 H1 l h1 => let ⟨G2, h2, s2⟩ := h1.sub e; p G2 ρ1 σ1 H1 (l.trans ⟨s2, fun _ _ q => q⟩) h2
  | brk e' s' => rw [q] at p; exact p
  | cnt e' s' => rw [q] at p; exact p
  | ret d s' => rw [q] at p; exact p
  | exc x e' s' => rw [q] at p; exact p
  | bad => rw [q] at p; exact p
theorem q_expr (h : pV X W Ω e ma) (hs : swapsWith e none pos.line X.env = pure false := by rfl) : qS X W fr en Ω Ω Ωl (.Expr e pos) (sDrop ma) := ps_imp (ps_expr h hs) fun De σ H ⟨G, ρ, S, env, h, p⟩ =>
  here_post h p fun G1 ρ1 S1 H1 a b g h1 _ p1 => p1 G1 ρ1 σ H1 Le.refl h1
theorem Here.set {K : PySem.W.Frag} {mg : Str → Option Value} {G H : Hp} {ρ : List Addr} {S : Store} {env : Ev} {σ : L2.St} {i : Nat} {d : D} {v : V} (h : Here K mg en Ω G ρ env S σ H) (hi : i ∉ Ω) (r : Rep K mg G ρ d v) : Here K mg en Ω G ρ (env.set i (some d)) S (σ.set i (some v)) H :=
  ⟨⟨h.at_.sub, h.at_.st, h.at_.ev.set hi r⟩, h.gr, fun j d' a n e1 e2 => by
    have hj : i ≠ j := fun z => hi (z ▸ n)
    rw [List.getElem?_set_ne hj] at e1 e2
    exact h.fr j d' a n e1 e2⟩
theorem q_set' {i : Nat} {te : TE} (h : PS X st (tAsg te (gName i))) (k : ∀ σ H Q, tG X.K X.mg (rV X.K X.mg) W Ω ma σ H Q → te σ H Q) (hi : i ∉ Ω := by decide) : qS X W fr en Ω Ω Ωl st (sSet i ma) := ps_imp h fun De σ H ⟨G, ρ, S, env, h, p⟩ =>
  k σ H _ (here_post h p fun G1 ρ1 S1 H1 a b g h1 r p1 => p1 G1 ρ1 _ H1 Le.refl (h1.set hi r))
theorem Here.own {K : PySem.W.Frag} {mg : Str → Option Value} {G H H0 : Hp} {ρ : List Addr} {S : Store} {env : Ev} {σ : L2.St} {i : Nat} {d : D} {v : V} (h : Here K mg en Ω G ρ env S σ H) (hm : ∀ j, j ∈ Ω' ↔ j = i ∨ j ∈ Ω) (hf : ∀ (j : Nat) (e : D) (a : Addr), j ∈ Ω → env[j]? = some (some e) → σ[j]? = some (some (.ref a)) → H0 a ≠ none) (h0 : ∀ a, H0 a = none → en.H a = none)
    (r : (rF K mg).r H0 G ρ H d v) : Here K mg en Ω' G ρ (env.set i (some d)) S (σ.set i (some v)) H := by
  obtain ⟨a, o, rfl, ha, ro, ga, ra, na⟩ := r
  have at_set : ∀ {j : Nat} {d' : D}, (env.set i (some d))[j]? = some (some d') → (j = i ∧ d' = d ∧ (σ.set i (some (V.ref a)))[j]? = some (some (.ref a))) ∨ (j ≠ i ∧ env[j]? = some (some d') ∧ (σ.set i (some (V.ref a)))[j]? = σ[j]?) := fun {j d'} e1 => by
    by_cases hj : i = j
    · subst hj
      by_cases hl : i < env.length
      · rw [List.getElem?_set_self hl] at e1
        cases e1
        exact .inl ⟨rfl, rfl, List.getElem?_set_self (by rw [← h.at_.ev.len]; exact hl)⟩
      · rw [List.getElem?_eq_none (by rw [List.length_set]; omega)] at e1; cases e1
    · rw [List.getElem?_set_ne hj] at e1
      exact .inr ⟨fun z => hj z.symm, e1, List.getElem?_set_ne hj⟩
  refine ⟨⟨h.at_.sub, h.at_.st, ⟨by rw [List.length_set, List.length_set, h.at_.ev.len], fun j d' e1 n => ?_, fun j d' e1 n => ?_, fun j k d1 d2 v1 n1 n2 ne e1 e2 e3 e4 => ?_⟩⟩, h.gr, fun j d' b n e1 e2 => ?_⟩
  · rcases at_set e1 with ⟨hj, _⟩ | ⟨hj, e2, e3⟩
    · exact absurd ((hm j).mpr (.inl hj)) n
    · rw [e3]
      exact h.at_.ev.val j d' e2 fun z => n ((hm j).mpr (.inr z))
  · rcases at_set e1 with ⟨hj, rfl, e3⟩ | ⟨hj, e2, e3⟩
    · exact ⟨_, e3, a, o, rfl, ha, ro, ga, ra⟩
    · rw [e3]
      exact h.at_.ev.own j d' e2 (((hm j).mp n).resolve_left hj)
  · rcases at_set e1 with ⟨hj, _, e5⟩ | ⟨hj, e5, e6⟩
    · rcases at_set e2 with ⟨hk, _⟩ | ⟨hk, e7, e8⟩
      · exact ne (hj.trans hk.symm)
      · rw [e5] at e3; cases e3
        rw [e8] at e4
        exact hf k d2 a (((hm k).mp n2).resolve_left hk) e7 e4 na
    · rcases at_set e2 with ⟨hk, _, e9⟩ | ⟨hk, e7, e8⟩
      · rw [e9] at e4; cases e4
        rw [e6] at e3
        exact hf j d1 a (((hm j).mp n1).resolve_left hj) e5 e3 na
      · rw [e6] at e3
        rw [e8] at e4
        exact h.at_.ev.sep j k d1 d2 v1 (((hm j).mp n1).resolve_left hj) (((hm k).mp n2).resolve_left hk) ne e5 e7 e3 e4
  · rcases at_set e1 with ⟨hj, _, e3⟩ | ⟨hj, e3, e4⟩
    · rw [e3] at e2; cases e2
      exact h0 a na
    · rw [e4] at e2
      exact h.fr j d' b (((hm j).mp n).resolve_left hj) e3 e2
theorem own_some {K : PySem.W.Frag} {mg : Str → Option Value} {G H : Hp} {ρ : List Addr} {S : Store} {env : Ev} {σ : L2.St} (h : Here K mg en Ω G ρ env S σ H) : ∀ (j : Nat) (e : D) (a : Addr), j ∈ Ω → env[j]? = some (some e) → σ[j]? = some (some (.ref a)) → H a ≠ none := fun j e a hj h1 h2 z => by
  obtain ⟨v, hv, b, o, rfl, hb, _⟩ := h.at_.ev.own j e h1 hj
  rw [h2] at hv; cases hv
  rw [z] at hb; cases hb
theorem q_own' {i : Nat} {te : TE} (h : PS X st (tAsg te (gName i))) (k : ∀ σ H Q, tG X.K X.mg (rF X.K X.mg) W Ω ma σ H Q → te σ H Q) (hm : ∀ j, j ∈ Ω' ↔ j = i ∨ j ∈ Ω) : qS X W fr en Ω Ω' Ωl st (sSet i ma) := ps_imp h fun De σ H ⟨G, ρ, S, env, h, p⟩ =>
  k σ H _ (here_post h p fun G1 ρ1 S1 H1 a b g h1 r p1 => p1 G1 ρ1 _ H1 Le.refl (h1.own hm (own_some h) (fun a z => h.gr.live a z) r))
theorem own_new {i : Nat} (j : Nat) : j ∈ (i :: Ω) ↔ j = i ∨ j ∈ Ω := List.mem_cons
theorem own_old {i : Nat} (hi : i ∈ Ω) (j : Nat) : j ∈ Ω ↔ j = i ∨ j ∈ Ω := ⟨.inr, fun h => h.elim (fun z => z ▸ hi) id⟩
section
variable {i : Nat} {pos' : Pos}
theorem q_set (hN : X.N.Nodup) (hi : X.N[i]? = some x) (h : pV X W Ω e ma) (hx : Loc X.env.scope x := by first | exact .inl rfl | exact .inr rfl) (hΩ : i ∉ Ω := by decide) (hs : swapsWith e (some (.Name x pos')) pos.line X.env = pure false := by rfl) (hf : X.fn x = true ∨ X.env.scope.names.lookup x = some .local := by first | exact .inl rfl | exact .inr rfl) :
    qS X W fr en Ω Ω Ωl (.Assign [.Name x pos'] e pos) (sSet i ma) := q_set' (ps_set hN hi hx h hs hf) (fun _ _ _ q => q) hΩ
theorem q_own (hN : X.N.Nodup) (hi : X.N[i]? = some x) (h : pF X W Ω e ma) (hm : ∀ j, j ∈ Ω' ↔ j = i ∨ j ∈ Ω) (hx : Loc X.env.scope x := by first | exact .inl rfl | exact .inr rfl) (hs : swapsWith e (some (.Name x pos')) pos.line X.env = pure false := by rfl) (hf : X.fn x = true ∨ X.env.scope.names.lookup x = some .local := by first | exact .inl rfl | exact .inr rfl) :
    qS X W fr en Ω Ω' Ωl (.Assign [.Name x pos'] e pos) (sSet i ma) := q_own' (ps_set hN hi hx h hs hf) (fun _ _ _ q => q) hm
end
theorem Here.setAll {K : PySem.W.Frag} {mg : Str → Option Value} {G H : Hp} {ρ : List Addr} {S : Store} : ∀ {l : List (Nat × D)} {vs : List V} {env : Ev} {σ : L2.St}, Here K mg en Ω G ρ env S σ H → (∀ p ∈ l, p.1 ∉ Ω) → RepL K mg G ρ (l.map (·.2)) vs → Here K mg en Ω G ρ (Mr.setAll l env) S (Mr.setAll ((l.map (·.1)).zip vs) σ) H
  | [], vs, env, σ, x, _, r => by cases r; exact x
  | (i, d) :: l, _, env, σ, x, n, r => by
    obtain ⟨v, vs, rfl, h1, h2⟩ := r.cons_inv
    exact Here.setAll (l := l) (vs := vs) (env := env.set i (some d)) (σ := σ.set i (some v)) (x.set (n (i, d) (List.mem_cons_self ..)) h1) (fun p hp => n p (List.mem_cons_of_mem _ hp)) h2
theorem q_unp {g : GM} {sl : List Nat} (h : pV X W Ω e ma) (ht : pG X tg g) (hg : GOk g sl) (hΩ : ∀ i ∈ sl, i ∉ Ω := by decide) (hs : swapsWithSole [tg] e pos.line X.env = pure false := by rfl) (hw : swappedStores [tg] e X.env = pure none := by rfl) (h1 : (assignEach [tg] X.env).map (·.2) = [assign tg X.env] := by rfl) :
    qS X W fr en Ω Ω Ωl (.Assign [tg] e pos) (sUnp g ma) := ps_imp (ps_asg h ht hs hw h1) fun De σ H ⟨G, ρ, S, env, h, p⟩ =>
  here_post h p fun G1 ρ1 S1 H1 d b gr h1 r p1 => by
    cases q : g d with
    | none => simp only [q] at p1; exact (show False from p1).elim
    | some l =>
      simp only [q] at p1
      exact ⟨G1, ρ1, d, l, h1.at_.sub, r, q, fun vs rr => p1 G1 ρ1 _ H1 Le.refl (h1.setAll (fun p hp => hΩ _ (hg d l q p hp)) rr)⟩
theorem q_ret (h : pV X W Ω e ma) : qS X W false en Ω Ω' Ωl (.Return (some e) pos) (sRet ma) := ps_imp (ps_ret h) fun De σ H ⟨G, ρ, S, env, h, p⟩ =>
  here_post h p fun G1 ρ1 S1 H1 d v g h1 r p1 => p1 G1 ρ1 H1 v h1.at_.sub h1.gr h1.at_.st r
theorem q_if (hc : pT X W Ω c tc) (ha : qB X W fr en Ω Ω' Ωl sts m) (hb : qB X W fr en Ω Ω' Ωl sts2 n) : qS X W fr en Ω Ω' Ωl (.If c sts sts2 pos) (sIf tc m n) := ps_imp (ps_if hc ha hb) fun De σ H ⟨G, ρ, S, env, h, p⟩ =>
  here_post h p fun G1 ρ1 S1 H1 k b g h1 r p1 => by
    cases (show k = b from r)
    cases k with
    | true => rw [if_pos rfl]; exact ⟨G1, ρ1, S1, env, h1, p1⟩
    | false => rw [if_neg Bool.false_ne_true]; exact ⟨G1, ρ1, S1, env, h1, p1⟩
theorem q_for {g : GM} {sl : List Nat} (hp : PassesOwn (model X.prog X.w) X.A X.env X.xe) (hc : X.calm = true) (hi : pI X W Ω tg it ml) (ht : pG X tg g) (hg : GOk g sl) (hb : qB X W fr en Ω Ω Ω sts m) (hΩ : ∀ i ∈ sl, i ∉ Ω := by decide) (hs : ∀ x, foldedSetIterable it X.env x = pure x := by intro _; rfl) :
    qS X W fr en Ω Ω Ωl (.For tg it sts [] pos) (sFor ml g m) := ps_imp (ps_for hp hc hi ht hb hs) fun De σ H ⟨G, ρ, S, env, h, p⟩ =>
  here_post h p fun G1 ρ1 S1 H1 ds J gr h1 wk p1 => by
    let Wv : Nat → Nat → L2.St → Hp → Prop := fun i n σ' H' => n = ds.length - i ∧ i ≤ ds.length ∧ ∃ G2 ρ2 S2 env2, Le G1 ρ1 G2 ρ2 ∧ Here X.K X.mg en Ω G2 ρ2 env2 S2 σ' H' ∧
      PostS X.K X.mg W fr en Ω Ωl De G1 ρ1 (forL g m (ds.drop i) env2 S2)
    refine ⟨Wv, ⟨ds.length, rfl, Nat.zero_le _, G1, ρ1, S1, env, Le.refl, h1, p1⟩, ?_⟩
    rintro i n σ' H' ⟨rfl, hi, G2, ρ2, S2, env2, e1, h2, p2⟩
    by_cases hlt : i < ds.length
    · refine .inr ⟨wk.go i H' hlt (e1.g.trans h2.at_.sub), Wv (i + 1) (ds.length - (i + 1)), fun σ3 H3 w3 => ⟨ds.length - (i + 1), by omega, w3⟩, fun x H3 y3 => ?_⟩
      obtain ⟨d, G3, hd, s3, g3, st3, r3⟩ := wk.yld i G2 ρ2 H' x H3 hlt e1.g e1.r h2.at_.sub y3
      have e3 : ds.drop i = d :: ds.drop (i + 1) := by
        rw [List.drop_eq_getElem_cons hlt]
        congr 1
        rw [List.getElem?_eq_getElem hlt] at hd
        exact Option.some.inj hd
      rw [e3] at p2
      unfold forL at p2
      cases hl : g d with
      | none => simp only [hl] at p2; exact (show False from p2).elim
      | some l =>
        simp only [hl] at p2
        refine ⟨G3, ρ2, d, l, s3, r3, hl, fun vs rr => ?_⟩
        have h3 := (h2.grow g3 s3 (st3 S2 h2.at_.st)).setAll (l := l) (vs := vs) (fun p hp => hΩ _ (hg d l hl p hp)) rr
        refine ⟨G3, ρ2, S2, _, h3, ?_⟩
        have l3 : Le G1 ρ1 G3 ρ2 := e1.trans g3.le
        cases em : m (Mr.setAll l env2) S2 with
        | nx e' s' =>
          simp only [em] at p2
          exact fun G4 ρ4 σ4 H4 l4 h4 => ⟨rfl, hlt, G4, ρ4, s', e', l3.trans l4, h4, p2⟩
        | cnt e' s' =>
          simp only [em] at p2
          exact fun G4 ρ4 σ4 H4 l4 h4 => ⟨rfl, hlt, G4, ρ4, s', e', l3.trans l4, h4, p2⟩
        | brk e' s' =>
          simp only [em] at p2
          exact fun G4 ρ4 σ4 H4 l4 h4 => p2 G4 ρ4 σ4 H4 (l3.trans l4) h4
        | ret d' s' => simp only [em] at p2; exact p2
        | exc x' e' s' =>
          simp only [em] at p2
          exact fun G4 ρ4 σ4 H4 cls od l4 h4 => p2 G4 ρ4 σ4 H4 cls od (l3.trans l4) h4
        | bad => simp only [em] at p2; exact p2
    · have e : i = ds.length := by omega
      subst e
      rw [List.drop_length] at p2
      exact .inl ⟨wk.stop H' (e1.g.trans h2.at_.sub), p2 G2 ρ2 σ' H' e1 h2⟩
theorem q_while (n : Nat) (hp : PassesOwn (model X.prog X.w) X.A X.env X.xe) (hc : pT X W Ω c tc) (hb : qB X W fr en Ω Ω Ω sts m) : qS X W fr en Ω Ω Ωl (.While c sts [] pos) (sWhile tc m n) := ps_imp (ps_while hp hc hb) fun De σ H ⟨G, ρ, S, env, h, p⟩ => by
  refine ⟨fun k σ' H' => ∃ G2 ρ2 S2 env2, Le G ρ G2 ρ2 ∧ Here X.K X.mg en Ω G2 ρ2 env2 S2 σ' H' ∧ PostS X.K X.mg W fr en Ω Ωl De G ρ (sWhile tc m k env2 S2), ⟨n, G, ρ, S, env, Le.refl, h, p⟩, ?_⟩
  rintro k σ' H' ⟨G2, ρ2, S2, env2, l2, h2, p2⟩
  cases k with
  | zero => exact (show False from p2).elim
  | succ k =>
    unfold sWhile at p2
    refine ⟨G2, ρ2, S2, env2, h2.at_, ?_⟩
    cases et : tc env2 S2 with
    | bad => simp only [et] at p2; exact p2
    | exc x s' =>
      simp only [et] at p2
      refine fun G3 ρ3 H3 cls od s g st ex => ?_
      obtain ⟨G4, h4, s4⟩ := (h2.grow g s st).sub (Ω' := []) (fun j z => by cases z)
      exact p2 G4 ρ3 σ' H3 cls od (l2.trans ⟨g.sub.trans s4, g.pre⟩) h4 (ex.mono s4)
    | ok b s' =>
      refine fun G3 ρ3 H3 b' s g st eb => ?_
      cases (show b = b' from eb)
      have h3 := h2.grow g s st
      have l3 := l2.trans g.le
      cases b with
      | false =>
        simp only [et] at p2
        rw [if_neg Bool.false_ne_true]
        exact p2 G3 ρ3 σ' H3 l3 h3
      | true =>
        simp only [et] at p2
        rw [if_pos rfl]
        refine ⟨fun σ4 H4 => ∃ G2 ρ2 S2 env2, Le G ρ G2 ρ2 ∧ Here X.K X.mg en Ω G2 ρ2 env2 S2 σ4 H4 ∧ PostS X.K X.mg W fr en Ω Ωl De G ρ (sWhile tc m k env2 S2), fun σ4 H4 q => ⟨k, Nat.lt_succ_self k, q⟩, G3, ρ3, s', env2, h3, ?_⟩
        cases em : m env2 s' with
        | nx e2 s2 => simp only [em] at p2; exact fun G4 ρ4 σ4 H4 l4 h4 => ⟨G4, ρ4, s2, e2, l3.trans l4, h4, p2⟩
        | cnt e2 s2 => simp only [em] at p2; exact fun G4 ρ4 σ4 H4 l4 h4 => ⟨G4, ρ4, s2, e2, l3.trans l4, h4, p2⟩
        | brk e2 s2 => simp only [em] at p2; exact fun G4 ρ4 σ4 H4 l4 h4 => p2 G4 ρ4 σ4 H4 (l3.trans l4) h4
        | ret d' s2 => simp only [em] at p2; exact p2
        | exc x' e2 s2 => simp only [em] at p2; exact fun G4 ρ4 σ4 H4 cls od l4 h4 => p2 G4 ρ4 σ4 H4 cls od (l3.trans l4) h4
        | bad => simp only [em] at p2; exact p2
end
end Mr

namespace Mr
open PySem PySem.Spec PyProof.Rows L2
section
variable {K : PySem.W.Frag} {mg : Str → Option Value} {G G' H H' H1 : Hp} {ρ ρ' ρ1 : List Addr} {S S' : Store} {en : Ent} {Ω Ω' Ωl : List Nat} {env : Ev} {σ : L2.St}
theorem ix_nodup {N : List Addr} (hN : N.Nodup) {i j : Nat} {x : Addr} (a : N[i]? = some x) (b : N[j]? = some x) : i = j := by
  obtain ⟨h1, e1⟩ := List.getElem?_eq_some_iff.mp a
  obtain ⟨h2, e2⟩ := List.getElem?_eq_some_iff.mp b
  exact (List.getElem_inj hN).mp (e1.trans e2.symm)
theorem Here.change {i : Nat} {d d' : D} {a : Addr} {o o' : HO} (h : Here K mg en Ω G ρ env S σ H) (hi : i ∈ Ω) (he : env[i]? = some (some d)) (hs : σ[i]? = some (some (.ref a))) (ha : H a = some o) (ga : G a = none) (ra : a ∉ ρ) (r : OwnR K mg G ρ d' o') :
    Here K mg en Ω G ρ (env.set i (some d')) S σ (upd H a o') := by
  have hl : i < env.length := (List.getElem?_eq_some_iff.mp he).1
  have at_set : ∀ {j : Nat} {e : D}, (env.set i (some d'))[j]? = some (some e) → (j = i ∧ e = d') ∨ (j ≠ i ∧ env[j]? = some (some e)) := fun {j e} e1 => by
    by_cases hj : i = j
    · subst hj
      rw [List.getElem?_set_self hl] at e1
      cases e1
      exact .inl ⟨rfl, rfl⟩
    · rw [List.getElem?_set_ne hj] at e1
      exact .inr ⟨fun z => hj z.symm, e1⟩
  have some_at : ∀ {j : Nat} {e : D}, (env.set i (some d'))[j]? = some (some e) → ∃ e', env[j]? = some (some e') := fun {j e} e1 => by
    rcases at_set e1 with ⟨rfl, _⟩ | ⟨_, e2⟩
    · exact ⟨d, he⟩
    · exact ⟨e, e2⟩
  have en0 : en.H a = none := h.fr i d a hi he hs
  have nt : (∀ ps, o ≠ .tbl ps) ∧ ∀ a q, o ≠ LamX.CodeO a q := by
    obtain ⟨v, hv, b, ob, rfl, hb, rb, _⟩ := h.at_.ev.own i d he hi
    rw [hs] at hv
    cases hv
    rw [ha] at hb
    cases hb
    exact rb.nt
  refine ⟨⟨same_upd h.at_.sub ga, st_upd h.at_.st ra ha nt, ⟨by rw [List.length_set, h.at_.ev.len], fun j e e1 n => ?_, fun j e e1 n => ?_, fun j k d1 d2 v n1 n2 ne e1 e2 e3 e4 => ?_⟩⟩, h.gr.upd en0, fun j e b n e1 e2 => ?_⟩
  · rcases at_set e1 with ⟨rfl, _⟩ | ⟨_, e2⟩
    · exact absurd hi n
    · exact h.at_.ev.val j e e2 n
  · rcases at_set e1 with ⟨rfl, rfl⟩ | ⟨hj, e2⟩
    · exact ⟨_, hs, a, o', rfl, upd_same, r, ga, ra⟩
    · obtain ⟨v, hv, b, ob, rfl, hb, rb, gb, rb'⟩ := h.at_.ev.own j e e2 n
      have hne : b ≠ a := fun z => by
        subst z
        exact h.at_.ev.sep j i e d _ n hi hj e2 he hv hs
      exact ⟨_, hv, b, ob, rfl, by rw [upd_ne hne]; exact hb, rb, gb, rb'⟩
  · obtain ⟨d1', e1'⟩ := some_at e1
    obtain ⟨d2', e2'⟩ := some_at e2
    exact h.at_.ev.sep j k d1' d2' v n1 n2 ne e1' e2' e3 e4
  · obtain ⟨e', e1'⟩ := some_at e1
    exact h.fr j e' b n e1' e2
theorem chOwn_post {W : WX} {fr : Bool} {De : Ends} {i : Nat} {f : List D → Option (List D)} (h : Here K mg en Ω G ρ env S σ H) (hi : i ∈ Ω) (p : PostS K mg W fr en Ω Ωl De G ρ (chOwn i f env S)) :
    ∃ xs ys a vs, env[i]? = some (some (.lst xs)) ∧ f xs = some ys ∧ σ[i]? = some (some (.ref a)) ∧ H a = some (.lst vs) ∧ RepL K mg G ρ xs vs ∧ vs.length ≤ sizeLine ∧ ∀ ws, RepL K mg G ρ ys ws → ws.length ≤ sizeLine → De.nx σ (upd H a (.lst ws)) := by
  unfold chOwn at p
  cases e : env[i]? with
  | none => simp only [e] at p; exact p.elim
  | some o =>
    cases o with
    | none => simp only [e] at p; exact p.elim
    | some d =>
      cases d with
      | lst xs =>
        simp only [e] at p
        obtain ⟨v, hv, a, o, rfl, ha, ro, ga, ra⟩ := h.at_.ev.own i _ e hi
        cases o with
        | lst vs =>
          cases hf : f xs with
          | none => simp only [hf] at p; exact p.elim
          | some ys =>
            simp only [hf] at p
            exact ⟨xs, ys, a, vs, rfl, hf, hv, ha, ro.2, ro.1, fun ws r z => p G ρ σ _ Le.refl (h.change (d' := .lst ys) (o' := .lst ws) hi e hv ha ga ra ⟨z, r⟩)⟩
        | _ => exact (show False from ro).elim
      | _ => simp only [e] at p; exact p.elim
end
def gd (i : Nat) (k : SM) : SM := fun e s => match e[i]? with
  | some (some (.lst _)) => k e s
  | _ => .bad
section
variable {X : Cx} {W : WX} {fr : Bool} {en : Ent} {Ω Ω1 Ω' Ωl Ω0 : List Nat} {st : Stmt} {sts sts2 : List Stmt} {m n : SM} {a b c e ej tg it : Expr} {ma mb mj : EM} {ml : LM} {tc : TM} {pos p1 p2 p3 : Pos} {x : Str} {i : Nat} {K : PySem.W.Frag} {mg : Str → Option Value}
theorem gd_post {G H : Hp} {ρ : List Addr} {S : Store} {env : Ev} {σ : L2.St} {De : Ends} {k : SM} (h : Here K mg en Ω G ρ env S σ H) (hi : i ∈ Ω) (p : PostS K mg W fr en Ω' Ωl De G ρ (gd i k env S)) :
    ∃ a vs, σ[i]? = some (some (.ref a)) ∧ H a = some (.lst vs) ∧ PostS K mg W fr en Ω' Ωl De G ρ (k env S) := by
  unfold gd at p
  cases e : env[i]? with
  | none => simp only [e] at p; exact p.elim
  | some o =>
    cases o with
    | none => simp only [e] at p; exact p.elim
    | some d =>
      cases d with
      | lst xs =>
        simp only [e] at p
        obtain ⟨v, hv, a, o, rfl, ha, ro, ga, ra⟩ := h.at_.ev.own i _ e hi
        cases o with
        | lst vs => exact ⟨a, vs, hv, ha, p⟩
        | _ => exact (show False from ro).elim
      | _ => simp only [e] at p; exact p.elim
theorem ckLen_some {xs ys : List D} (h : ckLen xs = some ys) : ys = xs ∧ xs.length ≤ sizeLine := by
  unfold ckLen at h
  by_cases hz : xs.length ≤ sizeLine
  · rw [if_pos hz] at h; cases h; exact ⟨rfl, hz⟩
  · rw [if_neg hz] at h; cases h
section
variable (hi : i ∈ Ω) (hN : X.N[i]? = some x) (hv : Vis X.env.scope x) (hd : (x == ("__debug__" : Str)) = false) (hcd : (x == ("__classdict__" : Str)) = false)
theorem q_app (he : pV X W Ω e ma) (hi : i ∈ Ω := by decide) (hN : X.N[i]? = some x := by rfl) (hv : Vis X.env.scope x := by first | exact Or.inl rfl | exact Or.inr (Or.inl rfl) | exact Or.inr (Or.inr rfl)) (hd : (x == ("__debug__" : Str)) = false := by decide) (hcd : (x == ("__classdict__" : Str)) = false := by decide)
    (hbase : attributeBase (.Name x p1) "append" X.env (eval (.Name x p1) X.env) = eval (.Name x p1) X.env := by rfl) (hline : (p2.endLine == p3.line) = true := by rfl) (hs : starEach [e] X.env = (false, eval e X.env) :: starEach [] X.env := by rfl)
    (hfew : ((backTo p3 (starEach [e] X.env)).all (fun x => !x.1) && (backToKw p3 (keywordEach [] X.env)).all (fun x => x.1.isSome) && decide ([e].length + ([] : List Keyword).length + (if ([] : List Keyword).isEmpty then 0 else 1) < 30)) = true := by rfl)
    (hsw : swapsWith (.Call (.Attribute (.Name x p1) "append" p2) [e] [] p3) none pos.line X.env = pure false := by rfl) :
    qS X W fr en Ω Ω Ωl (.Expr (.Call (.Attribute (.Name x p1) "append" p2) [e] [] p3) pos) (gd i (sApp i ma)) :=
  ps_imp (ps_expr (pe_bm PySem.F.plainAttrs_list PySem.F.slot_list_append PySem.F.type_list_append mt_append (pv i hN hv hd hcd) (pa_cons he pa_nil hs) hbase hfew hline hs rfl) hsw) fun De σ H ⟨G, ρ, S, env, h, p⟩ => by
    obtain ⟨q, us, h1, h2, p⟩ := gd_post h hi p
    refine ⟨_, h1, .inl ⟨rfl, us, SqL.of h2⟩, ?_⟩
    exact here_post h p fun G1 ρ1 S1 H1 d v g h' r p1 => by
      obtain ⟨xs, ys, a, vs, e1, e2, e3, e4, e5, e6, fin⟩ := chOwn_post h' hi p1
      obtain ⟨rfl, hz⟩ := ckLen_some e2
      rw [h1] at e3; cases e3
      rw [List.length_append, List.length_singleton, e5.length] at hz
      exact ⟨q, vs, v, rfl, rfl, e4, by omega, fin (vs ++ [v]) (e5.append (.cons r .nil)) (by rw [List.length_append, List.length_singleton]; exact hz)⟩
theorem q_ins (hj : pO X W Ω ej mj) (he : pV X W Ω e ma) (hi : i ∈ Ω := by decide) (hN : X.N[i]? = some x := by rfl) (hv : Vis X.env.scope x := by first | exact Or.inl rfl | exact Or.inr (Or.inl rfl) | exact Or.inr (Or.inr rfl)) (hd : (x == ("__debug__" : Str)) = false := by decide) (hcd : (x == ("__classdict__" : Str)) = false := by decide)
    (hbase : attributeBase (.Name x p1) "insert" X.env (eval (.Name x p1) X.env) = eval (.Name x p1) X.env := by rfl) (hline : (p2.endLine == p3.line) = true := by rfl) (hs : starEach [ej, e] X.env = (false, eval ej X.env) :: starEach [e] X.env := by rfl) (hs2 : starEach [e] X.env = (false, eval e X.env) :: starEach [] X.env := by rfl)
    (hfew : ((backTo p3 (starEach [ej, e] X.env)).all (fun x => !x.1) && (backToKw p3 (keywordEach [] X.env)).all (fun x => x.1.isSome) && decide ([ej, e].length + ([] : List Keyword).length + (if ([] : List Keyword).isEmpty then 0 else 1) < 30)) = true := by rfl) (hpl : (backTo p3 (starEach [e] X.env)).any (·.1) = false := by rfl)
    (hsw : swapsWith (.Call (.Attribute (.Name x p1) "insert" p2) [ej, e] [] p3) none pos.line X.env = pure false := by rfl) :
    qS X W fr en Ω Ω Ωl (.Expr (.Call (.Attribute (.Name x p1) "insert" p2) [ej, e] [] p3) pos) (gd i (sIns i mj ma)) :=
  ps_imp (ps_expr (pe_bm PySem.F.plainAttrs_list PySem.F.slot_list_insert PySem.F.type_list_insert mt_insert (pv i hN hv hd hcd) (pa_cons hj (pa_cons he pa_nil hs2) hs) hbase hfew hline hs hpl) hsw) fun De σ H ⟨G, ρ, S, env, h, p⟩ => by
    obtain ⟨q, us, h1, h2, p⟩ := gd_post h hi p
    refine ⟨_, h1, .inl ⟨rfl, us, SqL.of h2⟩, ?_⟩
    refine here_post (k := fun j => sE ma (fun d e s => match j with
      | .int j => chOwn i (insAt j d) e s
      | _ => .bad) env) h p fun G1 ρ1 S1 H1 j w g h' rj p1 => ?_
    exact here_post h' p1 fun G2 ρ2 S2 H2 d v g2 h'' r p2 => by
      cases j with
      | int j =>
        obtain ⟨xs, ys, a, vs, e1, e2, e3, e4, e5, e6, fin⟩ := chOwn_post h'' hi p2
        unfold insAt at e2
        by_cases hz0 : 0 ≤ j ∧ j < 2 ^ 63
        · rw [if_pos hz0] at e2
          obtain ⟨rfl, hz⟩ := ckLen_some e2
          rw [h1] at e3; cases e3
          have hz' : vs.length + 1 ≤ sizeLine := by
            rw [← e5.length]
            simp only [List.length_append, List.length_cons, List.length_take, List.length_drop] at hz
            omega
          refine ⟨q, vs, j, v, rfl, by rw [RepO.int rj], e4, by omega, hz0.1, hz0.2, fin _ ?_ ?_⟩
          · rw [List.append_assoc]
            exact (e5.take _).append (.cons r (e5.drop _))
          · simp only [List.length_append, List.length_cons, List.length_take, List.length_drop, List.length_nil]
            omega
        · rw [if_neg hz0] at e2; cases e2
      | _ => exact (show False from p2).elim
theorem q_seti (he : pV X W Ω e ma) (hj : pO X W Ω ej mj) (hi : i ∈ Ω := by decide) (hN : X.N[i]? = some x := by rfl) (hv : Vis X.env.scope x := by first | exact Or.inl rfl | exact Or.inr (Or.inl rfl) | exact Or.inr (Or.inr rfl)) (hd : (x == ("__debug__" : Str)) = false := by decide) (hcd : (x == ("__classdict__" : Str)) = false := by decide)
    (ha : ∀ v, assign (.Subscript (.Name x p1) ej p2) X.env v = (do
      let ov ← holding [v] (eval (.Name x p1) X.env)
      let iv ← holding [v, ov] (eval ej X.env)
      standAt p2
      holding [v, ov, iv] (setItem ov iv v)
      release [v, ov, iv] []) := by intro _; rfl)
    (hs : swapsWithSole [.Subscript (.Name x p1) ej p2] e pos.line X.env = pure false := by rfl) (hw : swappedStores [.Subscript (.Name x p1) ej p2] e X.env = pure none := by rfl) (h1 : (assignEach [.Subscript (.Name x p1) ej p2] X.env).map (·.2) = [assign (.Subscript (.Name x p1) ej p2) X.env] := by rfl) :
    qS X W fr en Ω Ω Ωl (.Assign [.Subscript (.Name x p1) ej p2] e pos) (gd i (sSetI i ma mj)) :=
  ps_imp (ps_asg he (pg_sub (pv i hN hv hd hcd) hj set_list ha) hs hw h1) fun De σ H ⟨G, ρ, S, env, h, p⟩ => by
    obtain ⟨q, us, h1, h2, p⟩ := gd_post h hi p
    refine here_post (k := fun d => sE mj (fun j e s => match j with
      | .int j => chOwn i (setI j d) e s
      | _ => .bad) env) h p fun G1 ρ1 S1 H1 d v g h' r p1 => ?_
    refine ⟨_, h1, ?_⟩
    exact here_post h' p1 fun G2 ρ2 S2 H2 j w g2 h'' rj p2 => by
      cases j with
      | int j =>
        obtain ⟨xs, ys, a, vs, e1, e2, e3, e4, e5, e6, fin⟩ := chOwn_post h'' hi p2
        rw [h1] at e3; cases e3
        unfold setI at e2
        cases hk : ixN xs.length j with
        | none => rw [hk] at e2; cases e2
        | some k =>
          rw [hk] at e2
          cases e2
          rw [e5.length] at hk
          exact ⟨q, vs, j, k, rfl, RepO.int rj, e4, hk, fin (vs.set k v) (e5.set (Rep.mono g2.sub g2.pre r) k) (by rw [List.length_set]; exact e6)⟩
      | _ => exact (show False from p2).elim
end
theorem q_setr {eo : Expr} {mo : EM} (he : pV X W Ω e ma) (ho : pO X W Ω eo mo) (hj : pO X W Ω ej mj)
    (ha : ∀ v, assign (.Subscript eo ej p2) X.env v = (do
      let ov ← holding [v] (eval eo X.env)
      let iv ← holding [v, ov] (eval ej X.env)
      standAt p2
      holding [v, ov, iv] (setItem ov iv v)
      release [v, ov, iv] []) := by intro _; rfl)
    (hs : swapsWithSole [.Subscript eo ej p2] e pos.line X.env = pure false := by rfl) (hw : swappedStores [.Subscript eo ej p2] e X.env = pure none := by rfl) (h1 : (assignEach [.Subscript eo ej p2] X.env).map (·.2) = [assign (.Subscript eo ej p2) X.env] := by rfl) :
    qS X W fr en Ω Ω Ωl (.Assign [.Subscript eo ej p2] e pos) (sSetR ma mo mj) :=
  ps_imp (ps_asg he (pg_sub ho hj set_list ha) hs hw h1) fun De σ H ⟨G, ρ, S, env, h, p⟩ => by
    refine here_post (k := fun d => sE mo (fun o => sE mj fun j e s => match o, j with
      | .ref n, .int j => (match s[n]? with
        | some (.lst xs) => (match setI j d xs with
          | some ys => .nx e (s.set n (.lst ys))
          | none => .bad)
        | _ => .bad)
      | _, _ => .bad) env) h p fun G1 ρ1 S1 H1 d v g h' r p1 => ?_
    refine here_post (k := fun o => sE mj (fun j e s => match o, j with
      | .ref n, .int j => (match s[n]? with
        | some (.lst xs) => (match setI j d xs with
          | some ys => .nx e (s.set n (.lst ys))
          | none => .bad)
        | _ => .bad)
      | _, _ => .bad) env) h' p1 fun G2 ρ2 S2 H2 o w g2 h'' ro p2 => ?_
    exact here_post h'' p2 fun G3 ρ3 S3 H3 j u g3 h3 rj p3 => by
      cases o with
      | ref n =>
        cases j with
        | int j =>
          have ro' : Rep X.K X.mg G3 ρ3 (.ref n) w := by
            rcases RepO.grow ro g3 with z | ⟨a, o, rfl, _, z, _⟩
            · exact z
            · cases o <;> exact (show False from z).elim
          cases ro' with
          | ref hn =>
            rename_i a
            cases q : S3[n]? with
            | none => simp only [q] at p3; exact (show False from p3).elim
            | some so =>
              cases so with
              | ins _ _ => simp only [q] at p3; exact (show False from p3).elim
              | lst xs =>
                simp only [q] at p3
                obtain ⟨vs, hv, rv⟩ := h3.at_.st.obj n a _ hn q
                cases hs : setI j d xs with
                | none => simp only [hs] at p3; exact (show False from p3).elim
                | some ys =>
                  simp only [hs] at p3
                  unfold setI at hs
                  cases hk : ixN xs.length j with
                  | none => rw [hk] at hs; cases hs
                  | some k =>
                    rw [hk] at hs
                    cases hs
                    rw [rv.length] at hk
                    refine ⟨a, vs, j, k, rfl, RepO.int rj, hv, hk, ?_⟩
                    have rd : Rep X.K X.mg G3 ρ3 d v := Rep.mono (g2.sub.trans g3.sub) (fun n a e => g3.pre n a (g2.pre n a e)) r
                    have am : a ∈ ρ3 := List.mem_of_getElem? hn
                    have ga : G3 a = none := h3.at_.st.out a am
                    refine p3 G3 ρ3 σ _ Le.refl ⟨⟨same_upd h3.at_.sub ga, ⟨?_, h3.at_.st.nd, h3.at_.st.out, fun n' a' o' h1 h2 => ?_, h3.at_.st.tb.upd hv (fun ps z => by cases z) (fun q z => by unfold LamX.CodeO at z; cases z), h3.at_.st.gt⟩, ⟨h3.at_.ev.len, h3.at_.ev.val, fun j' e' h1 h2 => ?_, h3.at_.ev.sep⟩⟩, ?_, h3.fr⟩
                    · rw [List.length_set]; exact h3.at_.st.len
                    · by_cases hnn : n = n'
                      · subst hnn
                        rw [hn] at h1; cases h1
                        have hl : n < S3.length := (List.getElem?_eq_some_iff.mp q).1
                        rw [List.getElem?_set_self hl] at h2
                        cases h2
                        exact ⟨_, upd_same, rv.set rd k⟩
                      · rw [List.getElem?_set_ne hnn] at h2
                        refine (h3.at_.st.obj n' a' o' h1 h2).mono (Same.refl _) (fun _ _ e => e) (upd_ne fun z => ?_)
                        subst z
                        exact hnn (ix_nodup h3.at_.st.nd hn h1)
                    · obtain ⟨v', hv', b, ob, rfl, hb, rb, gb, rb'⟩ := h3.at_.ev.own j' e' h1 h2
                      have hne : b ≠ a := fun z => by subst z; exact rb' am
                      exact ⟨_, hv', b, ob, rfl, by rw [upd_ne hne]; exact hb, rb, gb, rb'⟩
                    · refine { h3.gr with keep := fun a' o' e1 e2 e3 => ?_, live := fun a' e1 => ?_ }
                      · have hne : a' ≠ a := fun z => by
                          subst z
                          rcases h3.gr.newr a' am with z | z
                          · exact e2 z
                          · rw [e1] at z; cases z
                        rw [upd_ne hne]
                        exact h3.gr.keep a' o' e1 e2 e3
                      · have hne : a' ≠ a := fun z => by subst z; rw [upd_same] at e1; cases e1
                        rw [upd_ne hne] at e1
                        exact h3.gr.live a' e1
        | _ => exact (show False from p3).elim
      | _ => exact (show False from p3).elim

theorem q_raise {ee : Expr} (hc : X.calm = true) (tk : L2N.Takes X W) (gC : X.mg x = some (.ref (He.ga X.K x))) (cC : clsB X.K x = true) (he : L2N.PMk X ee (fun _ H Q => Q (.ref (He.ga X.K x)) none H)) : qS X W fr en Ω Ω' Ωl (.Raise (some ee) none pos) (sRaise x) :=
  ps_imp (L2N.ps_raise hc tk he) fun De σ H ⟨G, ρ, S, env, h, p⟩ => by
    obtain ⟨G2, h2, sG⟩ := h.sub (Ω' := []) (fun j z => by cases z)
    exact p G2 ρ σ H (.ref (He.ga X.K x)) none ⟨sG, fun _ _ q => q⟩ h2 ⟨_, gC, rfl, rfl, cC, .inl ⟨rfl, rfl⟩⟩
end

def startE (N : List Str) (ds : List D) : Ev := ds.map some ++ List.replicate (N.length - ds.length) none
def endB (fr : Bool) : SR → Rs D
  | .nx _ s => if fr then .bad else .ok .non s
  | .ret d s => .ok d s
  | .exc x _ s => .exc x s
  | _ => .bad
def runB (fr : Bool) (N : List Str) (b : SM) (ds : List D) : M D := fun s => endB fr (b (startE N ds) s)
def spM (K : PySem.W.Frag) (mg : Str → Option Value) (fr : Bool) (n : Nat) (m : List D → M D) : Sp := fun vs H Q E => vs.length = n ∧ ∃ G ρ S ds, Same G H ∧ StOk K mg G ρ S H ∧ RepL K mg G ρ ds vs ∧ Post K mg (rRes K mg fr) E Q G ρ H (m ds S)
section
variable {P : Program} {w : World} {K : PySem.W.Frag} {mg : Str → Option Value} {base : Heap}
theorem start_ev {N : List Str} {G H : Hp} {ρ : List Addr} {ds : List D} {vs : List V} (r : RepL K mg G ρ ds vs) : EvOk K mg [] G ρ (startE N ds) (L2.start N vs) H where
  len := by
    unfold startE L2.start
    rw [List.length_append, List.length_append, List.length_map, List.length_map, List.length_replicate, List.length_replicate, r.length]
  val := fun j d e _ => by
    unfold startE at e
    unfold L2.start
    by_cases hj : j < ds.length
    · rw [List.getElem?_append_left (by rw [List.length_map]; exact hj), List.getElem?_map] at e
      rw [List.getElem?_append_left (by rw [List.length_map, ← r.length]; exact hj), List.getElem?_map]
      cases q : ds[j]? with
      | none => rw [q] at e; cases e
      | some d' =>
        rw [q] at e
        cases e
        obtain ⟨v, h1, h2⟩ := r.at q
        exact ⟨v, by rw [h1]; rfl, h2⟩
    · rw [List.getElem?_append_right (by rw [List.length_map]; omega), List.getElem?_replicate] at e
      split at e <;> cases e
  own := fun j d _ n => by cases n
  sep := fun j k d e v n => by cases n
theorem def_ok {x qual : Str} {params : Arguments} {body : List Stmt} {scope : Scope} {f : Addr} {fd : FuncData} {N ps : List Str} {k : Nat} {fr : Bool} {Ωe : List Nat} {b : SM} (F : FunD K x qual params body scope [] [] f fd) (S : FnScope N ps scope)
    (hb : ∀ (cdv : Value) (A : Around) (outer : List Env) (s : Shared) (H : Hp) (E : XK) (en : Ent), Room k (A.deeper (envOfC qual scope s.heap.objs.size f cdv)) →
      qB (cxOf (L2N.CX P w) P w K mg base N qual scope f cdv A outer s H E) (fun c d _ H => E c d H) fr en [] Ωe [] body b) : FnOk P w K mg base (L2N.CX P w) (k + 1) f fd ps (spM K mg fr ps.length (runB fr N b)) := by
  refine F.ok S (fun vs H Q E h => h.1) fun cdv A outer s H vs Q E hr h => ?_
  obtain ⟨_, G, ρ, St, ds, sm, st, r, post⟩ := h
  refine ⟨_, hb cdv A outer s H E ⟨G, ρ, H⟩ hr, G, ρ, St, startE N ds, ⟨⟨sm, st, start_ev r⟩, Grow.refl, fun j d a n => by cases n⟩, ?_⟩
  unfold runB endB at post
  cases e : b (startE N ds) St with
  | nx e' s' =>
    simp only [e] at post
    cases fr with
    | true => exact (show False from post).elim
    | false => exact fun G1 ρ1 σ1 H1 _ h1 => post G1 ρ1 H1 .non h1.at_.sub h1.gr h1.at_.st Rep.non
  | brk e' s' => simp only [e] at post; exact (show False from post).elim
  | cnt e' s' => simp only [e] at post; exact (show False from post).elim
  | ret d s' =>
    simp only [e] at post
    exact fun G1 ρ1 H1 v s1 g1 st1 r1 => post G1 ρ1 H1 v s1 g1 st1 r1
  | exc x e' s' =>
    simp only [e] at post
    exact fun G1 ρ1 σ1 H1 cls od _ h1 ex => post G1 ρ1 H1 cls od h1.at_.sub h1.gr h1.at_.st ex
  | bad => simp only [e] at post; exact post
structure Df (P : Program) (w : World) (K : PySem.W.Frag) (mg : Str → Option Value) (base : Heap) (x : Str) (k : Nat) (fr : Bool) (n : Nat) (m : List D → M D) : Prop where
  ex : ∃ f fd ps, mg x = some (.ref f) ∧ PySem.W.keepIn K (.ref f) = true ∧ Binds K fd ps [] ∧ FnOk P w K mg base (L2N.CX P w) k f fd ps (spM K mg fr n m)
theorem Df.mono {x : Str} {j k : Nat} {fr : Bool} {n : Nat} {m : List D → M D} (d : Df P w K mg base x j fr n m) (h : j ≤ k) : Df P w K mg base x k fr n m := by
  obtain ⟨f, fd, ps, h1, h2, h3, h4⟩ := d.ex
  exact ⟨⟨f, fd, ps, h1, h2, h3, h4.mono h⟩⟩
end
section
variable {X : Cx} {W : WX} {fr : Bool} {Ω : List Nat} {e : Expr} {es : List Expr} {ml : LM} {p pos : Pos} {x : Str} {k j n : Nat} {m : List D → M D}
theorem pe_callS0 {CX : CXT} {f : Addr} {fd : FuncData} {ps : List Str} {sp : Sp} {E : L2.St → XK} (F : FnOk X.prog X.w X.K X.mg X.base CX k f fd ps sp) (hr : Room k X.A) (hg : Gl X x) (hm : X.mg x = some (.ref f)) (hk : PySem.W.keepIn X.K (.ref f) = true) (hb : Binds X.K fd ps []) (hx : ∀ σ, PassesAt CX X σ (E σ))
    (hdb : (x == ("__debug__" : Str)) = false := by decide) : PE X (.Call (.Name x p) [] [] pos) (tCallS sp E tNil) := by
  refine ⟨fun pins s σ H Q I h => ?_⟩
  refine wpAny_Call_Name_kw (ld_glob I hg hm ?_ hdb)
  exact PySem.W.callWith_K0 I.kIn hk (run_fnS (us := []) F hr hb (hx σ) I .nil h)
theorem p_call (d : Df X.prog X.w X.K X.mg X.base x j fr n m) (hr : Room k X.A) (tk : L2N.Takes X W) (hg : Gl X x) (ha : pL X W Ω (e :: es) ml) (hn : (e :: es).length = n := by rfl) (hj : j ≤ k := by decide) (hdb : (x == ("__debug__" : Str)) = false := by decide)
    (he : starEach (e :: es) X.env = (false, eval e X.env) :: starEach es X.env := by rfl) (hpl : (backTo pos (starEach es X.env)).any (·.1) = false := by rfl) : PE X (.Call (.Name x p) (e :: es) [] pos) (tG X.K X.mg (rRes X.K X.mg fr) W Ω (eFn m ml)) := by
  obtain ⟨f, fd, ps, h1, h2, h3, h4⟩ := d.ex
  refine pe_imp (pe_callS h4 (hr.mono hj) hg h1 h2 h3 (L2N.passAt tk) ha hdb he hpl) fun σ H Q h => ?_
  exact tG.thn (k := fun xs _ => m xs) h fun G1 ρ1 S1 env H1 ds vs at1 r1 p1 => ⟨r1.2.trans hn, G1, ρ1, S1, ds, at1.sub, at1.st, r1.1, p1⟩
theorem p_call0 (d : Df X.prog X.w X.K X.mg X.base x j fr 0 m) (hr : Room k X.A) (tk : L2N.Takes X W) (hg : Gl X x) (hj : j ≤ k := by decide) (hdb : (x == ("__debug__" : Str)) = false := by decide) : PE X (.Call (.Name x p) [] [] pos) (tG X.K X.mg (rRes X.K X.mg fr) W Ω (eFn m lNil)) := by
  obtain ⟨f, fd, ps, h1, h2, h3, h4⟩ := d.ex
  refine pe_imp (pe_callS0 h4 (hr.mono hj) hg h1 h2 h3 (L2N.passAt tk) hdb) fun σ H Q h => ?_
  obtain ⟨G, ρ, S, env, at_, post⟩ := h
  exact ⟨rfl, G, ρ, S, [], at_.sub, at_.st, .nil, post⟩
end
end Mr

namespace Mr
open PySem PySem.Spec PyProof.Rows L2
section
variable {X : Cx} {W : WX} {Ω : List Nat} {a b c e o : Expr} {es : List Expr} {ma mb mc : EM} {ml : LM} {pos apos : Pos} {x : Str}
def joinT (s : Tx) : List Tx → Tx
  | [] => []
  | [x] => x
  | x :: y :: r => x ++ s ++ joinT s (y :: r)
def textsOf : List D → Option (List Tx)
  | [] => some []
  | .str s :: r => (textsOf r).map (s :: ·)
  | _ => none
def joinLen (s : Tx) (l : List Tx) : Nat := (l.map List.length).sum + l.length * s.length
def fJoin : D → D → M D
  | .str s, .lst xs => (match textsOf xs with
    | some l => if joinLen s l ≤ 1000000 then pure (.str (joinT s l)) else bad
    | none => bad)
  | _, _ => bad
theorem join_toS (s : Tx) : ∀ l : List Tx, Txt.join (toS s) (l.map toS) = toS (joinT s l) := by
  intro l
  rw [TL.join_eq]
  induction l with
  | nil => rfl
  | cons x r ih =>
    cases r with
    | nil => rfl
    | cons y r =>
      show toS x ++ toS s ++ Str.join (toS s) (toS y :: r.map toS) = toS (x ++ s ++ joinT s (y :: r))
      rw [← toS_app, ← toS_app]
      congr 1
theorem joinT_len (s : Tx) : ∀ l : List Tx, (joinT s l).length ≤ joinLen s l
  | [] => by simp [joinT, joinLen]
  | [x] => by unfold joinLen joinT; simp
  | x :: y :: r => by
    have ih := joinT_len s (y :: r)
    unfold joinLen at ih ⊢
    unfold joinT
    simp only [List.length_append, List.map_cons, List.sum_cons, List.length_cons, Nat.add_mul, Nat.one_mul] at ih ⊢
    omega
theorem texts_rep {K : PySem.W.Frag} {mg : Str → Option Value} {G : Hp} {ρ : List Addr} : ∀ {ds : List D} {vs : List V} {l : List Tx}, RepL K mg G ρ ds vs → textsOf ds = some l → vs = (l.map toS).map V.str
  | _, _, _, .nil, h => by
    unfold textsOf at h
    cases h
    rfl
  | _, _, l, .cons r t, h => by
    cases r <;> try (unfold textsOf at h; cases h; done)
    unfold textsOf at h
    cases q : textsOf _ with
    | none => rw [q] at h; cases h
    | some l' =>
      rw [q] at h
      cases h
      rw [texts_rep t q]
      rfl
end
def asS (d : D) : M D := match d with
  | .str s => pure (.str s)
  | _ => bad
def eMeth (g : D → D → M D) (a b : EM) : EM := fun env => a env >>= fun x => asS x >>= fun x => b env >>= fun y => g x y
section
variable {X : Cx} {W : WX} {Ω : List Nat} {a b c e o : Expr} {es : List Expr} {ma mb mc : EM} {ml : LM} {pos apos : Pos} {x : Str}
theorem pv_join (ho : pO X W Ω o ma) (he : pO X W Ω e mb) (hs : starEach [e] X.env = [(false, eval e X.env)] := by rfl) (hbase : attributeBase o "join" X.env (eval o X.env) = eval o X.env := by rfl) (hline : (apos.endLine == pos.line) = true := by rfl) :
    pV X W Ω (.Call (.Attribute o "join" apos) [e] [] pos) (eMeth fJoin ma mb) := pe_imp (pe_join ho he hs hbase hline) fun σ H Q h =>
  tG.thn (k := fun x env => asS x >>= fun x => mb env >>= fun y => fJoin x y) h fun G1 ρ1 S1 env H1 d v at1 r1 p1 => by
    cases d with
    | str s =>
      obtain ⟨rfl, hz⟩ := r1.str
      refine ⟨⟨_, rfl⟩, ?_⟩
      have p1 : Post X.K X.mg (rV X.K X.mg) (fun c d H => W c d σ H) Q G1 ρ1 H1 ((mb env >>= fun y => fJoin (.str s) y) S1) := p1
      refine p1.thn at1 fun G2 ρ2 S2 H2 e w g at2 r2 p2 => ?_
      cases e with
      | lst xs =>
        obtain ⟨q, vs, rfl, h1, r, z⟩ := r2.lst at2.sub
        unfold fJoin at p2
        cases ht : textsOf xs with
        | none => simp only [ht] at p2; exact (show False from p2).elim
        | some l =>
          simp only [ht] at p2
          by_cases hl : joinLen s l ≤ 1000000
          · simp only [if_pos hl] at p2
            refine ⟨toS s, q, l.map toS, rfl, rfl, .inl (SqL.of ((texts_rep r ht) ▸ h1)), ?_, ?_⟩
            · rw [List.map_map, List.length_map, toS_length]
              have e1 : ((fun x : Str => x.length) ∘ toS) = List.length := by funext z; exact toS_length z
              rw [e1]
              unfold joinLen at hl
              omega
            · rw [join_toS]
              exact Post.V (S := S2) (d := .str (joinT s l)) p2 at2.sub at2.st (.str _ (Nat.le_trans (joinT_len s l) (Nat.le_trans hl (by decide))))
          · simp only [if_neg hl] at p2; exact (show False from p2).elim
      | _ => exact (show False from p2).elim
    | _ => exact (show False from p1).elim
theorem pv_gs (s : Tx) {z : Str} (hg : Gl X x) (hm : ∃ t, X.mg x = some (.str z t)) (h : toS s = z := by rfl) (hz : s.length ≤ sizeLine := by decide) (hd : (x == ("__debug__" : Str)) = false := by decide) : pV X W Ω (.Name x pos) (eC (.str s)) := by
  obtain ⟨t, hm⟩ := hm
  subst h
  exact pv_glob (v := .str (toS s)) hg hm ⟨t, rfl⟩ (fun _ _ => .str s hz) hd
theorem pv_gi {i : Int} (hg : Gl X x) (hm : ∃ t, X.mg x = some (.int i t)) (hd : (x == ("__debug__" : Str)) = false := by decide) : pV X W Ω (.Name x pos) (eC (.int i)) := by
  obtain ⟨t, hm⟩ := hm
  exact pv_glob (v := .int i) hg hm ⟨t, rfl⟩ (fun _ _ => .int i) hd
end
structure Tt (K : PySem.W.Frag) (mg : Str → Option Value) (h : Heap) (fa : List He.Fa) (fn : List He.DefD) : Prop where
  X : K.In h
  G : h.Ns mainGlobals mg
  c : He.SaysD fa fn K
section
variable {P : Program} {w : World} {K : PySem.W.Frag} {mg : Str → Option Value} {base h : Heap} {fa : List He.Fa} {fn : List He.DefD}
theorem Tt.free (T : Tt K mg h fa fn) (i : Nat) {x : Str} (e : fa[i]? = some (.free x) := by rfl) : mg x = none := He.free_ok T.X T.G (T.c.fact i e)
theorem Tt.glo (T : Tt K mg h fa fn) (i : Nat) {x : Str} (e : fa[i]? = some (.glo x) := by rfl) : mg x = some (.ref (He.ga K x)) := He.glo_ok T.X T.G (T.c.fact i e)
theorem Tt.gs (T : Tt K mg h fa fn) (i : Nat) {x z : Str} (e : fa[i]? = some (.str x z) := by rfl) : ∃ t, mg x = some (.str z t) := He.str_ok T.X T.G (T.c.fact i e)
theorem Tt.gi (T : Tt K mg h fa fn) (i : Nat) {x : Str} {n : Int} (e : fa[i]? = some (.int x n) := by rfl) : ∃ t, mg x = some (.int n t) := He.int_ok T.X T.G (T.c.fact i e)
theorem df_of {x qual : Str} {params : Arguments} {body : List Stmt} {scope : Scope} {f : Addr} {N ps : List Str} {k : Nat} {fr : Bool} {Ωe : List Nat} {b : SM} (hm : mg x = some (.ref f)) (F : ∃ fd, FunD K x qual params body scope [] [] f fd) (S : FnScope N ps scope)
    (bd : ∀ (kV doc pm : Value) (an : Option Addr) (cdv ct : Value) (us : List Value), us.length = ps.length → bindArgs (PySem.W.fnOf x qual params body scope .none kV doc pm an cdv ct) ⟨us, []⟩ = pure (ps.zip us))
    (hb : ∀ (cdv : Value) (A : Around) (outer : List Env) (s : Shared) (H : Hp) (E : XK) (en : Ent), Room k (A.deeper (envOfC qual scope s.heap.objs.size f cdv)) →
      qB (cxOf (L2N.CX P w) P w K mg base N qual scope f cdv A outer s H E) (fun c d _ H => E c d H) fr en [] Ωe [] body b) : Df P w K mg base x (k + 1) fr ps.length (runB fr N b) := by
  obtain ⟨fd, F⟩ := F
  exact ⟨f, fd, ps, hm, F.kp, F.bindsN bd, def_ok F S hb⟩
def spPen (K : PySem.W.Frag) : Sp := fun vs H Q _ => ∃ a ns, vs = [.ref a] ∧ SqL K H a (List.map V.int ns) ∧ ns.length ≤ 63 ∧
  ∀ H1 p, (∀ b u, H b = some u → H1 b = some u) → H1 p = some (.lst (ns.map V.int)) → H p = none → ∀ q, H1 q = none → Q (.ref q) (upd H1 q (.lst [.ref p, .int 0, .int 0]))
def t_pen (K : PySem.W.Frag) : TS := tRet (tLst (tCons (tCB (rListOf K) (tCons (tSl (rSlL K) (tVar 0) tNoPart (tPart (tC (.int 63)))) tNil)) (tCons (tC (.int 0)) (tCons (tC (.int 0)) tNil))))
theorem cut_all (xs : List V) (h : xs.length ≤ 63) : cutV xs none (some 63) = xs := by
  unfold cutV
  have e1 : HT.sIx xs.length 0 none = 0 := rfl
  have e2 : HT.sIx xs.length xs.length (some 63) = xs.length := by
    unfold HT.sIx
    simp
    omega
  rw [e1, e2]
  simp
theorem pen_pure {vs : List V} {H : Hp} {Q : VK} {E : XK} (h : spPen K vs H Q E) : t_pen K { nx := fun _ H' => Q .non H', rt := Q } (L2.start ["script"] vs) H := by
  obtain ⟨a, ns, rfl, hS, hl, hQ⟩ := h
  refine ⟨_, rfl, _, rfl, a, _, rfl, hS, fun p hp => ?_⟩
  rw [cut_all _ (by rw [List.length_map]; exact hl)]
  refine ⟨p, ns.map V.int, rfl, .inl (SqL.of upd_same), fun l hl' => ?_⟩
  refine ⟨by show 3 ≤ sizeLine; decide, fun q hq => ?_⟩
  have hlH : H l = none := by
    cases e : H l with
    | none => rfl
    | some u =>
      have hne : l ≠ p := fun z => by subst z; rw [hp] at e; cases e
      rw [upd_ne hne, e] at hl'
      cases hl'
  refine hQ _ l (fun b u e => ?_) upd_same hlH q hq
  have h1 : b ≠ p := fun z => by subst z; rw [hp] at e; cases e
  have h2 : b ≠ l := fun z => by subst z; rw [hlH] at e; cases e
  rw [upd_ne h2, upd_ne h1]
  exact e
theorem pen_ok {qual : Str} {params : Arguments} {body : List Stmt} {scope : Scope} {f : Addr} {fd : FuncData} (F : FunD K "_law_pen" qual params body scope [] [] f fd) (S : FnScope ["script"] ["script"] scope)
    (hb : ∀ (cdv : Value) (A : Around) (outer : List Env) (s : Shared) (H : Hp) (E : XK), Room 0 (A.deeper (envOfC qual scope s.heap.objs.size f cdv)) → PSs (cxOf (L2N.CX P w) P w K mg base ["script"] qual scope f cdv A outer s H E) body (t_pen K)) :
    FnOk P w K mg base (L2N.CX P w) 1 f fd ["script"] (spPen K) :=
  F.ok S (fun vs H Q E h => by obtain ⟨a, ns, rfl, _⟩ := h; rfl) fun cdv A outer s H vs Q E hr h => ⟨_, hb cdv A outer s H E hr, pen_pure h⟩
def pen0 (ns : List Int) : Store := [.lst [.lst (ns.map D.int), .int 0, .int 0]]
def startL (N : List Str) (ip : Nat) : Ev := (List.replicate N.length (none : Option D)).set ip (some (D.ref 0))
def spLaw (K : PySem.W.Frag) : Sp := fun vs H Q _ => ∃ a ns, vs = [.ref a] ∧ SqL K H a (List.map V.int ns) ∧ ns.length ≤ 63 ∧ TabsAll K H ∧ ∀ H', Q (.bl true) H'
theorem ints_rep {G : Hp} {ρ : List Addr} : ∀ ns : List Int, RepL K mg G ρ (ns.map D.int) (ns.map V.int)
  | [] => .nil
  | n :: ns => .cons (.int n) (ints_rep ns)
theorem law_start {N : List Str} {ip : Nat} {H H1 : Hp} {a p q : Addr} {ns : List Int} (hip : 0 < ip) (hN : 0 < N.length) (hl : ns.length ≤ 63) (ht : TabsAll K H) (k1 : ∀ b u, H b = some u → H1 b = some u) (k2 : H1 p = some (.lst (ns.map V.int))) (k3 : H p = none) (k4 : H1 q = none) :
    ∃ G, Here K mg ⟨fun _ => none, [], H⟩ [] G [q] (startL N ip) (pen0 ns) ((L2.start N [.ref a]).set ip (some (.ref q))) (upd H1 q (.lst [.ref p, .int 0, .int 0])) := by
  have qp : p ≠ q := fun z => by subst z; rw [k2] at k4; cases k4
  have hq : H q = none := by
    cases e : H q with
    | none => rfl
    | some u => rw [k1 _ _ e] at k4; cases k4
  refine ⟨upd (fun _ => none) p (.lst (ns.map V.int)), ⟨⟨fun b u e => ?_, ⟨rfl, by simp, fun b hb => ?_, fun n b o e1 e2 => ?_, ht.ext fun b o e => ?_, fun b ps e => ?_⟩, ⟨?_, fun j d e n => ?_, fun j d _ n => (by cases n), fun i j d e v n => (by cases n)⟩⟩, ⟨fun b u e => (by cases e), fun n b e => (by simp at e), fun b o e _ _ => ?_, fun b e => ?_, fun b o e => ?_, fun b hb => ?_⟩, fun j d b n => (by cases n)⟩⟩
  · by_cases hb : b = p
    · subst hb
      rw [upd_same] at e
      rw [upd_ne qp, k2]
      exact e
    · rw [upd_ne hb] at e; cases e
  · cases List.mem_singleton.mp hb
    rw [upd_ne qp.symm]
  · cases n with
    | zero =>
      simp at e1
      subst e1
      simp [pen0] at e2
      subst e2
      refine ⟨_, upd_same, .cons (.lst upd_same ?_ (ints_rep ns)) (.cons (.int 0) (.cons (.int 0) .nil))⟩
      rw [List.length_map]
      exact Nat.le_trans hl (by decide)
    | succ n => simp at e1
  · have hne : b ≠ q := fun z => by subst z; rw [hq] at e; cases e
    rw [upd_ne hne]
    exact k1 b o e
  · by_cases hb : b = p
    · subst hb; rw [upd_same] at e; cases e
    · rw [upd_ne hb] at e; cases e
  · unfold startL L2.start
    simp
    omega
  · unfold startL at e
    by_cases hj : ip = j
    · subst hj
      by_cases hlt : ip < N.length
      · rw [List.getElem?_set_self (by simpa using hlt)] at e
        cases e
        refine ⟨.ref q, ?_, .ref rfl⟩
        rw [List.getElem?_set_self]
        unfold L2.start
        simp
        omega
      · rw [List.getElem?_eq_none (by simp; omega)] at e; cases e
    · rw [List.getElem?_set_ne hj, List.getElem?_replicate] at e
      split at e <;> cases e
  · have e : H b = some o := e
    have hne : b ≠ q := fun z => by subst z; rw [hq] at e; cases e
    rw [upd_ne hne]
    exact k1 b o e
  · have hne : b ≠ q := fun z => by subst z; rw [upd_same] at e; cases e
    rw [upd_ne hne] at e
    show H b = none
    cases e2 : H b with
    | none => rfl
    | some u => rw [k1 _ _ e2] at e; cases e
  · by_cases hb : b = p
    · subst hb; exact .inr k3
    · rw [upd_ne hb] at e; cases e
  · cases List.mem_singleton.mp hb
    exact .inr hq
end
end Mr

namespace Mr
open PySem PySem.Spec PyProof.Rows L2
theorem _root_.L2.Room.u65 {k : Nat} {A : Around} (r : Room k A) : A.units + 65 < cLine := by have := r.un; omega
end Mr

namespace Mr
open PySem PySem.Spec PyProof.Rows L2
def wp {α : Type} (m : M α) (s : Store) (Φ : α → Store → Prop) (Ξ : Xc → Store → Prop) : Prop := match m s with
  | .ok a s' => Φ a s'
  | .exc x s' => Ξ x s'
  | .bad => False
section
variable {α β : Type} {m : M α} {s : Store} {Φ : α → Store → Prop} {Ψ : β → Store → Prop} {Ξ : Xc → Store → Prop}
@[simp] theorem wp_pure (a : α) : wp (pure a) s Φ Ξ = Φ a s := rfl
@[simp] theorem wp_bad : wp (bad : M α) s Φ Ξ = False := rfl
@[simp] theorem wp_raise (x : Xc) : wp (raise x : M α) s Φ Ξ = Ξ x s := rfl
@[simp] theorem wp_bind (k : α → M β) : wp (m >>= k) s Ψ Ξ = wp m s (fun a s' => wp (k a) s' Ψ Ξ) Ξ := by
  unfold wp
  rw [bind_app]
  cases m s <;> rfl
theorem wp_ok {a : α} {s' : Store} (h : m s = .ok a s') : wp m s Φ Ξ = Φ a s' := by unfold wp; rw [h]
theorem wp_mono {Φ' : α → Store → Prop} {Ξ' : Xc → Store → Prop} (h : wp m s Φ' Ξ') (h1 : ∀ a s', Φ' a s' → Φ a s') (h2 : ∀ x s', Ξ' x s' → Ξ x s') : wp m s Φ Ξ := by
  unfold wp at h ⊢
  cases e : m s with
  | ok a s' => rw [e] at h; exact h1 _ _ h
  | exc x s' => rw [e] at h; exact h2 _ _ h
  | bad => rw [e] at h; exact h
@[simp] theorem wp_iteB (c : Bool) (m n : M α) : wp (if c = true then m else n) s Φ Ξ = if c = true then wp m s Φ Ξ else wp n s Φ Ξ := by split <;> rfl
@[simp] theorem wp_noX : wp (noX m) s Φ Ξ = wp m s Φ fun _ _ => False := by
  unfold wp noX
  cases m s <;> rfl
theorem of_wp {P : α → Store → Prop} (h : wp m s P fun _ _ => False) : ∃ a s', m s = .ok a s' ∧ P a s' := by
  unfold wp at h
  cases e : m s with
  | ok a s' => rw [e] at h; exact ⟨a, s', rfl, h⟩
  | exc x s' => rw [e] at h; exact h.elim
  | bad => rw [e] at h; exact h.elim
end
structure Kt where
  nx : Ev → Store → Prop
  rt : D → Store → Prop
  bk : Ev → Store → Prop := fun _ _ => False
  ct : Ev → Store → Prop := fun _ _ => False
  ex : Xc → Ev → Store → Prop := fun _ _ _ => False
def wpR (r : SR) (k : Kt) : Prop := match r with
  | .nx e s => k.nx e s
  | .ret d s => k.rt d s
  | .brk e s => k.bk e s
  | .cnt e s => k.ct e s
  | .exc x e s => k.ex x e s
  | .bad => False
def wpS (b : SM) (e : Ev) (s : Store) (k : Kt) : Prop := wpR (b e s) k
section
variable {e : Ev} {s : Store} {k : Kt} {a b : SM} {m : EM} {i : Nat}
theorem wpS_sE {α : Type} (m : Ev → M α) (f : α → Ev → Store → SR) : wpS (sE m f) e s k = wp (m e) s (fun a s' => wpR (f a e s') k) (fun x s' => k.ex x e s') := by
  unfold wpS sE wp
  cases m e s <;> rfl
@[simp] theorem wpS_seq : wpS (sSeq a b) e s k = wpS a e s { k with nx := fun e' s' => wpS b e' s' k } := by
  unfold wpS sSeq
  cases a e s <;> rfl
@[simp] theorem wpS_nx : wpS sNext e s k = k.nx e s := rfl
@[simp] theorem wpS_brk : wpS sBrk e s k = k.bk e s := rfl
@[simp] theorem wpS_cnt : wpS sCnt e s k = k.ct e s := rfl
@[simp] theorem wpS_drop {α : Type} (m : Ev → M α) : wpS (sDrop m) e s k = wp (m e) s (fun _ s' => k.nx e s') (fun x s' => k.ex x e s') := wpS_sE _ _
@[simp] theorem wpS_set : wpS (sSet i m) e s k = wp (m e) s (fun d s' => k.nx (e.set i (some d)) s') (fun x s' => k.ex x e s') := wpS_sE _ _
@[simp] theorem wpS_ret : wpS (sRet m) e s k = wp (m e) s (fun d s' => k.rt d s') (fun x s' => k.ex x e s') := wpS_sE _ _
@[simp] theorem wpS_retN : wpS sRetN e s k = k.rt .non s := rfl
@[simp] theorem wpS_raise (c : Str) : wpS (sRaise c) e s k = k.ex ⟨c, []⟩ e s := rfl
@[simp] theorem wpS_if (c : TM) : wpS (sIf c a b) e s k = wp (c e) s (fun t s' => if t = true then wpS a e s' k else wpS b e s' k) (fun x s' => k.ex x e s') := by
  unfold sIf
  rw [wpS_sE]
  congr 1
  funext t s'
  cases t <;> rfl
@[simp] theorem wpS_unp (g : GM) : wpS (sUnp g m) e s k = wp (m e) s (fun d s' => match g d with
    | some l => k.nx (setAll l e) s'
    | none => False) (fun x s' => k.ex x e s') := by
  unfold sUnp
  rw [wpS_sE]
  congr 1
  funext d s'
  cases g d <;> rfl
@[simp] theorem wpS_for (it : LM) (g : GM) : wpS (sFor it g b) e s k = wp (it e) s (fun ds s' => wpS (forL g b ds) e s' k) (fun x s' => k.ex x e s') := wpS_sE _ _
@[simp] theorem wpS_forNil (g : GM) : wpS (forL g b []) e s k = k.nx e s := rfl
theorem wpS_forCons (g : GM) (d : D) (ds : List D) : wpS (forL g b (d :: ds)) e s k = (match g d with
    | none => False
    | some l => wpS b (setAll l e) s { k with nx := fun e' s' => wpS (forL g b ds) e' s' k, ct := fun e' s' => wpS (forL g b ds) e' s' k, bk := k.nx }) := by
  unfold wpS
  rw [forL]
  cases g d with
  | none => rfl
  | some l => simp only; cases b (setAll l e) s <;> rfl
theorem wpS_mono {k' : Kt} (h : wpS b e s k') (h1 : ∀ e s, k'.nx e s → k.nx e s) (h2 : ∀ d s, k'.rt d s → k.rt d s) (h3 : ∀ e s, k'.bk e s → k.bk e s) (h4 : ∀ e s, k'.ct e s → k.ct e s) (h5 : ∀ x e s, k'.ex x e s → k.ex x e s) : wpS b e s k := by
  unfold wpS at h ⊢
  cases q : b e s <;> rw [q] at h
  · exact h1 _ _ h
  · exact h3 _ _ h
  · exact h4 _ _ h
  · exact h2 _ _ h
  · exact h5 _ _ _ h
  · exact h
theorem for_inv {g : GM} {ds : List D} (I : Nat → Ev → Store → Prop) (h0 : I 0 e s) (step : ∀ (j : Nat) (d : D) (e : Ev) (s : Store), ds[j]? = some d → I j e s → ∃ l, g d = some l ∧ wpS b (setAll l e) s { k with nx := I (j + 1), ct := I (j + 1), bk := k.nx }) (fin : ∀ e s, I ds.length e s → k.nx e s) :
    wpS (forL g b ds) e s k := by
  induction ds generalizing e s I with
  | nil => exact fin e s h0
  | cons d ds ih =>
    rw [wpS_forCons]
    obtain ⟨l, hl, h⟩ := step 0 d e s rfl h0
    rw [hl]
    refine wpS_mono h (fun e s h => ?_) (fun _ _ z => z) (fun _ _ z => z) (fun e s h => ?_) (fun _ _ _ z => z)
    · exact ih (fun j => I (j + 1)) h (fun j d' e s h1 h2 => step (j + 1) d' e s h1 h2) fin
    · exact ih (fun j => I (j + 1)) h (fun j d' e s h1 h2 => step (j + 1) d' e s h1 h2) fin
theorem for_one {ds : List D} (I : Nat → Ev → Store → Prop) (h0 : I 0 e s) (step : ∀ (j : Nat) (d : D) (e : Ev) (s : Store), ds[j]? = some d → I j e s → wpS b (e.set i (some d)) s { k with nx := I (j + 1), ct := I (j + 1), bk := k.nx }) (fin : ∀ e s, I ds.length e s → k.nx e s) :
    wpS (forL (gOne i) b ds) e s k := for_inv I h0 (fun j d e s h1 h2 => ⟨_, rfl, step j d e s h1 h2⟩) fin
theorem wpS_while0 (c : TM) (n : Nat) : wpS (sWhile c b (n + 1)) e s k = wp (c e) s (fun t s' => if t = true then wpS b e s' { k with nx := fun e' s' => wpS (sWhile c b n) e' s' k, ct := fun e' s' => wpS (sWhile c b n) e' s' k, bk := k.nx } else k.nx e s') (fun x s' => k.ex x e s') := by
  have e1 : sWhile c b (n + 1) e s = (match c e s with
    | .ok true s' => (match b e s' with
      | .nx e2 s2 => sWhile c b n e2 s2
      | .cnt e2 s2 => sWhile c b n e2 s2
      | .brk e2 s2 => .nx e2 s2
      | r => r)
    | .ok false s' => .nx e s'
    | .exc x s' => .exc x e s'
    | .bad => .bad) := rfl
  unfold wpS wp
  rw [e1]
  generalize c e s = r
  cases r with
  | ok t s' =>
    cases t with
    | true =>
      show wpR (match b e s' with
      | .nx e2 s2 => sWhile c b n e2 s2
      | .cnt e2 s2 => sWhile c b n e2 s2
      | .brk e2 s2 => .nx e2 s2
      | r => r) k = wpR (b e s') { k with nx := fun e' s' => wpR (sWhile c b n e' s') k, ct := fun e' s' => wpR (sWhile c b n e' s') k, bk := k.nx }
      generalize b e s' = q
      cases q <;> rfl
    | false => rfl
  | exc x s' => rfl
  | bad => rfl
theorem while_inv {c : TM} (I : Nat → Ev → Store → Prop) (step : ∀ (n : Nat) (e : Ev) (s : Store), I n e s → wp (c e) s (fun t s' => if t = true then 0 < n ∧ wpS b e s' { k with nx := I (n - 1), ct := I (n - 1), bk := k.nx } else k.nx e s') (fun x s' => k.ex x e s')) {n : Nat} (fuel : Nat) (hf : n < fuel) (h0 : I n e s) :
    wpS (sWhile c b fuel) e s k := by
  induction fuel generalizing n e s with
  | zero => omega
  | succ f ih =>
    rw [wpS_while0]
    refine wp_mono (step n e s h0) (fun t s' h => ?_) (fun _ _ z => z)
    cases t with
    | true =>
      simp only [if_true] at h ⊢
      refine wpS_mono h.2 (fun e s h2 => ?_) (fun _ _ z => z) (fun _ _ z => z) (fun e s h2 => ?_) (fun _ _ _ z => z)
      · exact ih (n := n - 1) (by omega) h2
      · exact ih (n := n - 1) (by omega) h2
    | false => simpa using h
@[simp] theorem wp_run (fr : Bool) (N : List Str) (ds : List D) (Φ : D → Store → Prop) (Ξ : Xc → Store → Prop) : wp (runB fr N b ds) s Φ Ξ = wpS b (startE N ds) s { nx := fun _ s' => if fr = true then False else Φ .non s', rt := Φ, ex := fun x _ s' => Ξ x s' } := by
  unfold wp runB wpS endB
  cases b (startE N ds) s with
  | nx e' s' => cases fr <;> rfl
  | _ => rfl
theorem law_of {b : SM} (h : wpS b e s { nx := fun _ _ => False, rt := fun d _ => d = .bl true }) : ∃ s', b e s = .ret (.bl true) s' := by
  unfold wpS at h
  cases q : b e s <;> rw [q] at h <;> first | exact (show False from h).elim | skip
  exact ⟨_, by rw [show _ = D.bl true from h]⟩
end
section
variable {e : Ev} {s : Store} {Φ : D → Store → Prop} {Ψ : List D → Store → Prop} {Θ : Bool → Store → Prop} {Ξ : Xc → Store → Prop}
@[simp] theorem wp_eC (d : D) : wp (eC d e) s Φ Ξ = Φ d s := rfl
@[simp] theorem eVar_def (i : Nat) : eVar i e = (match e[i]? with
  | some (some d) => pure d
  | _ => bad) := rfl
@[simp] theorem wp_eBin (op : D → D → M D) (a b : EM) : wp (eBin op a b e) s Φ Ξ = wp (a e) s (fun x s => wp (b e) s (fun y s => wp (op x y) s Φ Ξ) Ξ) Ξ := by unfold eBin; simp only [wp_bind]
@[simp] theorem wp_eUn (op : D → M D) (a : EM) : wp (eUn op a e) s Φ Ξ = wp (a e) s (fun x s => wp (op x) s Φ Ξ) Ξ := by unfold eUn; simp only [wp_bind]
@[simp] theorem wp_eFn (f : List D → M D) (l : LM) : wp (eFn f l e) s Φ Ξ = wp (l e) s (fun x s => wp (f x) s Φ Ξ) Ξ := by unfold eFn; simp only [wp_bind]
@[simp] theorem wp_lNil : wp (lNil e) s Ψ Ξ = Ψ [] s := rfl
@[simp] theorem wp_lCons (a : EM) (r : LM) : wp (lCons a r e) s Ψ Ξ = wp (a e) s (fun x s => wp (r e) s (fun xs s => Ψ (x :: xs) s) Ξ) Ξ := by unfold lCons; simp only [wp_bind, wp_pure]
@[simp] theorem wp_eTup (l : LM) : wp (eTup l e) s Φ Ξ = wp (l e) s (fun x s => Φ (.tup x) s) Ξ := by unfold eTup; simp only [wp_bind, wp_pure]
@[simp] theorem wp_eLst (l : LM) : wp (eLst l e) s Φ Ξ = wp (l e) s (fun x s => Φ (.lst x) s) Ξ := by unfold eLst; simp only [wp_bind, wp_pure]
@[simp] theorem wp_eNew (l : LM) : wp (eNew l e) s Φ Ξ = wp (l e) s (fun x s => Φ (.ref s.length) (s ++ [.lst x])) Ξ := wp_bind (m := l e) (k := fun xs => (fun s => Rs.ok (D.ref s.length) (s ++ [SO.lst xs]) : M D))
@[simp] theorem wp_eSl (a : EM) (lo hi : PM) : wp (eSl a lo hi e) s Φ Ξ = wp (a e) s (fun x s => wp (lo e) s (fun l s => wp (hi e) s (fun h s => wp (opSl x l h) s Φ Ξ) Ξ) Ξ) Ξ := by unfold eSl; simp only [wp_bind]
@[simp] theorem wp_pNo {Φ : Option Int → Store → Prop} : wp (pNo e) s Φ Ξ = Φ none s := rfl
@[simp] theorem wp_pSome (m : EM) {Φ : Option Int → Store → Prop} : wp (pSome m e) s Φ Ξ = wp (m e) s (fun d s => wp (asI d) s Φ Ξ) Ξ := by unfold pSome; simp only [wp_bind]
@[simp] theorem wp_tBin (op : D → D → M D) (a b : EM) : wp (tBin op a b e) s Θ Ξ = wp (a e) s (fun x s => wp (b e) s (fun y s => wp (op x y) s (fun d s => wp (unB d) s Θ Ξ) Ξ) Ξ) Ξ := by unfold tBin; simp only [wp_bind]
@[simp] theorem wp_tChn (op op' : D → D → M D) (a b c : EM) : wp (tChn op op' a b c e) s Θ Ξ = wp (a e) s (fun x s => wp (b e) s (fun y s => wp (op x y) s (fun d s => wp (unB d) s (fun k s => if k = true then wp (c e) s (fun z s => wp (op' y z) s (fun d s => wp (unB d) s Θ Ξ) Ξ) Ξ else Θ false s) Ξ) Ξ) Ξ) Ξ := by
  unfold tChn; simp only [wp_bind, wp_iteB, wp_pure]
@[simp] theorem wp_eChain (op op' : D → D → M D) (a b c : EM) : wp (eChain op op' a b c e) s Φ Ξ = wp (a e) s (fun x s => wp (b e) s (fun y s => wp (op x y) s (fun d s => wp (unB d) s (fun k s => if k = true then wp (c e) s (fun z s => wp (op' y z) s Φ Ξ) Ξ else Φ (.bl false) s) Ξ) Ξ) Ξ) Ξ := by
  unfold eChain; simp only [wp_bind, wp_iteB, wp_pure]
@[simp] theorem wp_tVal (m : EM) : wp (tVal m e) s Θ Ξ = wp (m e) s (fun d s => wp (tru d) s Θ Ξ) Ξ := by unfold tVal; simp only [wp_bind]
@[simp] theorem wp_tAnd (a b : TM) : wp (tAnd' a b e) s Θ Ξ = wp (a e) s (fun k s => if k = true then wp (b e) s Θ Ξ else Θ false s) Ξ := by unfold tAnd'; simp only [wp_bind, wp_iteB, wp_pure]
@[simp] theorem wp_tOr (a b : TM) : wp (tOr' a b e) s Θ Ξ = wp (a e) s (fun k s => if k = true then Θ true s else wp (b e) s Θ Ξ) Ξ := by unfold tOr'; simp only [wp_bind, wp_iteB, wp_pure]
@[simp] theorem wp_tNot (a : TM) : wp (tNot' a e) s Θ Ξ = wp (a e) s (fun k s => Θ (!k) s) Ξ := by unfold tNot'; simp only [wp_bind, wp_pure]
@[simp] theorem wp_eAnd (a b : EM) : wp (eAnd a b e) s Φ Ξ = wp (a e) s (fun x s => wp (tru x) s (fun k s => if k = true then wp (b e) s Φ Ξ else Φ x s) Ξ) Ξ := by unfold eAnd; simp only [wp_bind, wp_iteB, wp_pure]
@[simp] theorem wp_eOr (a b : EM) : wp (eOr a b e) s Φ Ξ = wp (a e) s (fun x s => wp (tru x) s (fun k s => if k = true then Φ x s else wp (b e) s Φ Ξ) Ξ) Ξ := by unfold eOr; simp only [wp_bind, wp_iteB, wp_pure]
@[simp] theorem wp_eNot (a : EM) : wp (eNot a e) s Φ Ξ = wp (a e) s (fun x s => wp (tru x) s (fun k s => Φ (.bl (!k)) s) Ξ) Ξ := by unfold eNot; simp only [wp_bind, wp_pure]
@[simp] theorem wp_eIf (t : TM) (a b : EM) : wp (eIf t a b e) s Φ Ξ = wp (t e) s (fun k s => if k = true then wp (a e) s Φ Ξ else wp (b e) s Φ Ξ) Ξ := by unfold eIf; simp only [wp_bind, wp_iteB]
@[simp] theorem wp_eMeth (g : D → D → M D) (a b : EM) : wp (eMeth g a b e) s Φ Ξ = wp (a e) s (fun x s => wp (asS x) s (fun x s => wp (b e) s (fun y s => wp (g x y) s Φ Ξ) Ξ) Ξ) Ξ := by unfold eMeth; simp only [wp_bind]
@[simp] theorem wp_iSeq (m : EM) : wp (iSeq m e) s Ψ Ξ = wp (m e) s (fun d s => wp (seqOf d) s Ψ Ξ) Ξ := by unfold iSeq; simp only [wp_bind]
@[simp] theorem wp_iRng (m : EM) : wp (iRng m e) s Ψ Ξ = wp (m e) s (fun d s => wp (rng1 d) s Ψ Ξ) Ξ := by unfold iRng; simp only [wp_bind]
@[simp] theorem wp_iRng2 (a b : EM) : wp (iRng2' a b e) s Ψ Ξ = wp (a e) s (fun x s => wp (b e) s (fun y s => wp (rng2 x y) s Ψ Ξ) Ξ) Ξ := by unfold iRng2'; simp only [wp_bind]
@[simp] theorem wp_iRevs (m : EM) : wp (iRevs m e) s Ψ Ξ = wp (m e) s (fun d s => wp (revOf d) s Ψ Ξ) Ξ := by unfold iRevs; simp only [wp_bind]
@[simp] theorem wp_eComp (sl : List Nat) (it : LM) (g : GM) (c : TM) (t : EM) : wp (eComp sl it g c t e) s Φ Ξ = wp (it e) s (fun ds s => wp (compM sl g c t e ds) s (fun ys s => Φ (.lst ys) s) Ξ) Ξ := by unfold eComp; simp only [wp_bind, wp_pure]
@[simp] theorem wp_cYes : wp (cYes e) s Θ Ξ = Θ true s := rfl
theorem comp_inv {sl : List Nat} {g : GM} {c : TM} {t : EM} {ds : List D} (I : Nat → List D → Store → Prop) (h0 : I 0 [] s) (step : ∀ (j : Nat) (d : D) (acc : List D) (s : Store), ds[j]? = some d → I j acc s →
    ∃ l, g d = some l ∧ wp (c (setAll l (wipeE e sl))) s (fun k s => if k = true then wp (t (setAll l (wipeE e sl))) s (fun y s => I (j + 1) (acc ++ [y]) s) (fun _ _ => False) else I (j + 1) acc s) (fun _ _ => False)) (fin : ∀ ys s, I ds.length ys s → Ψ ys s) : wp (compM sl g c t e ds) s Ψ Ξ := by
  have main : ∀ (ds : List D) (I : Nat → List D → Store → Prop) (acc : List D) (s : Store) (Ψ : List D → Store → Prop), I 0 acc s → (∀ (j : Nat) (d : D) (acc : List D) (s : Store), ds[j]? = some d → I j acc s →
    ∃ l, g d = some l ∧ wp (c (setAll l (wipeE e sl))) s (fun k s => if k = true then wp (t (setAll l (wipeE e sl))) s (fun y s => I (j + 1) (acc ++ [y]) s) (fun _ _ => False) else I (j + 1) acc s) (fun _ _ => False)) → (∀ ys s, I ds.length ys s → Ψ ys s) → wp (compM sl g c t e ds) s (fun ys s => Ψ (acc ++ ys) s) Ξ := by
    intro ds
    induction ds with
    | nil =>
      intro I acc s Ψ h0 _ fin
      show Ψ (acc ++ []) s
      rw [List.append_nil]
      exact fin acc s h0
    | cons d ds ih =>
      intro I acc s Ψ h0 step fin
      obtain ⟨l, hl, h⟩ := step 0 d acc s rfl h0
      rw [compM, hl]
      simp only [wp_bind, wp_noX]
      refine wp_mono h (fun k s h => ?_) (fun _ _ z => z.elim)
      cases k with
      | true =>
        simp only [if_true, wp_bind, wp_noX, wp_pure] at h ⊢
        refine wp_mono h (fun y s h => ?_) (fun _ _ z => z.elim)
        refine wp_mono (ih (fun j => I (j + 1)) (acc ++ [y]) s Ψ h (fun j d acc s h1 h2 => step (j + 1) d acc s h1 h2) fin) (fun ys s h => ?_) (fun _ _ z => z)
        rw [List.append_assoc] at h
        exact h
      | false =>
        simp only [Bool.false_eq_true, if_false] at h ⊢
        exact ih (fun j => I (j + 1)) acc s Ψ h (fun j d acc s h1 h2 => step (j + 1) d acc s h1 h2) fin
  have := main ds I [] s Ψ h0 step fin
  simpa using this
@[simp] theorem wp_unB (b : Bool) : wp (unB (.bl b)) s Θ Ξ = Θ b s := rfl
@[simp] theorem wp_asI (i : Int) {Φ : Option Int → Store → Prop} : wp (asI (.int i)) s Φ Ξ = Φ (some i) s := rfl
@[simp] theorem wp_asS (x : Tx) : wp (asS (.str x)) s Φ Ξ = Φ (.str x) s := rfl
@[simp] theorem wp_tru_bl (b : Bool) : wp (tru (.bl b)) s Θ Ξ = Θ b s := rfl
@[simp] theorem wp_tru_non : wp (tru .non) s Θ Ξ = Θ false s := rfl
@[simp] theorem wp_tru_int (i : Int) : wp (tru (.int i)) s Θ Ξ = Θ (i != 0) s := rfl
@[simp] theorem wp_tru_str (x : Tx) : wp (tru (.str x)) s Θ Ξ = Θ (!x.isEmpty) s := rfl
@[simp] theorem wp_tru_lst (x : List D) : wp (tru (.lst x)) s Θ Ξ = Θ (!x.isEmpty) s := rfl
@[simp] theorem wp_tru_tup (x : List D) : wp (tru (.tup x)) s Θ Ξ = Θ (!x.isEmpty) s := rfl
@[simp] theorem wp_add_int (a b : Int) : wp (opAdd (.int a) (.int b)) s Φ Ξ = Φ (.int (a + b)) s := rfl
@[simp] theorem wp_sub_int (a b : Int) : wp (opSub (.int a) (.int b)) s Φ Ξ = Φ (.int (a - b)) s := rfl
@[simp] theorem wp_neg_int (a : Int) : wp (opNeg (.int a)) s Φ Ξ = Φ (.int (-a)) s := rfl
theorem wp_add_str (a b : Tx) (h : a.length + b.length ≤ 16000000) : wp (opAdd (.str a) (.str b)) s Φ Ξ = Φ (.str (a ++ b)) s := by
  have h2 : a.length + b.length ≤ sizeLine := Nat.le_trans h (by decide)
  simp only [opAdd, if_pos h2, wp_pure]
theorem wp_add_lst (a b : List D) (h : a.length + b.length ≤ 16000000) : wp (opAdd (.lst a) (.lst b)) s Φ Ξ = Φ (.lst (a ++ b)) s := by
  have h2 : a.length + b.length ≤ sizeLine := Nat.le_trans h (by decide)
  simp only [opAdd, if_pos h2, wp_pure]
theorem wp_add_tup (a b : List D) (h : a.length + b.length ≤ 16000000) : wp (opAdd (.tup a) (.tup b)) s Φ Ξ = Φ (.tup (a ++ b)) s := by
  have h2 : a.length + b.length ≤ sizeLine := Nat.le_trans h (by decide)
  simp only [opAdd, if_pos h2, wp_pure]
theorem wp_mul_int (a b : Int) (h : (-(2 ^ 64) < a ∧ a < 2 ^ 64) ∨ (-(2 ^ 64) < b ∧ b < 2 ^ 64)) : wp (opMul (.int a) (.int b)) s Φ Ξ = Φ (.int (a * b)) s := by simp only [opMul, if_pos h, wp_pure]
theorem wp_mul_str (a : Tx) (b : Int) (h : b ≤ 1000 ∧ -1000 ≤ b ∧ a.length ≤ 1000) : wp (opMul (.str a) (.int b)) s Φ Ξ = Φ (.str (repL b.toNat a)) s := by simp only [opMul, if_pos h, wp_pure]
theorem wp_mod_int (a b : Int) (h : b ≠ 0) : wp (opMod (.int a) (.int b)) s Φ Ξ = Φ (.int (a.fmod b)) s := by simp only [opMod, if_neg h, wp_pure]
theorem wp_div_int (a b : Int) (h : b ≠ 0) (h2 : b.natAbs < 1073741824) : wp (opDiv (.int a) (.int b)) s Φ Ξ = Φ (.int (a.fdiv b)) s := by simp only [opDiv, if_pos (And.intro h h2), wp_pure]
theorem wp_pow_int (a b : Int) (h : 0 ≤ b ∧ b ≤ 1000000 ∧ a.natAbs < 2 ^ 64) : wp (opPow (.int a) (.int b)) s Φ Ξ = Φ (.int (a ^ b.toNat)) s := by simp only [opPow, if_pos h, wp_pure]
@[simp] theorem wp_lt_int (a b : Int) : wp (opLt (.int a) (.int b)) s Φ Ξ = Φ (.bl (decide (a < b))) s := rfl
@[simp] theorem wp_le_int (a b : Int) : wp (opLe (.int a) (.int b)) s Φ Ξ = Φ (.bl (decide (a ≤ b))) s := rfl
@[simp] theorem wp_gt_int (a b : Int) : wp (opGt (.int a) (.int b)) s Φ Ξ = Φ (.bl (decide (b < a))) s := rfl
@[simp] theorem wp_ge_int (a b : Int) : wp (opGe (.int a) (.int b)) s Φ Ξ = Φ (.bl (decide (b ≤ a))) s := rfl
theorem wp_eq {d d' : D} (h1 : d.okD = true) (h2 : d'.okD = true) : wp (opEq d d') s Φ Ξ = Φ (.bl (D.eqv d d')) s := by unfold opEq; rw [h1, h2]; rfl
theorem wp_ne {d d' : D} (h1 : d.okD = true) (h2 : d'.okD = true) : wp (opNe d d') s Φ Ξ = Φ (.bl (!D.eqv d d')) s := by unfold opNe; rw [h1, h2]; rfl
@[simp] theorem wp_is_non (d : D) : wp (opIs d .non) s Φ Ξ = Φ (.bl (isNon d)) s := by cases d <;> rfl
@[simp] theorem wp_is_bl (a b : Bool) : wp (opIs (.bl a) (.bl b)) s Φ Ξ = Φ (.bl (decide (a = b))) s := rfl
@[simp] theorem wp_isnot_non (d : D) : wp (opIsNot d .non) s Φ Ξ = Φ (.bl (!isNon d)) s := by cases d <;> rfl
@[simp] theorem wp_isnot_bl (a b : Bool) : wp (opIsNot (.bl a) (.bl b)) s Φ Ξ = Φ (.bl (!decide (a = b))) s := rfl
@[simp] theorem wp_in_sign (c : Char) (b : Tx) : wp (opIn (.str [c]) (.str b)) s Φ Ξ = Φ (.bl (decide (c ∈ b))) s := rfl
@[simp] theorem wp_nin_sign (c : Char) (b : Tx) : wp (opNotIn (.str [c]) (.str b)) s Φ Ξ = Φ (.bl (!decide (c ∈ b))) s := rfl
@[simp] theorem wp_len_str (x : Tx) : wp (fLen (.str x)) s Φ Ξ = Φ (.int x.length) s := rfl
@[simp] theorem wp_len_lst (x : List D) : wp (fLen (.lst x)) s Φ Ξ = Φ (.int x.length) s := rfl
@[simp] theorem wp_len_tup (x : List D) : wp (fLen (.tup x)) s Φ Ξ = Φ (.int x.length) s := rfl
theorem atI_some {α : Type} {xs : List α} {i : Int} (h0 : 0 ≤ i) (h1 : i.toNat < xs.length) : L2.atI xs i = some xs[i.toNat] := by
  unfold L2.atI L2.ixN
  have h2 : i < (xs.length : Int) := by omega
  rw [if_pos h0, if_pos h2]
  simp [h1]
theorem wp_ix_lst {xs : List D} {i : Int} {d : D} (h : L2.atI xs i = some d) : wp (opIx (.lst xs) (.int i)) s Φ Ξ = Φ d s := by show wp (ofO (L2.atI xs i)) s Φ Ξ = _; rw [h]; rfl
theorem wp_ix_tup {xs : List D} {i : Int} {d : D} (h : L2.atI xs i = some d) : wp (opIx (.tup xs) (.int i)) s Φ Ξ = Φ d s := by show wp (ofO (L2.atI xs i)) s Φ Ξ = _; rw [h]; rfl
theorem wp_ix_str {xs : Tx} {i : Int} {c : Char} (h : L2.atI xs i = some c) : wp (opIx (.str xs) (.int i)) s Φ Ξ = Φ (.str [c]) s := by show wp (ofO ((L2.atI xs i).map fun c => D.str [c])) s Φ Ξ = _; rw [h]; rfl
@[simp] theorem wp_sl_lst (xs : List D) (l h : Option Int) : wp (opSl (.lst xs) l h) s Φ Ξ = Φ (.lst (cutL xs l h)) s := rfl
@[simp] theorem wp_sl_tup (xs : List D) (l h : Option Int) : wp (opSl (.tup xs) l h) s Φ Ξ = Φ (.tup (cutL xs l h)) s := rfl
@[simp] theorem wp_sl_str (xs : Tx) (l h : Option Int) : wp (opSl (.str xs) l h) s Φ Ξ = Φ (.str (cutL xs l h)) s := rfl
@[simp] theorem wp_seq_lst (xs : List D) : wp (seqOf (.lst xs)) s Ψ Ξ = Ψ xs s := rfl
@[simp] theorem wp_seq_tup (xs : List D) : wp (seqOf (.tup xs)) s Ψ Ξ = Ψ xs s := rfl
@[simp] theorem wp_seq_str (xs : Tx) : wp (seqOf (.str xs)) s Ψ Ξ = Ψ (signs xs) s := rfl
theorem wp_rng1 {n : Int} (h : -1000000 ≤ n ∧ n ≤ 1000000) : wp (rng1 (.int n)) s Ψ Ξ = Ψ (nums 0 n.toNat) s := by
  show wp (rngOf 0 n) s Ψ Ξ = _
  unfold rngOf
  rw [if_pos ⟨by omega, by omega, h⟩, wp_pure, Int.sub_zero]
theorem wp_all {ds : List D} {bs : List Bool} (h : boolsOf ds = some bs) : wp (fAll (.lst ds)) s Φ Ξ = Φ (.bl (bs.all id)) s := by
  show wp (ofO ((boolsOf ds).map fun bs => D.bl (bs.all id))) s Φ Ξ = _
  rw [h]
  rfl
theorem wp_any {ds : List D} {bs : List Bool} (h : boolsOf ds = some bs) : wp (fAny (.lst ds)) s Φ Ξ = Φ (.bl (bs.any id)) s := by
  show wp (ofO ((boolsOf ds).map fun bs => D.bl (bs.any id))) s Φ Ξ = _
  rw [h]
  rfl
theorem bools_map {α : Type} (f : α → Bool) : ∀ l : List α, boolsOf (l.map fun x => D.bl (f x)) = some (l.map f)
  | [] => rfl
  | x :: l => by
    show (boolsOf (l.map fun x => D.bl (f x))).map (f x :: ·) = _
    rw [bools_map f l]
    rfl
end
end Mr

namespace Mr
open PySem PySem.Spec PyProof.Rows L2
section
variable {e : Ev} {s : Store} {k : Kt} {b : SM} {m mj mo : EM} {i : Nat} {Φ : D → Store → Prop} {Ξ : Xc → Store → Prop}
def chK (i : Nat) (f : List D → Option (List D)) (e : Ev) (s : Store) (k : Kt) : Prop := match e[i]? with
  | some (some (.lst xs)) => (match f xs with
    | some ys => k.nx (e.set i (some (.lst ys))) s
    | none => False)
  | _ => False
theorem wpR_chOwn (f : List D → Option (List D)) : wpR (chOwn i f e s) k = chK i f e s k := by
  unfold chOwn chK
  generalize e[i]? = o
  rcases o with _ | _ | d
  · rfl
  · rfl
  · cases d <;> first
      | rfl
      | (rename_i xs
         show wpR (match f xs with
           | some ys => .nx (e.set i (some (.lst ys))) s
           | none => .bad) k = match f xs with
           | some ys => k.nx (e.set i (some (.lst ys))) s
           | none => False
         generalize f xs = q
         cases q <;> rfl)
theorem chK_of {f : List D → Option (List D)} {xs ys : List D} (h : e[i]? = some (some (.lst xs))) (h2 : f xs = some ys) : chK i f e s k = k.nx (e.set i (some (.lst ys))) s := by
  unfold chK
  simp only [h, h2]
@[simp] theorem wpS_gd : wpS (gd i b) e s k = (match e[i]? with
  | some (some (.lst _)) => wpS b e s k
  | _ => False) := by
  unfold wpS gd
  generalize e[i]? = o
  rcases o with _ | _ | d
  · rfl
  · rfl
  · cases d <;> rfl
theorem wpS_gd_of {xs : List D} (h : e[i]? = some (some (.lst xs))) : wpS (gd i b) e s k = wpS b e s k := by
  rw [wpS_gd]
  simp only [h]
@[simp] theorem wpS_app : wpS (sApp i m) e s k = wp (m e) s (fun d s' => chK i (fun xs => ckLen (xs ++ [d])) e s' k) (fun x s' => k.ex x e s') := by
  unfold sApp
  rw [wpS_sE]
  simp only [wpR_chOwn]
@[simp] theorem wpS_ext : wpS (sExt i m) e s k = wp (m e) s (fun d s' => match d with
    | .lst ys => chK i (fun xs => ckLen (xs ++ ys)) e s' k
    | _ => False) (fun x s' => k.ex x e s') := by
  unfold sExt
  rw [wpS_sE]
  congr 1
  funext d s'
  cases d <;> first | rfl | exact wpR_chOwn _
@[simp] theorem wpS_rev : wpS (sRevI i) e s k = chK i (fun xs => some xs.reverse) e s k := wpR_chOwn _
@[simp] theorem wpS_ins : wpS (sIns i mj m) e s k = wp (mj e) s (fun j s' => wp (m e) s' (fun d s' => match j with
    | .int j => chK i (insAt j d) e s' k
    | _ => False) (fun x s' => k.ex x e s')) (fun x s' => k.ex x e s') := by
  unfold sIns
  rw [wpS_sE]
  congr 1
  funext j s'
  show wpS (sE m fun d e s => match j with
    | .int j => chOwn i (insAt j d) e s
    | _ => .bad) e s' k = _
  rw [wpS_sE]
  congr 1
  funext d s''
  cases j <;> first | rfl | exact wpR_chOwn _
@[simp] theorem wpS_seti : wpS (sSetI i m mj) e s k = wp (m e) s (fun d s' => wp (mj e) s' (fun j s' => match j with
    | .int j => chK i (setI j d) e s' k
    | _ => False) (fun x s' => k.ex x e s')) (fun x s' => k.ex x e s') := by
  unfold sSetI
  rw [wpS_sE]
  congr 1
  funext d s'
  show wpS (sE mj fun j e s => match j with
    | .int j => chOwn i (setI j d) e s
    | _ => .bad) e s' k = _
  rw [wpS_sE]
  congr 1
  funext j s''
  cases j <;> first | rfl | exact wpR_chOwn _
def setK (o j d : D) (e : Ev) (s : Store) (k : Kt) : Prop := match o, j with
  | .ref n, .int j => (match s[n]? with
    | some (.lst xs) => (match setI j d xs with
      | some ys => k.nx e (s.set n (.lst ys))
      | none => False)
    | _ => False)
  | _, _ => False
theorem setR_eq {n : Nat} {j : Int} {d : D} : wpR (match s[n]? with
    | some (.lst xs) => (match setI j d xs with
      | some ys => .nx e (s.set n (.lst ys))
      | none => .bad)
    | _ => .bad) k = (match s[n]? with
    | some (.lst xs) => (match setI j d xs with
      | some ys => k.nx e (s.set n (.lst ys))
      | none => False)
    | _ => False) := by
  generalize s[n]? = o
  rcases o with _ | o
  · rfl
  · cases o with
    | ins _ _ => rfl
    | lst xs =>
      show wpR (match setI j d xs with
        | some ys => .nx e (s.set n (.lst ys))
        | none => .bad) k = (match setI j d xs with
        | some ys => k.nx e (s.set n (.lst ys))
        | none => False)
      generalize setI j d xs = q
      cases q <;> rfl
@[simp] theorem wpS_setr : wpS (sSetR m mo mj) e s k = wp (m e) s (fun d s' => wp (mo e) s' (fun o s' => wp (mj e) s' (fun j s' => setK o j d e s' k) (fun x s' => k.ex x e s')) (fun x s' => k.ex x e s')) (fun x s' => k.ex x e s') := by
  unfold sSetR
  rw [wpS_sE]
  congr 1
  funext d s'
  show wpS (sE mo fun o => sE mj fun j e s => match o, j with
    | .ref n, .int j => (match s[n]? with
      | some (.lst xs) => (match setI j d xs with
        | some ys => .nx e (s.set n (.lst ys))
        | none => .bad)
      | _ => .bad)
    | _, _ => .bad) e s' k = _
  rw [wpS_sE]
  congr 1
  funext o s2
  show wpS (sE mj fun j e s => match o, j with
    | .ref n, .int j => (match s[n]? with
      | some (.lst xs) => (match setI j d xs with
        | some ys => .nx e (s.set n (.lst ys))
        | none => .bad)
      | _ => .bad)
    | _, _ => .bad) e s2 k = _
  rw [wpS_sE]
  congr 1
  funext j s3
  unfold setK
  cases o <;> first | rfl | skip
  cases j <;> first | rfl | skip
  rename_i n j
  exact setR_eq
theorem setK_of {n : Nat} {j : Int} {d : D} {xs ys : List D} (h : s[n]? = some (.lst xs)) (h2 : setI j d xs = some ys) : setK (.ref n) (.int j) d e s k = k.nx e (s.set n (.lst ys)) := by
  unfold setK
  simp only [h, h2]
theorem wp_ix_ref {n : Nat} {j : Int} {d : D} {xs : List D} (h : s[n]? = some (.lst xs)) (h2 : L2.atI xs j = some d) : wp (opIx (.ref n) (.int j)) s Φ Ξ = Φ d s := by
  have e1 : ixS j n s = some d := by
    unfold ixS
    simp only [h, h2]
  have e2 : opIx (.ref n) (.int j) s = .ok d s := by
    show ofO (ixS j n s) s = _
    rw [e1]
    rfl
  exact wp_ok e2
end
def N__law_draw : List Str := ["pen", "many", "at", "cell", "number", "found"]
def b_draw1 : SM := (sSeq (sSet 4 (eBin opMod (eBin opMul (eBin opAdd (eBin opMod (eVar 3) (eC (.int (2147483629)))) (eC (.int (11)))) (eBin opAdd (eBin opAdd (eBin opMul (eVar 2) (eVar 2)) (eBin opMul (eC (.int (5))) (eVar 2))) (eC (.int (3))))) (eC (.int (2147483647)))))
  (sRet (eBin opMod (eBin opDiv (eBin opMod (eBin opMul (eBin opMod (eBin opAdd (eBin opPow (eVar 4) (eC (.int (3)))) (eBin opMul (eC (.int (69621))) (eVar 2))) (eC (.int (2147483587)))) (eC (.int (40692)))) (eC (.int (2147483399)))) (eC (.int (64)))) (eVar 1))))
def b_draw2 : SM := (sSeq (sIf (tAnd' (tBin opLt (eVar 2) (eUn fLen (eBin opIx (eVar 0) (eC (.int (0)))))) (tBin opGe (eVar 3) (eBin opPow (eC (.int (10))) (eC (.int (18))))))
  (sSeq (sSetR (eBin opDiv (eVar 3) (eVar 1)) (eVar 0) (eC (.int (2))))
  (sRet (eBin opMod (eVar 3) (eVar 1))))
  sNext)
  b_draw1)
def b__law_draw : SM := (sSeq (sIf (tBin opGt (eBin opIx (eVar 0) (eC (.int (2)))) (eC (.int (0))))
  (sSeq (sSet 5 (eBin opMod (eBin opIx (eVar 0) (eC (.int (2)))) (eVar 1)))
  (sSeq (sSetR (eBin opDiv (eBin opIx (eVar 0) (eC (.int (2)))) (eVar 1)) (eVar 0) (eC (.int (2))))
  (sRet (eVar 5))))
  sNext)
  (sSeq (sSet 2 (eBin opIx (eVar 0) (eC (.int (1)))))
  (sSeq (sSetR (eBin opAdd (eVar 2) (eC (.int (1)))) (eVar 0) (eC (.int (1))))
  (sSeq (sSet 3 (eC (.int (7))))
  (sSeq (sIf (tBin opGt (eUn fLen (eBin opIx (eVar 0) (eC (.int (0))))) (eC (.int (0))))
  (sSet 3 (eBin opIx (eBin opIx (eVar 0) (eC (.int (0)))) (eBin opMod (eVar 2) (eUn fLen (eBin opIx (eVar 0) (eC (.int (0))))))))
  sNext)
  b_draw2)))))
def m__law_draw : List D → M D := runB false N__law_draw b__law_draw

def pen (ns : List Int) (a r : Int) : SO := .lst [.lst (ns.map .int), .int a, .int r]
def PenAt (k : Nat) (o : SO) : Prop := ∃ ns a r, o = pen ns a r ∧ 0 ≤ a ∧ a ≤ k ∧ 0 ≤ r
def PenOk (k : Nat) (s : Store) : Prop := ∃ o, s[0]? = some o ∧ PenAt k o
theorem PenOk.mono {j k : Nat} {s : Store} (h : PenOk j s) (hk : j ≤ k) : PenOk k s := by
  obtain ⟨o, h1, ns, a, r, h2, h3, h4, h5⟩ := h
  exact ⟨o, h1, ns, a, r, h2, h3, by omega, h5⟩
theorem pen0_ok (ns : List Int) : PenOk 0 (pen0 ns) := ⟨_, rfl, ns, 0, 0, rfl, by omega, by omega, by omega⟩
theorem ints_at {ns : List Int} {i : Int} (h0 : 0 ≤ i) (h1 : i.toNat < ns.length) : L2.atI (ns.map D.int) i = some (.int ns[i.toNat]) := by
  rw [atI_some h0 (by simpa using h1)]
  simp
theorem fmod_lo (a : Int) {b : Int} (h : 0 < b) : 0 ≤ a.fmod b := Int.fmod_nonneg_of_pos a h
theorem fmod_hi (a : Int) {b : Int} (h : 0 < b) : a.fmod b < b := Int.fmod_lt_of_pos a h
theorem draw_set {k : Nat} {s : Store} {n : Int} {Φ : D → Store → Prop} {Ξ : Xc → Store → Prop} (hp : PenOk k s) (hk : k ≤ 1000000000 := by omega) (h0 : 0 < n := by omega) (h1 : n < 1000000000 := by omega)
    (h : ∀ (r : Int) (o : SO), 0 ≤ r → r < n → PenAt (k + 1) o → Φ (.int r) (s.set 0 o)) : wp (m__law_draw [.ref 0, .int n]) s Φ Ξ := by
  obtain ⟨o, hs, ns, a, r, rfl, ha, hak, hr⟩ := hp
  have ev : startE N__law_draw [.ref 0, .int n] = [some (.ref 0), some (.int n), none, none, none, none] := rfl
  have hl : 0 < s.length := (List.getElem?_eq_some_iff.mp hs).1
  have ix0 : ∀ {ns : List Int} {a r : Int} {s : Store} {Φ : D → Store → Prop} {Ξ : Xc → Store → Prop}, s[0]? = some (pen ns a r) → wp (opIx (.ref 0) (.int 0)) s Φ Ξ = Φ (.lst (ns.map .int)) s := fun h => wp_ix_ref h rfl
  have ix1 : ∀ {ns : List Int} {a r : Int} {s : Store} {Φ : D → Store → Prop} {Ξ : Xc → Store → Prop}, s[0]? = some (pen ns a r) → wp (opIx (.ref 0) (.int 1)) s Φ Ξ = Φ (.int a) s := fun h => wp_ix_ref h rfl
  have ix2 : ∀ {ns : List Int} {a r : Int} {s : Store} {Φ : D → Store → Prop} {Ξ : Xc → Store → Prop}, s[0]? = some (pen ns a r) → wp (opIx (.ref 0) (.int 2)) s Φ Ξ = Φ (.int r) s := fun h => wp_ix_ref h rfl
  have st1 : ∀ {ns : List Int} {a r v : Int} {e : Ev} {s : Store} {k : Kt}, s[0]? = some (pen ns a r) → setK (.ref 0) (.int 1) (.int v) e s k = k.nx e (s.set 0 (pen ns v r)) := fun h => setK_of h rfl
  have st2 : ∀ {ns : List Int} {a r v : Int} {e : Ev} {s : Store} {k : Kt}, s[0]? = some (pen ns a r) → setK (.ref 0) (.int 2) (.int v) e s k = k.nx e (s.set 0 (pen ns a v)) := fun h => setK_of h rfl
  unfold m__law_draw
  rw [wp_run, ev]
  unfold b__law_draw
  simp only [wpS_seq, wpS_if, wp_tBin, wp_eBin, eVar_def, List.getElem?_cons_zero, List.getElem?_cons_succ, wp_pure, wp_eC, ix2 hs, wp_gt_int, wp_unB]
  by_cases hr0 : 0 < r
  · simp only [decide_eq_true hr0, if_true, wpS_seq, wpS_set, wp_eBin, eVar_def, List.getElem?_cons_zero, List.getElem?_cons_succ, wp_pure, wp_eC, ix2 hs, wp_mod_int r n (by omega), List.set_cons_zero, List.set_cons_succ, wpS_setr, wp_div_int r n (by omega) (by omega), st2 hs, wpS_ret]
    refine h _ _ (fmod_lo _ h0) (fmod_hi _ h0) ⟨ns, a, _, rfl, ha, by omega, Int.fdiv_nonneg hr (by omega)⟩
  · have s1 : (s.set 0 (pen ns (a + 1) r))[0]? = some (pen ns (a + 1) r) := List.getElem?_set_self hl
    have ck : ∀ {c : Prop} [Decidable c], decide c = true ↔ c := by intro c _; exact decide_eq_true_iff
    simp only [decide_eq_false hr0, if_false, Bool.false_eq_true, wpS_nx, wpS_seq, wpS_set, wp_eBin, eVar_def, List.getElem?_cons_zero, List.getElem?_cons_succ, wp_pure, wp_eC, ix1 hs, wp_add_int, List.set_cons_zero, List.set_cons_succ, wpS_setr, st1 hs, wpS_if, wp_tBin, ix0 s1, wp_eUn, wp_len_lst, wp_gt_int, wp_unB, List.length_map]
    -- what is behind the cell's choice
    have tail : ∀ c : Int, wpS b_draw2
      [some (.ref 0), some (.int n), some (.int a), some (.int c), none, none] (s.set 0 (pen ns (a + 1) r)) { nx := fun _ s' => if false = true then False else Φ .non s', rt := Φ, ex := fun x _ s' => Ξ x s' } := by
      intro c
      have fin : ∀ e : Ev, e = [some (.ref 0), some (.int n), some (.int a), some (.int c), none, none] → wpS b_draw1 e (s.set 0 (pen ns (a + 1) r)) { nx := fun _ s' => if false = true then False else Φ .non s', rt := Φ, ex := fun x _ s' => Ξ x s' } := by
        rintro e rfl
        unfold b_draw1
        have q1 := fmod_lo c (b := 2147483629) (by omega)
        have q2 := fmod_hi c (b := 2147483629) (by omega)
        simp only [wpS_seq, wpS_set, wp_eBin, eVar_def, List.getElem?_cons_zero, List.getElem?_cons_succ, wp_pure, wp_eC, wp_mod_int c 2147483629 (by omega), wp_add_int, wp_mul_int a a (.inl ⟨by omega, by omega⟩), wp_mul_int 5 a (.inl ⟨by omega, by omega⟩), List.set_cons_zero, List.set_cons_succ]
        rw [wp_mul_int _ _ (.inl ⟨by omega, by omega⟩)]
        generalize (c.fmod 2147483629 + 11) * (a * a + 5 * a + 3) = z1
        rw [wp_mod_int z1 2147483647 (by omega)]
        have q3 := fmod_lo z1 (b := 2147483647) (by omega)
        have q4 := fmod_hi z1 (b := 2147483647) (by omega)
        generalize z1.fmod 2147483647 = z2 at q3 q4 ⊢
        simp only [wpS_ret, wp_eBin, eVar_def, List.getElem?_cons_zero, List.getElem?_cons_succ, wp_pure, wp_eC, wp_pow_int z2 3 ⟨by omega, by omega, by omega⟩, wp_mul_int 69621 a (.inl ⟨by omega, by omega⟩), wp_add_int]
        generalize z2 ^ (3 : Int).toNat + 69621 * a = z3
        rw [wp_mod_int z3 2147483587 (by omega), wp_mul_int _ 40692 (.inr ⟨by omega, by omega⟩)]
        generalize z3.fmod 2147483587 * 40692 = z4
        rw [wp_mod_int z4 2147483399 (by omega), wp_div_int _ 64 (by omega) (by omega), wp_mod_int _ n (by omega)]
        exact h _ _ (fmod_lo _ h0) (fmod_hi _ h0) ⟨ns, a + 1, r, rfl, by omega, by omega, hr⟩
      unfold b_draw2
      rw [wpS_seq]
      simp only [wpS_if, wp_tAnd, wp_tBin, wp_eUn, wp_eBin, eVar_def, List.getElem?_cons_zero, List.getElem?_cons_succ, wp_pure, wp_eC, ix0 s1, wp_len_lst, wp_lt_int, wp_unB]
      have pw : ∀ {Φ : D → Store → Prop} {Ξ : Xc → Store → Prop} {s : Store}, wp (opPow (.int 10) (.int 18)) s Φ Ξ = Φ (.int 1000000000000000000) s := by
        intro Φ Ξ s
        rw [wp_pow_int 10 18 ⟨by omega, by omega, by omega⟩]
        rfl
      split
      · simp only [pw, wp_ge_int, wp_unB]
        split
        · rename_i hc
          have hc' : (1000000000000000000 : Int) ≤ c := by simpa using hc
          simp only [wpS_seq, wpS_setr, wp_eBin, eVar_def, List.getElem?_cons_zero, List.getElem?_cons_succ, wp_pure, wp_eC, wp_div_int c n (by omega) (by omega), st2 s1, wpS_ret, wp_mod_int c n (by omega), List.set_set]
          exact h _ _ (fmod_lo _ h0) (fmod_hi _ h0) ⟨ns, a + 1, _, rfl, by omega, by omega, Int.fdiv_nonneg (by omega) (by omega)⟩
        · exact fin _ rfl
      · simp only [Bool.false_eq_true, if_false]
        exact fin _ rfl
    split
    · rename_i hn
      have hn' : 0 < ns.length := by
        have : (0 : Int) < (ns.length : Int) := by simpa using hn
        omega
      have q1 := fmod_lo a (b := (ns.length : Int)) (by omega)
      have q2 := fmod_hi a (b := (ns.length : Int)) (by omega)
      simp only [wpS_set, wp_eBin, wp_eUn, eVar_def, List.getElem?_cons_zero, List.getElem?_cons_succ, wp_pure, wp_eC, ix0 s1, wp_len_lst, List.length_map, wp_mod_int a (ns.length : Int) (by omega), List.set_cons_zero, List.set_cons_succ]
      rw [wp_ix_lst (ints_at q1 (by omega))]
      exact tail _
    · exact tail 7
theorem draw_ok {k : Nat} {s : Store} {n : Int} {Φ : D → Store → Prop} {Ξ : Xc → Store → Prop} (hp : PenOk k s) (h : ∀ (r : Int) (s' : Store), 0 ≤ r → r < n → PenOk (k + 1) s' → Φ (.int r) s') (hk : k ≤ 1000000000 := by omega) (h0 : 0 < n := by omega) (h1 : n < 1000000000 := by omega) : wp (m__law_draw [.ref 0, .int n]) s Φ Ξ :=
  draw_set hp hk h0 h1 fun r o a b c => h r _ a b ⟨o, by
    obtain ⟨o', h2, _⟩ := hp
    exact List.getElem?_set_self (List.getElem?_eq_some_iff.mp h2).1, c⟩
end Mr

namespace Mr
open PySem PySem.Spec PyProof.Rows L2
theorem Tt.exc {K : PySem.W.Frag} {mg : Str → Option Value} {h : Heap} {fa : List He.Fa} {fn : List He.DefD} (T : Tt K mg h fa fn) (i : Nat) {x : Str} (e : fa[i]? = some (.exc x) := by rfl) :
    PySem.W.excIn K (He.ga K x) He.veBase "ValueError.__new__" = true ∧ PySem.W.keepIn K (.ref (He.ga K x)) = true ∧ PySem.W.subIn K (.ref (He.ga K x)) (.type "BaseException") = some true ∧ PySem.W.typeIn K (.ref (He.ga K x)) = some (.type "type") := He.exc_ok (T.c.fact i e)
theorem q_raiseF {X : Cx} {W : WX} {fr : Bool} {en : Ent} {Ω Ω' Ωl : List Nat} {x m : Str} {j : Nat} {p p2 pos' pos : Pos} (hc : X.calm = true) (tk : L2N.Takes X W) (gC : X.mg x = some (.ref (He.ga X.K x)))
    (e : PySem.W.excIn X.K (He.ga X.K x) He.veBase "ValueError.__new__" = true ∧ PySem.W.keepIn X.K (.ref (He.ga X.K x)) = true ∧ PySem.W.subIn X.K (.ref (He.ga X.K x)) (.type "BaseException") = some true ∧ PySem.W.typeIn X.K (.ref (He.ga X.K x)) = some (.type "type")) (cC : clsB X.K x = true) (hg : Gl X x)
    (hdb : (x == ("__debug__" : Str)) = false := by decide) : qS X W fr en Ω Ω' Ωl (.Raise (some (.Call (.Name x p) [.Constant (.str m) j p2] [] pos')) none pos) (sRaise x) :=
  q_raise hc tk gC cC (L2N.pmk_own PySem.F.excBase_ValueError e.1 gC e.2.1 (raises_own e.2.2.1 e.2.2.2) hg hdb)
section
variable {X : Cx} {W : WX} {fr : Bool} {en : Ent} {Ω Ω1 Ω' Ωl : List Nat} {a b c e tg it : Expr} {es : List Expr} {ma mb mc : EM} {ml : LM} {pos p tpos : Pos} {x : Str} {K : PySem.W.Frag} {mg : Str → Option Value} {G G' H H' H1 : Hp} {ρ ρ' ρ1 : List Addr} {S : Store}
def pairs (xs ys : List D) : List D := List.zipWith (fun x y => D.tup [x, y]) xs ys
def zipL : D → D → M (List D)
  | .lst xs, .lst ys => pure (pairs xs ys)
  | .tup xs, .tup ys => pure (pairs xs ys)
  | _, _ => bad
def iZp (a b : EM) : LM := fun env => a env >>= fun x => b env >>= fun y => zipL x y
end
@[simp] theorem wp_iZp {e : Ev} {s : Store} {Ψ : List D → Store → Prop} {Ξ : Xc → Store → Prop} (a b : EM) : wp (iZp a b e) s Ψ Ξ = wp (a e) s (fun x s => wp (b e) s (fun y s => wp (zipL x y) s Ψ Ξ) Ξ) Ξ := by unfold iZp; simp only [wp_bind]
@[simp] theorem wp_zip_lst {s : Store} {Ψ : List D → Store → Prop} {Ξ : Xc → Store → Prop} (a b : List D) : wp (zipL (.lst a) (.lst b)) s Ψ Ξ = Ψ (pairs a b) s := rfl
@[simp] theorem wp_zip_tup {s : Store} {Ψ : List D → Store → Prop} {Ξ : Xc → Store → Prop} (a b : List D) : wp (zipL (.tup a) (.tup b)) s Ψ Ξ = Ψ (pairs a b) s := rfl
section
variable {K : PySem.W.Frag} {mg : Str → Option Value}
inductive MixL (K : PySem.W.Frag) (mg : Str → Option Value) (H0 G : Hp) (ρ : List Addr) (H' : Hp) : List Bool → List D → List V → List Addr → Prop
  | nil : MixL K mg H0 G ρ H' [] [] [] []
  | vis {fs : List Bool} {d : D} {v : V} {ds : List D} {vs : List V} {as : List Addr} (r : Rep K mg G ρ d v) (t : MixL K mg H0 G ρ H' fs ds vs as) : MixL K mg H0 G ρ H' (false :: fs) (d :: ds) (v :: vs) as
  | own {fs : List Bool} {d : D} {a : Addr} {o : HO} {ds : List D} {vs : List V} {as : List Addr} (h : H' a = some o) (r : OwnR K mg G ρ d o) (g : G a = none) (m : a ∉ ρ) (n : H0 a = none) (t : MixL K mg H0 G ρ H' fs ds vs as) : MixL K mg H0 G ρ H' (true :: fs) (d :: ds) (.ref a :: vs) (a :: as)
theorem MixL.mono {H H0 G H' : Hp} {ρ : List Addr} {fs : List Bool} {ds : List D} {vs : List V} {as : List Addr} (k : ∀ x, H0 x = none → H x = none) (h : MixL K mg H0 G ρ H' fs ds vs as) : MixL K mg H G ρ H' fs ds vs as := by
  induction h with
  | nil => exact .nil
  | vis r _ ih => exact .vis r ih
  | own h r g m n _ ih => exact .own h r g m (k _ n) ih
theorem MixL.fresh {H0 G H' : Hp} {ρ : List Addr} {fs : List Bool} {ds : List D} {vs : List V} {as : List Addr} (h : MixL K mg H0 G ρ H' fs ds vs as) : ∀ a ∈ as, H0 a = none := by
  induction h with
  | nil => intro a ha; cases ha
  | vis _ _ ih => exact ih
  | own h r g m n _ ih =>
    intro b hb
    rcases List.mem_cons.mp hb with rfl | hb
    · exact n
    · exact ih b hb
def rM (K : PySem.W.Frag) (mg : Str → Option Value) (fs : List Bool) : Rl (List D) (List V) := ⟨fun H G ρ H' ds vs => ∃ as, MixL K mg H G ρ H' fs ds vs as ∧ as.Nodup, fun k ⟨as, h, n⟩ => ⟨as, h.mono k, n⟩⟩
end
section
variable {α β γ δ : Type} {K : PySem.W.Frag} {mg : Str → Option Value} {G H G1 H1 : Hp} {ρ ρ1 : List Addr} {S : Store}
theorem Post.thn1 {R : Rl α β} {R2 : Rl γ δ} {W : WX} {Ω : List Nat} {m : Ev → M α} {env : Ev} {σ : L2.St} {k : α → M γ} {Q : δ → Hp → Prop} {C : β → Hp → Prop} (g0 : Grow G ρ H G1 ρ1 H1) (at_ : At K mg Ω G1 ρ1 env S σ H1)
    (post : Post K mg R2 (fun c d H => W c d σ H) Q G ρ H ((m env >>= k) S))
    (c : ∀ G2 ρ2 S2 H2 a b, Grow G1 ρ1 H1 G2 ρ2 H2 → At K mg Ω G2 ρ2 env S2 σ H2 → R.r H1 G2 ρ2 H2 a b → Post K mg R2 (fun c d H => W c d σ H) Q G ρ H (k a S2) → C b H2) : tG K mg R W Ω m σ H1 C := by
  refine ⟨G1, ρ1, S, env, at_, ?_⟩
  rw [bind_app] at post
  cases e : m env S with
  | ok a S1 =>
    rw [e] at post
    exact fun G2 ρ2 H2 b s g st rl => c G2 ρ2 S1 H2 a b g (at_.grow g s st) rl post
  | exc x S1 =>
    rw [e] at post
    exact fun G2 ρ2 H2 cl od s g st ex => post G2 ρ2 H2 cl od s (g0.trans g) st ex
  | bad =>
    rw [e] at post
    exact post
end
section
variable {X : Cx} {W : WX} {fr : Bool} {en : Ent} {Ω Ω1 Ω' Ωl : List Nat} {a b c e tg it : Expr} {es : List Expr} {ma mb mc : EM} {ml : LM} {pos p tpos : Pos} {x : Str} {fs : List Bool}
abbrev pM (X : Cx) (W : WX) (Ω : List Nat) (fs : List Bool) (es : List Expr) (m : LM) : Prop := PA X es (tG X.K X.mg (rM X.K X.mg fs) W Ω m)
theorem pm_nil : pM X W Ω [] [] lNil := pa_imp pa_nil fun σ H Q ⟨G, ρ, S, env, at_, p⟩ => Post.done (S := S) (a := ([] : List D)) p at_.sub at_.st ⟨[], .nil, List.nodup_nil⟩
theorem pm_v (ha : pV X W Ω e ma) (hr : pM X W Ω fs es ml) (hs : starEach (e :: es) X.env = (false, eval e X.env) :: starEach es X.env := by rfl) : pM X W Ω (false :: fs) (e :: es) (lCons ma ml) := pa_imp (pa_cons ha hr hs) fun σ H Q ⟨G, ρ, S, env, at_, post⟩ =>
  Post.thn1 (k := fun x => ml env >>= fun xs => pure (x :: xs)) Grow.refl at_ post fun G1 ρ1 S1 H1 d v g1 at1 r1 p1 => Post.thn1 (k := fun xs => pure (d :: xs)) g1 at1 p1 fun G2 ρ2 S2 H2 ds vs g2 at2 ⟨as, r2, n2⟩ p2 => by
    have p2 : Post X.K X.mg (rM X.K X.mg (false :: fs)) (fun c d H => W c d σ H) Q G ρ H (.ok (d :: ds) S2) := p2
    exact p2 G2 ρ2 H2 _ at2.sub (g1.trans g2) at2.st ⟨as, .vis (Rep.mono g2.sub g2.pre r1) (r2.mono fun x h => g1.live x h), n2⟩
theorem pm_f (ha : pF X W Ω e ma) (hr : pM X W Ω fs es ml) (hs : starEach (e :: es) X.env = (false, eval e X.env) :: starEach es X.env := by rfl) : pM X W Ω (true :: fs) (e :: es) (lCons ma ml) := pa_imp (pa_cons ha hr hs) fun σ H Q ⟨G, ρ, S, env, at_, post⟩ =>
  Post.thn1 (k := fun x => ml env >>= fun xs => pure (x :: xs)) Grow.refl at_ post fun G1 ρ1 S1 H1 d v g1 at1 ⟨a, o, e1, e2, e3, e4, e5, e6⟩ p1 => Post.thn1 (k := fun xs => pure (d :: xs)) g1 at1 p1 fun G2 ρ2 S2 H2 ds vs g2 at2 ⟨as, r2, n2⟩ p2 => by
    have p2 : Post X.K X.mg (rM X.K X.mg (true :: fs)) (fun c d H => W c d σ H) Q G ρ H (.ok (d :: ds) S2) := p2
    subst e1
    obtain ⟨a', o', q1, q2, q3, q4, q5⟩ := Own.grow (d := d) (v := .ref a) ⟨a, o, rfl, e2, e3, e4, e5⟩ g2
    cases q1
    refine p2 G2 ρ2 H2 _ at2.sub (g1.trans g2) at2.st ⟨a :: as, .own q2 q3 q4 q5 e6 (r2.mono fun x h => g1.live x h), List.nodup_cons.mpr ⟨fun hm => ?_, n2⟩⟩
    have := r2.fresh a hm
    rw [e2] at this
    cases this
def parΩ : List Bool → List Nat → List Nat → List Nat
  | true :: fs, i :: is, Ω => parΩ fs is (i :: Ω)
  | false :: fs, _ :: is, Ω => parΩ fs is Ω
  | _, _, Ω => Ω
def parOk : List Bool → List Nat → List Nat → Bool
  | true :: fs, i :: is, Ω => parOk fs is (i :: Ω)
  | false :: fs, i :: is, Ω => decide (i ∉ Ω) && parOk fs is Ω
  | [], [], _ => true
  | _, _, _ => false
theorem Here.own2 {K : PySem.W.Frag} {mg : Str → Option Value} {G H : Hp} {ρ : List Addr} {S : Store} {env : Ev} {σ : L2.St} {i : Nat} {d : D} {a : Addr} {o : HO} (h : Here K mg en Ω G ρ env S σ H) (hm : ∀ j, j ∈ Ω' ↔ j = i ∨ j ∈ Ω) (hf : ∀ (j : Nat) (e : D), j ∈ Ω → env[j]? = some (some e) → σ[j]? ≠ some (some (.ref a)))
    (ha : H a = some o) (ro : OwnR K mg G ρ d o) (ga : G a = none) (ra : a ∉ ρ) (na : en.H a = none) : Here K mg en Ω' G ρ (env.set i (some d)) S (σ.set i (some (.ref a))) H := by
  have at_set : ∀ {j : Nat} {d' : D}, (env.set i (some d))[j]? = some (some d') → (j = i ∧ d' = d ∧ (σ.set i (some (V.ref a)))[j]? = some (some (.ref a))) ∨ (j ≠ i ∧ env[j]? = some (some d') ∧ (σ.set i (some (V.ref a)))[j]? = σ[j]?) := fun {j d'} e1 => by
    by_cases hj : i = j
    · subst hj
      by_cases hl : i < env.length
      · rw [List.getElem?_set_self hl] at e1
        cases e1
        exact .inl ⟨rfl, rfl, List.getElem?_set_self (by rw [← h.at_.ev.len]; exact hl)⟩
      · rw [List.getElem?_eq_none (by rw [List.length_set]; omega)] at e1; cases e1
    · rw [List.getElem?_set_ne hj] at e1
      exact .inr ⟨fun z => hj z.symm, e1, List.getElem?_set_ne hj⟩
  refine ⟨⟨h.at_.sub, h.at_.st, ⟨by rw [List.length_set, List.length_set, h.at_.ev.len], fun j d' e1 n => ?_, fun j d' e1 n => ?_, fun j k d1 d2 v1 n1 n2 ne e1 e2 e3 e4 => ?_⟩⟩, h.gr, fun j d' b n e1 e2 => ?_⟩
  · rcases at_set e1 with ⟨hj, _⟩ | ⟨hj, e2, e3⟩
    · exact absurd ((hm j).mpr (.inl hj)) n
    · rw [e3]
      exact h.at_.ev.val j d' e2 fun z => n ((hm j).mpr (.inr z))
  · rcases at_set e1 with ⟨hj, rfl, e3⟩ | ⟨hj, e2, e3⟩
    · exact ⟨_, e3, a, o, rfl, ha, ro, ga, ra⟩
    · rw [e3]
      exact h.at_.ev.own j d' e2 (((hm j).mp n).resolve_left hj)
  · rcases at_set e1 with ⟨hj, _, e5⟩ | ⟨hj, e5, e6⟩
    · rcases at_set e2 with ⟨hk, _⟩ | ⟨hk, e7, e8⟩
      · exact ne (hj.trans hk.symm)
      · rw [e5] at e3; cases e3
        rw [e8] at e4
        exact hf k d2 (((hm k).mp n2).resolve_left hk) e7 e4
    · rcases at_set e2 with ⟨hk, _, e9⟩ | ⟨hk, e7, e8⟩
      · rw [e9] at e4; cases e4
        rw [e6] at e3
        exact hf j d1 (((hm j).mp n1).resolve_left hj) e5 e3
      · rw [e6] at e3
        rw [e8] at e4
        exact h.at_.ev.sep j k d1 d2 v1 (((hm j).mp n1).resolve_left hj) (((hm k).mp n2).resolve_left hk) ne e5 e7 e3 e4
  · rcases at_set e1 with ⟨hj, _, e3⟩ | ⟨hj, e3, e4⟩
    · rw [e3] at e2; cases e2
      exact na
    · rw [e4] at e2
      exact h.fr j d' b (((hm j).mp n).resolve_left hj) e3 e2
theorem Here.setMix {K : PySem.W.Frag} {mg : Str → Option Value} {G H : Hp} {ρ : List Addr} {S : Store} : ∀ {fs : List Bool} {is : List Nat} {ds : List D} {vs : List V} {as : List Addr} {Ω : List Nat} {env : Ev} {σ : L2.St}, Here K mg en Ω G ρ env S σ H → MixL K mg en.H G ρ H fs ds vs as → as.Nodup → parOk fs is Ω = true →
    (∀ (j : Nat) (e : D) (b : Addr), j ∈ Ω → env[j]? = some (some e) → σ[j]? = some (some (.ref b)) → b ∉ as) → Here K mg en (parΩ fs is Ω) G ρ (Mr.setAll (is.zip ds) env) S (Mr.setAll (is.zip vs) σ) H
  | [], is, _, _, _, Ω, env, σ, h, .nil, _, ok, _ => by
    cases is with
    | nil => exact h
    | cons _ _ => exact (Bool.false_ne_true ok).elim
  | false :: fs, [], _, _, _, _, _, _, _, _, _, ok, _ => (Bool.false_ne_true ok).elim
  | true :: fs, [], _, _, _, _, _, _, _, _, _, ok, _ => (Bool.false_ne_true ok).elim
  | false :: fs, i :: is, d :: ds, v :: vs, as, Ω, env, σ, h, .vis r t, nd, ok, hf => by
    obtain ⟨ok1, ok2⟩ := Bool.and_eq_true_iff.mp ok
    have hi : i ∉ Ω := of_decide_eq_true ok1
    refine Here.setMix (fs := fs) (is := is) (h.set hi r) t nd ok2 fun j e b hj e1 e2 => ?_
    have hne : i ≠ j := fun z => hi (z ▸ hj)
    rw [List.getElem?_set_ne hne] at e1 e2
    exact hf j e b hj e1 e2
  | true :: fs, i :: is, d :: ds, _ :: vs, _ :: as, Ω, env, σ, h, .own (a := a) ha ro ga ra na t, nd, ok, hf => by
    obtain ⟨nd1, nd2⟩ := List.nodup_cons.mp nd
    have h1 : Here K mg en (i :: Ω) G ρ (env.set i (some d)) S (σ.set i (some (.ref a))) H := h.own2 (fun j => List.mem_cons) (fun j e hj e1 e2 => hf j e a hj e1 e2 (List.mem_cons_self ..)) ha ro ga ra na
    refine Here.setMix (fs := fs) (is := is) h1 t nd2 ok fun j e b hj e1 e2 => ?_
    by_cases hji : i = j
    · subst hji
      by_cases hlt : i < σ.length
      · rw [List.getElem?_set_self hlt] at e2
        cases e2
        exact nd1
      · rw [List.getElem?_eq_none (by rw [List.length_set]; omega)] at e2; cases e2
    · rw [List.getElem?_set_ne hji] at e1 e2
      rcases List.mem_cons.mp hj with z | z
      · exact absurd z.symm hji
      · exact fun hm => hf j e b z e1 e2 (List.mem_cons_of_mem _ hm)
theorem MixL.length {K : PySem.W.Frag} {mg : Str → Option Value} {H0 G H' : Hp} {ρ : List Addr} {fs : List Bool} {ds : List D} {vs : List V} {as : List Addr} (h : MixL K mg H0 G ρ H' fs ds vs as) : ds.length = fs.length ∧ vs.length = fs.length := by
  induction h with
  | nil => exact ⟨rfl, rfl⟩
  | vis _ _ ih => exact ⟨by rw [List.length_cons, List.length_cons, ih.1], by rw [List.length_cons, List.length_cons, ih.2]⟩
  | own _ _ _ _ _ _ ih => exact ⟨by rw [List.length_cons, List.length_cons, ih.1], by rw [List.length_cons, List.length_cons, ih.2]⟩
theorem parOk_len : ∀ {fs : List Bool} {is Ω : List Nat}, parOk fs is Ω = true → is.length = fs.length
  | [], [], _, _ => rfl
  | [], _ :: _, _, h => (Bool.false_ne_true h).elim
  | true :: _, [], _, h => (Bool.false_ne_true h).elim
  | false :: _, [], _, h => (Bool.false_ne_true h).elim
  | true :: fs, i :: is, Ω, h => by rw [List.length_cons, List.length_cons, parOk_len (fs := fs) (is := is) h]
  | false :: fs, i :: is, Ω, h => by rw [List.length_cons, List.length_cons, parOk_len (fs := fs) (is := is) (Bool.and_eq_true_iff.mp h).2]
theorem q_par' {st : Stmt} {t : TS} {is : List Nat} (h : PS X st t) (k : ∀ De σ H, tG X.K X.mg (rM X.K X.mg fs) W Ω ml σ H (fun vs H1 => vs.length = is.length ∧ De.nx (setAll (is.zip vs) σ) H1) → t De σ H) (ok : parOk fs is Ω = true) : qS X W fr en Ω (parΩ fs is Ω) Ωl st (sPar is ml) := ps_imp h fun De σ H ⟨G, ρ, S, env, h, p⟩ =>
  k De σ H (here_post h p fun G1 ρ1 S1 H1 ds vs gr h1 ⟨as, r, nd⟩ p1 => by
    have hl := r.length
    have hi := parOk_len ok
    have e1 : ds.length = is.length := by rw [hl.1, hi]
    simp only [if_pos e1] at p1
    refine ⟨by rw [hl.2, hi], p1 G1 ρ1 _ H1 Le.refl ?_⟩
    refine h1.setMix (r.mono fun x z => h.gr.live x z) nd ok fun j e b hj q1 q2 hm => ?_
    exact own_some h j e b hj q1 q2 (r.fresh b hm))
theorem tG_conseq {α β : Type} {K : PySem.W.Frag} {mg : Str → Option Value} {R : Rl α β} {m : Ev → M α} {σ : L2.St} {H : Hp} {C C' : β → Hp → Prop} (h : tG K mg R W Ω m σ H C) (k : ∀ b H1, C b H1 → C' b H1) : tG K mg R W Ω m σ H C' := by
  obtain ⟨G, ρ, S, env, at_, post⟩ := h
  refine ⟨G, ρ, S, env, at_, ?_⟩
  cases e : m env S with
  | ok a S1 => rw [e] at post; exact fun G1 ρ1 H1 b s g st r => k b H1 (post G1 ρ1 H1 b s g st r)
  | exc x S1 => rw [e] at post; exact post
  | bad => rw [e] at post; exact post
theorem q_par2 {i j : Nat} {x y : Str} {px py pt pos : Pos} {kt k2 pt2} (hN : X.N.Nodup) (hi : X.N[i]? = some x) (hj : X.N[j]? = some y) (ha : pM X W Ω fs [a, b] ml) (ok : parOk fs [i, j] Ω = true := by decide) (hij : i ≠ j := by decide) (hc : X.calm = true := by rfl)
    (hx : X.env.scope.names.lookup x = some .local := by rfl) (hy : X.env.scope.names.lookup y = some .local := by rfl)
    (hw : swappedStores [.Tuple [.Name x px, .Name y py] kt pt] (.Tuple [a, b] k2 pt2) X.env = pure (some [x, y]) := by rfl)
    (hs : swapsWithSole [.Tuple [.Name x px, .Name y py] kt pt] (.Tuple [a, b] k2 pt2) pos.line X.env = pure false := by rfl) :
    qS X W fr en Ω (parΩ fs [i, j] Ω) Ωl (.Assign [.Tuple [.Name x px, .Name y py] kt pt] (.Tuple [a, b] k2 pt2) pos) (sPar [i, j] ml) :=
  q_par' (ps_par hc hN hi hj hij hx hy ha hw hs) (fun De σ H h => by
    refine Mr.tG_conseq h fun vs H1 ⟨hl, q⟩ => ?_
    match vs, hl with
    | [v, w], _ => exact ⟨v, w, rfl, q⟩) ok
end
end Mr

namespace Mr
open PySem PySem.Spec PyProof.Rows L2
def MgOk (K : PySem.W.Frag) (mg : Str → Option Value) : Prop := ∀ x, (He.Fa.glo x).ok K = true → mg x = some (.ref (He.ga K x))
theorem beqS {a b : Str} (h : (a == b) = true) : a = b := by exact beq_iff_eq.mp h
section
variable {K : PySem.W.Frag} {mg : Str → Option Value} {G : Hp} {ρ : List Addr}
theorem con_tup {n : Nat} {ds : List D} {v : Value} (h : conOk K (n + 1) (.tup ds) v = true) : ∃ a its m sl, v = .ref a ∧ K.lookup a = some ⟨.type "tuple", none, .seq its m, sl⟩ ∧ ds.length ≤ 1000 ∧ ds.length = its.toList.length ∧ ∀ p ∈ ds.zip its.toList, conOk K n p.1 p.2 = true := by
  unfold conOk at h
  cases v with
  | ref a =>
    simp only at h
    split at h
    · rename_i c its m sl e
      obtain ⟨h1, h2⟩ := Bool.and_eq_true_iff.mp h
      obtain ⟨h3, h4⟩ := Bool.and_eq_true_iff.mp h2
      obtain ⟨h5, h6⟩ := Bool.and_eq_true_iff.mp h4
      have hc : c = "tuple" := beq_iff_eq.mp h1
      subst hc
      exact ⟨a, its, m, sl, rfl, e, of_decide_eq_true h3, beq_iff_eq.mp h5, List.all_eq_true.mp h6⟩
    · cases h
  | _ => cases h
theorem vals_rep {n : Nat} (ih : ∀ (d : D) (v : Value), conOk K n d v = true → ∃ u, RelV u v ∧ ∀ (mg : Str → Option Value) (G : Hp) (ρ : List Addr), MgOk K mg → Rep K mg G ρ d u) : ∀ (ds : List D) (its : List Value), ds.length = its.length → (∀ p ∈ ds.zip its, conOk K n p.1 p.2 = true) →
    ∃ us, Vals us its ∧ ∀ (mg : Str → Option Value) (G : Hp) (ρ : List Addr), MgOk K mg → RepL K mg G ρ ds us
  | [], [], _, _ => ⟨[], .nil, fun _ _ _ _ => .nil⟩
  | [], _ :: _, h, _ => by cases h
  | _ :: _, [], h, _ => by cases h
  | d :: ds, v :: its, h, k => by
    obtain ⟨u, r1, r2⟩ := ih d v (k (d, v) (List.mem_cons_self ..))
    obtain ⟨us, r3, r4⟩ := vals_rep ih ds its (Nat.succ.inj h) fun p hp => k p (List.mem_cons_of_mem _ hp)
    exact ⟨u :: us, .cons r1 r3, fun mg G ρ hk => .cons (r2 mg G ρ hk) (r4 mg G ρ hk)⟩
theorem con_rep : ∀ (n : Nat) (d : D) (v : Value), conOk K n d v = true → ∃ u, RelV u v ∧ ∀ (mg : Str → Option Value) (G : Hp) (ρ : List Addr), MgOk K mg → Rep K mg G ρ d u := by
  intro n
  induction n with
  | zero =>
    intro d v h
    unfold conOk at h
    cases d <;> cases v <;> first
      | (exfalso; exact Bool.false_ne_true h)
      | skip
    · exact ⟨.non, rfl, fun _ _ _ _ => .non⟩
    · cases beq_iff_eq.mp h; exact ⟨.bl _, rfl, fun _ _ _ _ => .bl _⟩
    · cases beq_iff_eq.mp h; exact ⟨.int _, ⟨_, rfl⟩, fun _ _ _ _ => .int _⟩
    · obtain ⟨h1, h2⟩ := Bool.and_eq_true_iff.mp h
      cases beqS h1
      exact ⟨.str _, ⟨_, rfl⟩, fun _ _ _ _ => .str _ (Nat.le_trans (of_decide_eq_true h2) (by decide))⟩
    · obtain ⟨h1, h2⟩ := Bool.and_eq_true_iff.mp h
      cases beq_iff_eq.mp h1
      exact ⟨.ref _, rfl, fun mg _ _ hk => .glo (hk _ h2)⟩
  | succ n ih =>
    intro d v h
    cases d with
    | tup ds =>
      obtain ⟨a, its, m, sl, rfl, e, h1, h2, h3⟩ := con_tup h
      obtain ⟨us, r1, r2⟩ := vals_rep ih ds its.toList h2 h3
      have hl : us.length ≤ sizeLine := by
        rw [r1.length, ← h2]
        exact Nat.le_trans h1 (by decide)
      refine ⟨.ref a, rfl, fun mg G ρ hk => .tup (.inr ⟨_, its, m, e, rfl, rfl, ?_, r1⟩) hl (r2 mg G ρ hk)⟩
      rw [← Array.length_toList, ← h2]
      exact Nat.le_trans h1 (by decide)
    | _ =>
      unfold conOk at h
      cases v <;> first
        | (exfalso; exact Bool.false_ne_true h)
        | skip
      all_goals first
        | exact ⟨.non, rfl, fun _ _ _ _ => .non⟩
        | (cases beq_iff_eq.mp h; exact ⟨.bl _, rfl, fun _ _ _ _ => .bl _⟩)
        | (cases beq_iff_eq.mp h; exact ⟨.int _, ⟨_, rfl⟩, fun _ _ _ _ => .int _⟩)
        | (obtain ⟨h1, h2⟩ := Bool.and_eq_true_iff.mp h
           cases beq_iff_eq.mp h1
           exact ⟨.ref _, rfl, fun mg _ _ hk => .glo (hk _ h2)⟩)
        | (obtain ⟨h1, h2⟩ := Bool.and_eq_true_iff.mp h
           cases beqS h1
           exact ⟨.str _, ⟨_, rfl⟩, fun _ _ _ _ => .str _ (Nat.le_trans (of_decide_eq_true h2) (by decide))⟩)
def getD (kvs : List (Tx × D)) (z : Tx) : Option D := (kvs.find? fun p => p.1 == z).map (·.2)
theorem dic_find {a : Addr} {kvs : List (Tx × D)} (h : dicOk K a kvs = true) (z : Tx) : (getD kvs z = none ∧ PySem.W.nsIn K a (toS z) = some none) ∨ ∃ d v, getD kvs z = some d ∧ PySem.W.nsIn K a (toS z) = some (some v) ∧ conOk K 5 d v = true := by
  unfold dicOk at h
  unfold PySem.W.nsIn
  split at h
  · rename_i oc od es n sl e
    rw [e]
    simp only
    obtain ⟨h1, h2⟩ := Bool.and_eq_true_iff.mp h
    have hl := beq_iff_eq.mp h1
    have hall := List.all_eq_true.mp h2
    have main : ∀ (kvs : List (Tx × D)) (es : List DictEntry), kvs.length = es.length → (∀ p ∈ kvs.zip es, ((match p.2.key with
      | .str z _ => toS p.1.1 == z
      | _ => false) && conOk K 5 p.1.2 p.2.val) = true) → (getD kvs z = none ∧ es.find? (·.key.isStr (toS z)) = none ∧ es.any (·.refKey) = false) ∨ ∃ d e, getD kvs z = some d ∧ es.find? (·.key.isStr (toS z)) = some e ∧ conOk K 5 d e.val = true := by
      intro kvs
      induction kvs with
      | nil =>
        intro es hl _
        cases es with
        | nil => exact .inl ⟨rfl, rfl, rfl⟩
        | cons _ _ => cases hl
      | cons kv kvs ih =>
        intro es hl hall
        cases es with
        | nil => cases hl
        | cons en es =>
          obtain ⟨k, dv⟩ := kv
          obtain ⟨h3, h4⟩ := Bool.and_eq_true_iff.mp (hall ((k, dv), en) (List.mem_cons_self ..))
          have ih := ih es (Nat.succ.inj hl) fun p hp => hall p (List.mem_cons_of_mem _ hp)
          obtain ⟨hh, ky, vl⟩ := en
          cases ky with
          | str y t =>
            have hy : toS k = y := beqS h3
            subst hy
            by_cases hk : k = z
            · subst hk
              refine .inr ⟨dv, _, ?_, ?_, h4⟩
              · unfold getD
                rw [List.find?_cons_of_pos (by simp)]
                rfl
              · rw [List.find?_cons_of_pos]
                rw [PySem.W.isStr_of]
                show (toS k == toS k) = true
                exact beq_self_eq_true _
            · have hne : (toS k == toS z) = false := by
                cases q : toS k == toS z with
                | false => rfl
                | true => exact absurd (toS_inj.mp (beqS q)) hk
              have e1 : getD ((k, dv) :: kvs) z = getD kvs z := by
                unfold getD
                rw [List.find?_cons_of_neg (by simpa using hk)]
              have e2 : (DictEntry.mk hh (.str (toS k) t) vl :: es).find? (·.key.isStr (toS z)) = es.find? (·.key.isStr (toS z)) := by
                rw [List.find?_cons_of_neg]
                rw [PySem.W.isStr_of]
                show ¬ (toS k == toS z) = true
                rw [hne]
                exact Bool.false_ne_true
              rw [e1, e2]
              rcases ih with ⟨q1, q2, q3⟩ | ih
              · exact .inl ⟨q1, q2, by rw [List.any_cons, q3]; rfl⟩
              · exact .inr ih
          | _ => cases h3
    rcases main kvs es.toList hl hall with ⟨q1, q2, q3⟩ | ⟨d, en, q1, q2, q3⟩
    · exact .inl ⟨q1, by rw [q2]; simp only [q3]; rfl⟩
    · exact .inr ⟨d, en.val, q1, by rw [q2], q3⟩
  · cases h
end
section
variable {X : Cx} {W : WX} {Ω : List Nat} {a b c e o : Expr} {es : List Expr} {ma mb mc : EM} {ml : LM} {pos apos p : Pos} {x : Str}
def ConF (K : PySem.W.Frag) (mg : Str → Option Value) (x : Str) (d : D) : Prop := MgOk K mg ∧ ∃ v, mg x = some v ∧ conOk K 5 d v = true
theorem con_of {K : PySem.W.Frag} {mg : Str → Option Value} {h : Heap} {exs : List (Str × D)} (X : K.In h) (G : h.Ns mainGlobals mg) (e : exOk K exs = true) (i : Nat) {x : Str} {d : D} (hi : exs[i]? = some (x, d) := by rfl) : ConF K mg x d := by
  have := List.all_eq_true.mp e (x, d) (List.mem_of_getElem? hi)
  simp only at this
  cases q : PySem.W.nsIn K mainGlobals x with
  | none => rw [q] at this; cases this
  | some r =>
    rw [q] at this
    cases r with
    | none => cases this
    | some v => exact ⟨fun y hy => He.glo_ok X G hy, v, PySem.W.mg_of X G q, this⟩
theorem pv_con {d : D} (hg : Gl X x) (f : ConF X.K X.mg x d) (hd : (x == ("__debug__" : Str)) = false := by decide) : pV X W Ω (.Name x pos) (eC d) := by
  obtain ⟨hk, v, hm, h⟩ := f
  obtain ⟨u, r1, r2⟩ := con_rep 5 d v h
  exact pv_glob hg hm r1 (fun G ρ => r2 X.mg G ρ hk) hd
structure TabF (K : PySem.W.Frag) (w : World) (mg : Str → Option Value) (x : Str) (kvs : List (Tx × D)) : Prop where
  ex : ∃ a es n, mg x = some (.ref a) ∧ KDict K w a es n ∧ dicOk K a kvs = true
  mok : MgOk K mg
def opInK (x : Str) (kvs : List (Tx × D)) : D → D → M D
  | .str z, .glo y => if y = x then pure (.bl (getD kvs z).isSome) else bad
  | _, _ => bad
def opIxK (x : Str) (kvs : List (Tx × D)) : D → D → M D
  | .glo y, .str z => if y = x then ofO (getD kvs z) else bad
  | _, _ => bad
theorem RepO.glo {K : PySem.W.Frag} {mg : Str → Option Value} {G H : Hp} {ρ : List Addr} {y : Str} {v : V} (h : RepO K mg G ρ H (.glo y) v) : ∃ a, v = .ref a ∧ mg y = some (.ref a) := by
  rcases h with h | ⟨a, o, rfl, h, r, _⟩
  · cases h with
    | glo h => exact ⟨_, rfl, h⟩
  · cases o <;> exact (show False from r).elim
theorem c_inK {kvs : List (Tx × D)} (f : TabF X.K X.w X.mg x kvs) : CmpOk X .In (opInK x kvs) := by
  obtain ⟨a, es, n, hm, D, hd⟩ := f.ex
  refine ⟨⟨_, op_in_kd D, ?_⟩⟩
  intro G ρ S H d e u v Wx Q s st rd re p
  cases d with
  | str z =>
    cases e with
    | glo y =>
      by_cases hy : y = x
      · subst hy
        simp only [opInK, if_pos rfl] at p
        obtain ⟨a', rfl, hm'⟩ := re.glo
        rw [hm] at hm'
        cases hm'
        refine ⟨toS z, (PySem.W.nsIn X.K a (toS z)).getD none, rd.str.1, rfl, ?_⟩
        rcases dic_find hd z with ⟨q1, q2⟩ | ⟨d', v', q1, q2, _⟩
        · rw [q2]
          refine ⟨rfl, ?_⟩
          rw [q1] at p
          exact Post.V (S := S) (d := .bl false) p s st (.bl _)
        · rw [q2]
          refine ⟨rfl, ?_⟩
          rw [q1] at p
          exact Post.V (S := S) (d := .bl true) p s st (.bl _)
      · simp only [opInK, if_neg hy] at p
        exact (show False from p).elim
    | _ => exact (show False from p).elim
  | _ => exact (show False from p).elim
theorem pv_ixK {kvs : List (Tx × D)} (f : TabF X.K X.w X.mg x kvs) (ha : pO X W Ω a ma) (hb : pO X W Ω b mb) (hs : PlainIx b := by intro _ _; rfl) : pV X W Ω (.Subscript a b pos) (eBin (opIxK x kvs) ma mb) := pe_imp (pe_ix ix_kdict ha hb hs) fun _ _ _ h => tOp_of (fun G ρ S H d e u v Wx Q s st rd re p => by
  obtain ⟨a, es, n, hm, D, hd⟩ := f.ex
  cases d with
  | glo y =>
    cases e with
    | str z =>
      by_cases hy : y = x
      · subst hy
        simp only [opIxK, if_pos rfl] at p
        obtain ⟨a', rfl, hm'⟩ := rd.glo
        rw [hm] at hm'
        cases hm'
        rcases dic_find hd z with ⟨q1, q2⟩ | ⟨d', v', q1, q2, q3⟩
        · rw [q1] at p
          exact (show False from p).elim
        · rw [q1] at p
          obtain ⟨w', r1, r2⟩ := con_rep 5 d' v' q3
          exact ⟨a, toS z, w', rfl, re.str.1, ⟨es, n, v', D.at_, D.lit, q2, r1⟩, Post.V (S := S) (d := d') p s st (r2 _ _ _ f.mok)⟩
      · simp only [opIxK, if_neg hy] at p
        exact (show False from p).elim
    | _ => exact (show False from p).elim
  | _ => exact (show False from p).elim) h
def idx (d : D) : List D → Option Nat
  | [] => none
  | x :: r => if D.eqv x d then some 0 else (idx d r).map (· + 1)
theorem idx_some {d : D} : ∀ {xs : List D} {j : Nat}, idx d xs = some j → ∃ z, xs[j]? = some z ∧ D.eqv z d = true ∧ ∀ (m : Nat) (z' : D), m < j → xs[m]? = some z' → D.eqv z' d = false
  | [], _, h => by cases h
  | x :: r, j, h => by
    unfold idx at h
    cases q : D.eqv x d with
    | true =>
      rw [q] at h
      cases h
      exact ⟨x, rfl, q, fun m z' hm => absurd hm (Nat.not_lt_zero _)⟩
    | false =>
      rw [q] at h
      simp only [Bool.false_eq_true, if_false] at h
      cases q2 : idx d r with
      | none => rw [q2] at h; cases h
      | some j' =>
        rw [q2] at h
        cases h
        obtain ⟨z, h1, h2, h3⟩ := idx_some q2
        refine ⟨z, h1, h2, fun m z' hm e => ?_⟩
        cases m with
        | zero => cases e; exact q
        | succ m => exact h3 m z' (Nat.lt_of_succ_lt_succ hm) e
def asLs (d : D) : M D := match d with
  | .lst xs => pure (.lst xs)
  | _ => bad
def fIndex : D → D → M D
  | .lst xs, d => if d.flat && xs.all D.flat then ofO ((idx d xs).map fun j => D.int (j : Nat)) else bad
  | _, _ => bad
def eMthL (g : D → D → M D) (a b : EM) : EM := fun env => a env >>= fun x => asLs x >>= fun x => b env >>= fun y => g x y
theorem pv_index (ho : pO X W Ω o ma) (he : pO X W Ω e mb) (hbase : attributeBase o "index" X.env (eval o X.env) = eval o X.env := by rfl) (hline : (apos.endLine == pos.line) = true := by rfl) (hs : starEach [e] X.env = (false, eval e X.env) :: starEach [] X.env := by rfl)
    (hfew : ((backTo pos (starEach [e] X.env)).all (fun x => !x.1) && (backToKw pos (keywordEach [] X.env)).all (fun x => x.1.isSome) && decide ([e].length + ([] : List Keyword).length + (if ([] : List Keyword).isEmpty then 0 else 1) < 30)) = true := by rfl) :
    pV X W Ω (.Call (.Attribute o "index" apos) [e] [] pos) (eMthL fIndex ma mb) := pe_imp (pe_bm PySem.F.plainAttrs_list PySem.F.slot_list_index PySem.F.type_list_index mt_index ho (pa_cons he pa_nil hs) hbase hfew hline hs rfl) fun σ H Q h =>
  tG.thn (k := fun x env => asLs x >>= fun x => mb env >>= fun y => fIndex x y) h fun G1 ρ1 S1 env H1 d v at1 r1 p1 => by
    cases d with
    | lst xs =>
      obtain ⟨q, vs, rfl, h1, _, _⟩ := r1.lst at1.sub
      refine ⟨.inl ⟨rfl, vs, SqL.of h1⟩, ?_⟩
      have p1 : Post X.K X.mg (rV X.K X.mg) (fun c d H => W c d σ H) Q G1 ρ1 H1 ((mb env >>= fun y => fIndex (.lst xs) y) S1) := p1
      refine p1.thn at1 fun G2 ρ2 S2 H2 e w g at2 r2 p2 => ?_
      obtain ⟨q', vs2, e1, h2, rr, _⟩ := (RepO.grow r1 g).lst at2.sub
      cases e1
      unfold fIndex at p2
      by_cases hz : (e.flat && xs.all D.flat) = true
      · simp only [if_pos hz] at p2
        obtain ⟨z1, z2⟩ := Bool.and_eq_true_iff.mp hz
        have re := r2.flatV z1
        cases hi : idx e xs with
        | none => rw [hi] at p2; exact (show False from p2).elim
        | some j =>
          rw [hi] at p2
          obtain ⟨zd, k1, k2, k3⟩ := idx_some hi
          obtain ⟨zv, k4, k5⟩ := rr.at k1
          have fz : zd.flat = true := List.all_eq_true.mp z2 zd (List.mem_of_getElem? k1)
          refine ⟨q, vs2, w, j, zv, rfl, rfl, SqL.of h2, flat_V (H := H2) re z1, flat_all (H := H2) rr z2, k4, ?_, fun m z' hm hz' => ?_, ?_⟩
          · rw [flat_eq (H := H2) k5 re fz z1]; exact k2
          · obtain ⟨dz, k6, k7⟩ := rr.get hz'
            rw [flat_eq (H := H2) k7 re (List.all_eq_true.mp z2 dz (List.mem_of_getElem? k6)) z1]
            exact k3 m dz hm k6
          · exact Post.V (S := S2) (d := .int (j : Nat)) p2 at2.sub at2.st (.int _)
      · simp only [if_neg hz] at p2
        exact (show False from p2).elim
    | _ => exact (show False from p1).elim
def fIdxT (ts : List Tx) : D → M D
  | .str z => ofO ((idx (.str z) (ts.map D.str)).map fun j => D.int (j : Nat))
  | _ => bad
theorem vals_strs : ∀ {ts : List Tx} {its : List Value} {n : Nat}, (ts.map D.str).length = its.length → (∀ p ∈ (ts.map D.str).zip its, conOk X.K n p.1 p.2 = true) → Vals ((ts.map toS).map V.str) its
  | [], [], _, _, _ => .nil
  | [], _ :: _, _, h, _ => by cases h
  | _ :: _, [], _, h, _ => by cases h
  | t :: ts, v :: its, n, h, k => by
    have h1 := k (.str t, v) (List.mem_cons_self ..)
    refine .cons ?_ (vals_strs (n := n) (Nat.succ.inj h) fun p hp => k p (List.mem_cons_of_mem _ hp))
    unfold conOk at h1
    cases v <;> first
      | (exfalso; exact Bool.false_ne_true h1)
      | skip
    obtain ⟨h2, _⟩ := Bool.and_eq_true_iff.mp h1
    cases beqS h2
    exact ⟨_, rfl⟩
theorem pv_tupIx {ts : List Tx} (hg : Gl X x) (f : ConF X.K X.mg x (.tup (ts.map D.str))) (he : pO X W Ω e mb) (hd : (x == ("__debug__" : Str)) = false := by decide) (hbase : attributeBase (.Name x p) "index" X.env (eval (.Name x p) X.env) = eval (.Name x p) X.env := by rfl) (hline : (apos.endLine == pos.line) = true := by rfl)
    (hs : starEach [e] X.env = (false, eval e X.env) :: starEach [] X.env := by rfl)
    (hfew : ((backTo pos (starEach [e] X.env)).all (fun x => !x.1) && (backToKw pos (keywordEach [] X.env)).all (fun x => x.1.isSome) && decide ([e].length + ([] : List Keyword).length + (if ([] : List Keyword).isEmpty then 0 else 1) < 30)) = true := by rfl) :
    pV X W Ω (.Call (.Attribute (.Name x p) "index" apos) [e] [] pos) (eUn (fIdxT ts) mb) := by
  obtain ⟨_, v, hm, h⟩ := f
  obtain ⟨a, its, m, sl, rfl, e0, h1, h2, h3⟩ := con_tup h
  refine pe_imp (pe_bm PySem.F.plainAttrs_tuple PySem.F.slot_tuple_index PySem.F.type_tuple_index mt_tup_index (pe_glob (v := .ref a) hg hm rfl hd) (pa_cons he pa_nil hs) hbase hfew hline hs rfl) fun σ H Q h => ?_
  refine ⟨.inr (.inl ⟨rfl, _, e0, rfl, rfl⟩), ?_⟩
  refine tG.thn (k := fun x _ => fIdxT ts x) h fun G1 ρ1 S1 env H1 d w at1 r1 p1 => ?_
  cases d with
  | str z =>
    unfold fIdxT at p1
    cases hi : idx (.str z) (ts.map D.str) with
    | none => simp only [hi] at p1; exact (show False from p1).elim
    | some j =>
      simp only [hi] at p1
      obtain ⟨zd, k1, k2, k3⟩ := idx_some hi
      rw [List.getElem?_map] at k1
      cases ht : ts[j]? with
      | none => rw [ht] at k1; cases k1
      | some t =>
        rw [ht] at k1
        cases k1
        have e1 : t = z := by simpa [D.eqv] using k2
        subst e1
        refine ⟨a, ts.map toS, toS t, j, rfl, by rw [r1.str.1], .inr ⟨_, its, m, e0, rfl, rfl, ?_, vals_strs h2 h3⟩, by rw [List.getElem?_map, ht]; rfl, fun m' hm' hc => ?_, ?_⟩
        · rw [← Array.length_toList, ← h2]
          exact Nat.le_trans h1 (by decide)
        · rw [List.getElem?_map] at hc
          cases ht' : ts[m']? with
          | none => rw [ht'] at hc; cases hc
          | some t' =>
            rw [ht'] at hc
            have e2 : toS t' = toS t := Option.some.inj hc
            have := k3 m' (.str t') hm' (by rw [List.getElem?_map, ht']; rfl)
            rw [toS_inj.mp e2] at this
            simp [D.eqv] at this
        · exact Post.V (S := S1) (d := .int (j : Nat)) p1 at1.sub at1.st (.int _)
  | _ => exact (show False from p1).elim
end
end Mr

namespace Mr
open PySem PySem.Spec PyProof.Rows L2
structure Tu (K : PySem.W.Frag) (w : World) (mg : Str → Option Value) (h : Heap) (fa : List He.Fa) (fn : List He.DefD) (exs : List (Str × D)) (ts : List (Str × List (Tx × D))) (tabs : List He.Tab) : Prop where
  t : Tt K mg h fa fn
  ex : exB exs ts K = true
  tb : ∀ (i : Nat) (t : He.Tab), tabs[i]? = some t → ∃ es n, KDict K w (t.1 K) es n
section
variable {P : Program} {w : World} {K : PySem.W.Frag} {mg : Str → Option Value} {base h : Heap} {fa : List He.Fa} {fn : List He.DefD} {exs : List (Str × D)} {ts : List (Str × List (Tx × D))} {tabs : List He.Tab}
theorem Tu.of (X : K.In h) (G : h.Ns mainGlobals mg) (c : He.SaysX fa fn tabs [] (exB exs ts) w h K) : Tu K w mg h fa fn exs ts tabs := ⟨⟨X, G, c.t.d⟩, c.more, fun i t e => c.t.tab i e⟩
theorem Tu.con (T : Tu K w mg h fa fn exs ts tabs) (i : Nat) {x : Str} {d : D} (hi : exs[i]? = some (x, d) := by rfl) : ConF K mg x d := con_of T.t.X T.t.G (Bool.and_eq_true_iff.mp T.ex).1 i hi
theorem Tu.tab (T : Tu K w mg h fa fn exs ts tabs) (i k : Nat) {x : Str} {kvs : List (Tx × D)} {ks : List Str} (hi : ts[i]? = some (x, kvs) := by rfl) (hj : tabs[i]? = some (fun K => He.ga K x, ks) := by rfl) (hk : fa[k]? = some (.glo x) := by rfl) : TabF K w mg x kvs := by
  obtain ⟨es, n, D⟩ := T.tb i _ hj
  exact ⟨⟨He.ga K x, es, n, T.t.glo k hk, D, List.all_eq_true.mp (Bool.and_eq_true_iff.mp T.ex).2 (x, kvs) (List.mem_of_getElem? hi)⟩, fun y hy => He.glo_ok T.t.X T.t.G hy⟩
theorem df_bad {x qual : Str} {params : Arguments} {body : List Stmt} {scope : Scope} {f : Addr} {ps : List Str} {k : Nat} {fr : Bool} (hm : mg x = some (.ref f)) (F : ∃ fd, FunD K x qual params body scope [] [] f fd)
    (bd : ∀ (kV doc pm : Value) (an : Option Addr) (cdv ct : Value) (us : List Value), us.length = ps.length → bindArgs (PySem.W.fnOf x qual params body scope .none kV doc pm an cdv ct) ⟨us, []⟩ = pure (ps.zip us)) : Df P w K mg base x k fr ps.length (fun _ => bad) := by
  obtain ⟨fd, F⟩ := F
  refine ⟨f, fd, ps, hm, F.kp, F.bindsN bd, fun vs H Q E h => h.1, fun A outer s H args us vs Q E _ _ _ _ h => ?_⟩
  obtain ⟨_, _, _, _, _, _, _, _, post⟩ := h
  exact (show False from post).elim
end
section
variable {X : Cx} {W : WX} {fr : Bool} {Ω : List Nat} {e : Expr} {es : List Expr} {ml : LM} {p pos : Pos} {x : Str} {k j n : Nat} {m : List D → M D}
theorem p_callRV (d : Df X.prog X.w X.K X.mg X.base x j false n m) (hj : j ≤ k) (hr : Room k X.A) (tk : L2N.Takes X W) (hg : Gl X x) (ha : pL X W Ω (e :: es) ml) (hn : (e :: es).length = n := by rfl) (hdb : (x == ("__debug__" : Str)) = false := by decide)
    (he : starEach (e :: es) X.env = (false, eval e X.env) :: starEach es X.env := by rfl) (hpl : (backTo pos (starEach es X.env)).any (·.1) = false := by rfl) : pV X W Ω (.Call (.Name x p) (e :: es) [] pos) (eFn m ml) := p_call d hr tk hg ha hn hj hdb he hpl
theorem p_callV (d : Df X.prog X.w X.K X.mg X.base x j false n m) (hr : Room k X.A) (tk : L2N.Takes X W) (hg : Gl X x) (ha : pL X W Ω (e :: es) ml) (hn : (e :: es).length = n := by rfl) (hj : j ≤ k := by decide) (hdb : (x == ("__debug__" : Str)) = false := by decide)
    (he : starEach (e :: es) X.env = (false, eval e X.env) :: starEach es X.env := by rfl) (hpl : (backTo pos (starEach es X.env)).any (·.1) = false := by rfl) : pV X W Ω (.Call (.Name x p) (e :: es) [] pos) (eFn m ml) := p_call d hr tk hg ha hn hj hdb he hpl
end
section
variable {X : Cx} {W : WX} {fr : Bool} {en : Ent} {Ω Ω1 Ω' Ωl : List Nat} {a b c e tg it : Expr} {es : List Expr} {ma mb mc : EM} {ml : LM} {pos p tpos : Pos} {x : Str} {fs : List Bool}
theorem MixL.grow {K : PySem.W.Frag} {mg : Str → Option Value} {H0 G H1 H2 G2 : Hp} {ρ ρ2 : List Addr} {fs : List Bool} {ds : List D} {vs : List V} {as : List Addr} (h : MixL K mg H0 G ρ H1 fs ds vs as) (g : Grow G ρ H1 G2 ρ2 H2) : MixL K mg H0 G2 ρ2 H2 fs ds vs as := by
  induction h with
  | nil => exact .nil
  | vis r _ ih => exact .vis (r.mono g.sub g.pre) ih
  | own h r gn m n _ ih =>
    obtain ⟨a', o', q1, q2, q3, q4, q5⟩ := Own.grow ⟨_, _, rfl, h, r, gn, m⟩ g
    cases q1
    exact .own q2 q3 q4 q5 n ih
end
@[simp] theorem wpS_par {e : Ev} {s : Store} {k : Kt} (is : List Nat) (m : LM) : wpS (sPar is m) e s k = wp (m e) s (fun ds s' => if ds.length = is.length then k.nx (setAll (is.zip ds) e) s' else False) (fun x s' => k.ex x e s') := by
  unfold sPar
  rw [wpS_sE]
  congr 1
  funext ds s'
  split <;> rfl
end Mr

namespace Mr
open PySem PySem.Spec PyProof.Rows L2
mutual
def D.closed : D → Bool
  | .tup xs | .lst xs => D.closedL xs
  | .dic _ _ => false
  | .ref _ => false
  | _ => true
def D.closedL : List D → Bool
  | [] => true
  | x :: xs => x.closed && D.closedL xs
end
section
variable {K : PySem.W.Frag} {mg : Str → Option Value} {G H : Hp} {ρ : List Addr}
mutual
theorem Rep.close (ρ' : List Addr) : ∀ {d : D} {v : V}, Rep K mg G ρ d v → d.closed = true → Rep K mg G ρ' d v
  | _, _, .non, _ => .non
  | _, _, .bl b, _ => .bl b
  | _, _, .int i, _ => .int i
  | _, _, .str s h, _ => .str s h
  | _, _, .tup h z r, c => .tup h z (RepL.close ρ' r (by simpa [D.closed] using c))
  | _, _, .lst h z r, c => .lst h z (RepL.close ρ' r (by simpa [D.closed] using c))
  | _, _, .dic h r q, c => absurd c (by simp [D.closed])
  | _, _, .ref h, c => absurd c (by simp [D.closed])
  | _, _, .ty n, _ => .ty n
  | _, _, .glo h, _ => .glo h
  | _, _, .exc h, _ => .exc h
  | _, _, .clo a, _ => .clo a
theorem RepL.close (ρ' : List Addr) : ∀ {ds : List D} {vs : List V}, RepL K mg G ρ ds vs → D.closedL ds = true → RepL K mg G ρ' ds vs
  | _, _, .nil, _ => .nil
  | d :: ds, _, .cons h t, c => by
    have c' : d.closed = true ∧ D.closedL ds = true := by simpa [D.closedL] using c
    exact .cons (Rep.close ρ' h c'.1) (RepL.close ρ' t c'.2)
end
theorem RepO.whole {U : Hp} {d : D} {v : V} (s : Same G U) (u : ∀ a o, H a = some o → (∀ ps, o ≠ .tbl ps) → U a = some o) (h : RepO K mg G ρ H d v) (c : d.closed = true) : Rep K mg U [] d v := by
  rcases h with h | ⟨a, o, rfl, h, r, _⟩
  · exact Rep.close [] (Rep.mono s (fun _ _ q => q) h) c
  · cases d <;> cases o <;> first
      | exact (show False from r).elim
      | exact .lst (u _ _ h (fun ps z => by cases z)) r.1 (RepL.close [] (RepL.mono s (fun _ _ q => q) r.2) (by simpa [D.closed] using c))
      | exact absurd c (by simp [D.closed])
inductive RepOL (K : PySem.W.Frag) (mg : Str → Option Value) (G : Hp) (ρ : List Addr) (H : Hp) : List D → List V → Prop
  | nil : RepOL K mg G ρ H [] []
  | cons {d : D} {v : V} {ds : List D} {vs : List V} (h : RepO K mg G ρ H d v) (t : RepOL K mg G ρ H ds vs) : RepOL K mg G ρ H (d :: ds) (v :: vs)
theorem RepOL.whole {U : Hp} (s : Same G U) (u : ∀ a o, H a = some o → (∀ ps, o ≠ .tbl ps) → U a = some o) : ∀ {ds : List D} {vs : List V}, RepOL K mg G ρ H ds vs → D.closedL ds = true → RepL K mg U [] ds vs
  | _, _, .nil, _ => .nil
  | d :: ds, _, .cons h t, c => by
    have c' : d.closed = true ∧ D.closedL ds = true := by simpa [D.closedL] using c
    exact .cons (h.whole s u c'.1) (RepOL.whole s u t c'.2)
end
def lendM (m : List D → M D) (ds : List D) : M D := fun s => if D.closedL ds then (match m ds [] with
  | .ok d _ => if d.flat then .ok d s else .bad
  | _ => .bad) else .bad
def eFnB (m : List D → M D) (as : LM) : EM := fun env => as env >>= fun xs => lendM m xs
@[simp] theorem wp_eFnB {e : Ev} {s : Store} {Φ : D → Store → Prop} {Ξ : Xc → Store → Prop} (f : List D → M D) (l : LM) : wp (eFnB f l e) s Φ Ξ = wp (l e) s (fun x s => wp (lendM f x) s Φ Ξ) Ξ := by unfold eFnB; simp only [wp_bind]
end Mr

namespace Mr
open PySem PySem.Spec PyProof.Rows L2
def stripT (a b : Tx) : Tx := ((Txt.stripChars (toS a) (toS b)).cps.toList).map Char.ofNat
def fStrip : D → D → M D
  | .str a, .str b => if toS (stripT a b) = Txt.stripChars (toS a) (toS b) ∧ (stripT a b).length ≤ 1000000 then pure (.str (stripT a b)) else bad
  | _, _ => bad
section
variable {X : Cx} {W : WX} {Ω : List Nat} {e o : Expr} {ma mb : EM} {pos p apos : Pos}
theorem pv_strip (ho : pO X W Ω o ma) (he : pO X W Ω e mb) (hs : starEach [e] X.env = [(false, eval e X.env)] := by rfl) (hbase : attributeBase o "strip" X.env (eval o X.env) = eval o X.env := by rfl) (hline : (apos.endLine == pos.line) = true := by rfl) :
    pV X W Ω (.Call (.Attribute o "strip" apos) [e] [] pos) (eMeth fStrip ma mb) := pe_imp (pe_m1 PySem.F.slot_str_strip PySem.F.type_str_strip mt_stripChars ho he hs hbase hline) fun σ H Q h =>
  tG.thn (k := fun x env => asS x >>= fun x => mb env >>= fun y => fStrip x y) h fun G1 ρ1 S1 env H1 d v at1 r1 p1 => by
    cases d with
    | str s =>
      obtain ⟨rfl, hz⟩ := r1.str
      refine ⟨⟨_, rfl⟩, ?_⟩
      have p1 : Post X.K X.mg (rV X.K X.mg) (fun c d H => W c d σ H) Q G1 ρ1 H1 ((mb env >>= fun y => fStrip (.str s) y) S1) := p1
      refine p1.thn at1 fun G2 ρ2 S2 H2 e w g at2 r2 p2 => ?_
      cases e with
      | str cs =>
        obtain ⟨rfl, hz2⟩ := r2.str
        by_cases hl : toS (stripT s cs) = Txt.stripChars (toS s) (toS cs) ∧ (stripT s cs).length ≤ 1000000
        · simp only [fStrip, if_pos hl] at p2
          refine ⟨toS s, toS cs, rfl, rfl, by rw [toS_length]; exact hz, ?_⟩
          rw [← hl.1]
          exact Post.V (S := S2) (d := .str (stripT s cs)) p2 at2.sub at2.st (.str _ (Nat.le_trans hl.2 (by decide)))
        · simp only [fStrip, if_neg hl] at p2
          exact (show False from p2).elim
      | _ => exact (show False from p2).elim
    | _ => exact (show False from p1).elim
end
end Mr

namespace Mr
open PySem PySem.Spec PyProof.Rows L2
def behind (i : Nat) : SR → SR
  | .nx e s => .nx (e.set i none) s
  | .brk e s => .brk (e.set i none) s
  | .cnt e s => .cnt (e.set i none) s
  | .ret d s => .ret d s
  | _ => .bad
def sTry (C : Str) (i : Nat) (b k : SM) : SM := fun e s => match b e s with
  | .exc x e' s' => if subX x.cls C then (match x.args with
    | [] => behind i (k (e'.set i (some (.exc x.cls []))) s')
    | _ => .bad) else .exc x e' s'
  | r => r
end Mr

namespace Mr
open PySem PySem.Spec PyProof.Rows L2
structure FnA (P : Program) (w : World) (K : PySem.W.Frag) (mg : Str → Option Value) (base : Heap) (CX : CXT) (k : Nat) (f : Addr) (fd : FuncData) (ps : List Str) (sp : Sp) : Prop where
  len : ∀ vs H Q E, sp vs H Q E → vs.length = ps.length
  run : ∀ (A : Around) (outer : List Env) (s : Shared) (H : Hp) (as : Args) (us : List Value) (vs : List V) (Q : VK) (E : XK), L2H.RoomH k A → Env0 P w K mg base A outer s H → BindsTo s fd as (ps.zip us) → Vals vs us → sp vs H Q E → codeAny (model P w) A (.call (.ref f) as) (CR CX outer P w H s Q E) s
theorem FnA.mono {P : Program} {w : World} {K : PySem.W.Frag} {mg : Str → Option Value} {base : Heap} {CX : CXT} {j k : Nat} {f : Addr} {fd : FuncData} {ps : List Str} {sp : Sp} (F : FnA P w K mg base CX j f fd ps sp) (h : j ≤ k) : FnA P w K mg base CX k f fd ps sp :=
  ⟨F.len, fun A outer s H as us vs Q E hr => F.run A outer s H as us vs Q E (hr.mono h)⟩
theorem FnA.ok {P : Program} {w : World} {K : PySem.W.Frag} {mg : Str → Option Value} {base : Heap} {CX : CXT} {k : Nat} {f : Addr} {fd : FuncData} {ps : List Str} {sp : Sp} (F : FnA P w K mg base CX k f fd ps sp) : FnOk P w K mg base CX k f fd ps sp :=
  ⟨F.len, fun A outer s H as us vs Q E hr => F.run A outer s H as us vs Q E (L2H.roomH_of hr)⟩
section
variable {X : Cx} {W : WX} {Ω : List Nat} {e : Expr} {ma : EM} {p pos : Pos}
theorem RepO.exc {K : PySem.W.Frag} {mg : Str → Option Value} {G H : Hp} {ρ : List Addr} {c : Str} {v : V} (h : RepO K mg G ρ H (.exc c []) v) (s : Same G H) : ∃ a, v = .ref a ∧ H a = some (ExX K c a) := by
  rcases h with h | ⟨a, o, rfl, h, r, _⟩
  · cases h with
    | exc h => exact ⟨_, rfl, s _ _ h⟩
  · cases o <;> exact (show False from r).elim
end
end Mr

namespace Mr
open PySem PySem.Spec PyProof.Rows L2
@[simp] theorem wp_eMthL {e : Ev} {s : Store} {Φ : D → Store → Prop} {Ξ : Xc → Store → Prop} (g : D → D → M D) (a b : EM) : wp (eMthL g a b e) s Φ Ξ = wp (a e) s (fun x s => wp (asLs x) s (fun x s => wp (b e) s (fun y s => wp (g x y) s Φ Ξ) Ξ) Ξ) Ξ := by unfold eMthL; simp only [wp_bind]
def tryK (C : Str) (i : Nat) (k : SM) (κ : Kt) (x : Xc) (e : Ev) (s : Store) : Prop := if subX x.cls C = true then (match x.args with
  | [] => wpS k (e.set i (some (.exc x.cls []))) s { κ with nx := fun e2 s2 => κ.nx (e2.set i none) s2, bk := fun e2 s2 => κ.bk (e2.set i none) s2, ct := fun e2 s2 => κ.ct (e2.set i none) s2, ex := fun _ _ _ => False }
  | _ => False) else κ.ex x e s
@[simp] theorem wpS_try {C : Str} {i : Nat} {b k : SM} {e : Ev} {s : Store} {κ : Kt} : wpS (sTry C i b k) e s κ = wpS b e s { κ with ex := tryK C i k κ } := by
  unfold wpS sTry
  cases b e s with
  | exc x e' s' =>
    simp only [wpR, tryK]
    by_cases h : subX x.cls C = true
    · rw [if_pos h, if_pos h]
      cases x.args with
      | nil =>
        simp only [wpS]
        cases k (e'.set i (some (.exc x.cls []))) s' <;> rfl
      | cons _ _ => rfl
    · rw [if_neg h, if_neg h]
  | _ => rfl
end Mr

namespace Mr
open PySem PySem.Spec PyProof.Rows L2
structure Tw (K : PySem.W.Frag) (w : World) (mg : Str → Option Value) (base h : Heap) (fa : List He.Fa) (fn : List He.DefD) (exs : List (Str × D)) (ts : List (Str × List (Tx × D))) (tabs : List He.Tab) (tf : List He.Defn) (xs : List Str) : Prop where
  u : Tu K w mg h fa fn exs ts tabs
  mo : mkB K tf = true
  tb : ∀ p ∈ tf, LamX.TabB base mg (He.cT K p).1 (He.cT K p).2
  cs : ∀ c ∈ xs, clsB K c = true
  hd : ∀ p ∈ tf, PySem.W.codeHdIn K (He.cT K p).1 (He.cT K p).2 = true
  sy : sysB K = true
section
variable {w : World} {K : PySem.W.Frag} {mg : Str → Option Value} {base h : Heap} {fa : List He.Fa} {fn : List He.DefD} {exs : List (Str × D)} {ts : List (Str × List (Tx × D))} {tabs : List He.Tab} {tf : List He.Defn} {xs : List Str}
theorem exC_b (e : exC exs ts tf xs K = true) : exB exs ts K = true := (Bool.and_eq_true_iff.mp e).1
theorem exC_m (e : exC exs ts tf xs K = true) : mkB K tf = true := (Bool.and_eq_true_iff.mp (Bool.and_eq_true_iff.mp e).2).1
theorem exC_c (e : exC exs ts tf xs K = true) : ∀ c ∈ xs, clsB K c = true := fun c hc => List.all_eq_true.mp (Bool.and_eq_true_iff.mp (Bool.and_eq_true_iff.mp (Bool.and_eq_true_iff.mp e).2).2).1 c hc
theorem exC_s (e : exC exs ts tf xs K = true) : sysB K = true := (Bool.and_eq_true_iff.mp (Bool.and_eq_true_iff.mp (Bool.and_eq_true_iff.mp e).2).2).2
theorem Tw.of (X : K.In h) (G : h.Ns mainGlobals mg) (c : He.SaysX fa fn tabs tf (exC exs ts tf xs) w h K) (tb : ∀ p ∈ tf, LamX.TabB base mg (He.cT K p).1 (He.cT K p).2) : Tw K w mg base h fa fn exs ts tabs tf xs :=
  ⟨⟨⟨X, G, c.t.d⟩, exC_b c.more, fun i t e => c.t.tab i e⟩, exC_m c.more, tb, exC_c c.more, c.hd, exC_s c.more⟩
theorem Tw.cl (T : Tw K w mg base h fa fn exs ts tabs tf xs) (i : Nat) {c : Str} (e : xs[i]? = some c := by rfl) : clsB K c = true := T.cs c (List.mem_of_getElem? e)
theorem tabs_start (m : mkB K tf = true) (hd : ∀ p ∈ tf, PySem.W.codeHdIn K (He.cT K p).1 (He.cT K p).2 = true) {H : Hp} (t : ∀ p ∈ tf.map (He.cT K), H p.2 = some (.tbl #[])) : TabsAll K H := fun p hp c => by
  have q := List.all_eq_true.mp (Bool.and_eq_true_iff.mp m).1 p hp
  rw [c] at q
  have q : tf.contains p = true := by simpa using q
  have q : p ∈ tf := by simpa using q
  exact LamX.TabS.nil (t _ (List.mem_map.mpr ⟨p, q, rfl⟩))
end
def sTry0 (C : Str) (b k : SM) : SM := fun e s => match b e s with
  | .exc x e' s' => if subX x.cls C then (match k e' s' with
    | .exc _ _ _ => .bad
    | r => r) else .exc x e' s'
  | r => r
def tryK0 (C : Str) (k : SM) (κ : Kt) (x : Xc) (e : Ev) (s : Store) : Prop := if subX x.cls C = true then wpS k e s { κ with ex := fun _ _ _ => False } else κ.ex x e s
@[simp] theorem wpS_try0 {C : Str} {b k : SM} {e : Ev} {s : Store} {κ : Kt} : wpS (sTry0 C b k) e s κ = wpS b e s { κ with ex := tryK0 C k κ } := by
  unfold wpS sTry0
  cases b e s with
  | exc x e' s' =>
    simp only [wpR, tryK0]
    by_cases h : subX x.cls C = true
    · rw [if_pos h, if_pos h]
      simp only [wpS]
      cases k e' s' <;> rfl
    · rw [if_neg h, if_neg h]
  | _ => rfl
def numsD (hi : Int) (n : Nat) : List D := (List.range n).map fun i => D.int (hi - (i : Nat))
def rngD : D → D → M (List D)
  | .int i, .int j => if -1000000 ≤ i ∧ i ≤ 1000000 ∧ -1000000 ≤ j ∧ j ≤ 1000000 then pure (numsD i (i - j).toNat) else bad
  | _, _ => bad
def iRngD (a b : EM) : LM := fun env => a env >>= fun x => b env >>= fun y => rngD x y
@[simp] theorem wp_iRngD {e : Ev} {s : Store} {Ψ : List D → Store → Prop} {Ξ : Xc → Store → Prop} (a b : EM) : wp (iRngD a b e) s Ψ Ξ = wp (a e) s (fun x s => wp (b e) s (fun y s => wp (rngD x y) s Ψ Ξ) Ξ) Ξ := by unfold iRngD; simp only [wp_bind]
end Mr

namespace Mr
open PySem PySem.Spec PyProof.Rows L2
abbrev KM := Ev → M (List (Tx × D))
def kNil : KM := fun _ => pure []
def asT : D → M Tx
  | .str x => pure x
  | _ => bad
def kCons (a b : EM) (r : KM) : KM := fun env => a env >>= fun x => asT x >>= fun x => b env >>= fun y => r env >>= fun l => pure ((x, y) :: l)
def mkDic (l : List (Tx × D)) : M D := if (l.map (·.1)).Nodup ∧ l.length ≤ 15 then pure (.dic (l.map fun p => .str p.1) (l.map fun p => p.2)) else bad
def eDisp (k : KM) : EM := fun env => k env >>= mkDic
section
variable {K : PySem.W.Frag} {mg : Str → Option Value} {G G1 H H1 : Hp} {ρ ρ1 : List Addr} {S : Store}
inductive RepP (K : PySem.W.Frag) (mg : Str → Option Value) (G : Hp) (ρ : List Addr) : List (Tx × D) → List (V × V) → Prop
  | nil : RepP K mg G ρ [] []
  | cons {x : Tx} {d : D} {v : V} {l : List (Tx × D)} {q : List (V × V)} (z : x.length ≤ sizeLine) (h : Rep K mg G ρ d v) (t : RepP K mg G ρ l q) : RepP K mg G ρ ((x, d) :: l) ((.str (toS x), v) :: q)
theorem RepP.pairs : ∀ {l : List (Tx × D)} {q : List (V × V)}, RepP K mg G ρ l q → ∃ kvs : List (Key × V), q = kvs.map (fun kv => (kV kv.1, kv.2)) ∧ kvs.length = l.length ∧ kvs.map (·.1) = l.map (fun p => (Sum.inr (toS p.1) : Key)) ∧ RepL K mg G ρ (l.map fun p => p.2) (kvs.map (·.2)) ∧ RepL K mg G ρ (l.map fun p => .str p.1) (kvs.map fun p => kV p.1)
  | _, _, .nil => ⟨[], rfl, rfl, rfl, .nil, .nil⟩
  | _, _, .cons (x := x) (v := v) z h t => by
    obtain ⟨kvs, e1, e2, e3, e4, e5⟩ := t.pairs
    exact ⟨(Sum.inr (toS x), v) :: kvs, by rw [e1]; rfl, by simp [e2], by simp [e3], .cons h e4, .cons (.str x z) e5⟩
end
@[simp] theorem wp_kNil {e : Ev} {s : Store} {Ψ : List (Tx × D) → Store → Prop} {Ξ : Xc → Store → Prop} : wp (kNil e) s Ψ Ξ = Ψ [] s := rfl
@[simp] theorem wp_asT {x : Tx} {s : Store} {Ψ : Tx → Store → Prop} {Ξ : Xc → Store → Prop} : wp (asT (.str x)) s Ψ Ξ = Ψ x s := rfl
@[simp] theorem wp_kCons {e : Ev} {s : Store} {Ψ : List (Tx × D) → Store → Prop} {Ξ : Xc → Store → Prop} (a b : EM) (r : KM) : wp (kCons a b r e) s Ψ Ξ = wp (a e) s (fun x s => wp (asT x) s (fun x s => wp (b e) s (fun y s => wp (r e) s (fun l s => Ψ ((x, y) :: l) s) Ξ) Ξ) Ξ) Ξ := by unfold kCons; simp only [wp_bind, wp_pure]
@[simp] theorem wp_eDisp {e : Ev} {s : Store} {Φ : D → Store → Prop} {Ξ : Xc → Store → Prop} (k : KM) : wp (eDisp k e) s Φ Ξ = wp (k e) s (fun l s => wp (mkDic l) s Φ Ξ) Ξ := by unfold eDisp; simp only [wp_bind]
def dFind : List D → List D → Tx → Option D
  | .str x :: ks, v :: vs, z => if x = z then some v else dFind ks vs z
  | _, _, _ => none
def dTexts : List D → Bool
  | [] => true
  | .str _ :: r => dTexts r
  | _ => false
def fGet : D → D → D → M D
  | .dic ks vs, .str z, d => if dTexts ks then pure ((dFind ks vs z).getD d) else bad
  | .dic ks _, .non, d => if dTexts ks then pure d else bad
  | _, _, _ => bad
def eGet (o a b : EM) : EM := fun env => o env >>= fun x => a env >>= fun y => b env >>= fun z => fGet x y z
section
variable {X : Cx} {W : WX} {Ω : List Nat} {a b e o f : Expr} {ma mb mo : EM} {pos cpos apos : Pos}
def isDic : D → Bool
  | .dic _ _ => true
  | _ => false
def asD1 (d : D) : M D := if isDic d then pure d else bad
end
@[simp] theorem wp_eGet {e : Ev} {s : Store} {Φ : D → Store → Prop} {Ξ : Xc → Store → Prop} (o a b : EM) : wp (eGet o a b e) s Φ Ξ = wp (o e) s (fun x s => wp (a e) s (fun y s => wp (b e) s (fun z s => wp (fGet x y z) s Φ Ξ) Ξ) Ξ) Ξ := by unfold eGet; simp only [wp_bind]
@[simp] theorem wp_asD1 {ks vs : List D} {s : Store} {Φ : D → Store → Prop} {Ξ : Xc → Store → Prop} : wp (asD1 (.dic ks vs)) s Φ Ξ = Φ (.dic ks vs) s := rfl
end Mr

namespace Mr
open PySem PySem.Spec PyProof.Rows L2
def eMth0 (f : D → M D) (a : EM) : EM := fun env => a env >>= fun x => asS x >>= f
def opAddL : D → D → M D
  | .lst a, .lst b => if a.length + b.length ≤ sizeLine then pure (.lst (a ++ b)) else bad
  | _, _ => bad
def numsS (lo c : Int) (n : Nat) : List D := (List.range n).map fun i => D.int (lo + (i : Nat) * c)
def rngS : D → D → D → M (List D)
  | .int i, .int j, .int c => if -1000000 ≤ i ∧ i ≤ 1000000 ∧ -1000000 ≤ j ∧ j ≤ 1000000 ∧ 1 ≤ c ∧ c ≤ 1000000 then pure (numsS i c (if i < j then ((j - i - 1) / c + 1).toNat else 0)) else bad
  | _, _, _ => bad
def iRngS (a b c : EM) : LM := fun env => a env >>= fun x => b env >>= fun y => c env >>= fun z => rngS x y z
section
variable {X : Cx} {W : WX} {Ω : List Nat} {e o a b c tg : Expr} {ma mb mc : EM} {pos p apos : Pos} {K : PySem.W.Frag} {mg : Str → Option Value} {G : Hp} {ρ : List Addr}
theorem pf_add (ha : pO X W Ω a ma) (hb : pO X W Ω b mb) : pF X W Ω (.BinOp a .Add b pos) (eBin opAddL ma mb) := pe_imp (pe_op op_cat ha hb) fun σ H Q h =>
  tG.thn (k := fun x env => mb env >>= fun y => opAddL x y) h fun G1 ρ1 S1 env H1 d v at1 r1 p1 => p1.thn at1 fun G2 ρ2 S2 H2 e w g at2 r2 p2 => by
    cases d with
    | lst xs =>
      cases e with
      | lst ys =>
        obtain ⟨q, vs, rfl, h1, r3, _⟩ := (RepO.grow r1 g).lst at2.sub
        obtain ⟨q2, ws, rfl, h2, r4, _⟩ := RepO.lst r2 at2.sub
        unfold opAddL at p2
        by_cases hz : xs.length + ys.length ≤ sizeLine
        · simp only [if_pos hz] at p2
          refine ⟨q, q2, vs, ws, rfl, rfl, h1, h2, by rw [← r3.length, ← r4.length]; exact hz, fun p hp => ?_⟩
          exact Post.lstF' p2 at2.sub at2.st (r3.append r4) (by rw [List.length_append, ← r3.length, ← r4.length]; exact hz) hp
        · simp only [if_neg hz] at p2
          exact (show False from p2).elim
      | _ => exact (show False from p2).elim
    | _ => exact (show False from p2).elim
end
@[simp] theorem wp_iRngS {e : Ev} {s : Store} {Ψ : List D → Store → Prop} {Ξ : Xc → Store → Prop} (a b c : EM) : wp (iRngS a b c e) s Ψ Ξ = wp (a e) s (fun x s => wp (b e) s (fun y s => wp (c e) s (fun z s => wp (rngS x y z) s Ψ Ξ) Ξ) Ξ) Ξ := by unfold iRngS; simp only [wp_bind]
@[simp] theorem wp_eMth0 {e : Ev} {s : Store} {Φ : D → Store → Prop} {Ξ : Xc → Store → Prop} (f : D → M D) (a : EM) : wp (eMth0 f a e) s Φ Ξ = wp (a e) s (fun x s => wp (asS x) s (fun x s => wp (f x) s Φ Ξ) Ξ) Ξ := by unfold eMth0; simp only [wp_bind]
theorem wp_addL {a b : List D} {s : Store} {Φ : D → Store → Prop} {Ξ : Xc → Store → Prop} (h : a.length + b.length ≤ 16000000) : wp (opAddL (.lst a) (.lst b)) s Φ Ξ = Φ (.lst (a ++ b)) s := by
  have h2 : a.length + b.length ≤ sizeLine := Nat.le_trans h (by decide)
  show wp (if a.length + b.length ≤ sizeLine then pure (.lst (a ++ b)) else bad : M D) s Φ Ξ = _
  rw [if_pos h2]
  rfl
end Mr

namespace Mr
open PySem PySem.Spec PyProof PyProof.Rows L2
open LamX (CodeO TabS Tabs ExtN TabB lamEnv)
abbrev E00 : XK := fun _ _ _ => False
def Made1 (H : Hp) (P c' : Addr) (q : Str) (H1 : Hp) : Prop :=
  H1 = H ∨ ∃ ps more : Array Value, H P = some (.tbl ps) ∧ H c' = none ∧ H1 = L2.upd (L2.upd H P (.tbl (ps ++ more))) c' (CodeO c' q)
theorem Made1.at {H H1 : Hp} {P c' : Addr} {q : Str} (m : Made1 H P c' q H1) {b : Addr} {o : HO} (e : H b = some o) (n : ∀ ps, o ≠ .tbl ps) : H1 b = some o := by
  rcases m with rfl | ⟨ps, more, h1, h2, rfl⟩
  · exact e
  · rw [upd_ne (ne_of_none e h2), upd_ne (fun z => by subst z; rw [h1] at e; exact n ps (Option.some.inj e).symm)]
    exact e
theorem Made1.grow {K : PySem.W.Frag} {mg : Str → Option Value} {G H H1 : Hp} {ρ : List Addr} {P c' : Addr} {q : Str} (m : Made1 H P c' q H1) : Grow G ρ H G ρ H1 where
  sub := Same.refl _
  pre := fun _ _ e => e
  keep := fun a o e _ n => m.at e n
  live := fun a e => by
    rcases m with rfl | ⟨ps, more, h1, h2, rfl⟩
    · exact e
    · by_cases hc : a = c'
      · rw [hc]; exact h2
      · rw [upd_ne hc] at e
        by_cases hP : a = P
        · rw [hP, upd_same] at e
          cases e
        · rw [upd_ne hP] at e
          exact e
  new := fun _ _ e => .inl e
  newr := fun _ e => .inl e
theorem Made1.st {K : PySem.W.Frag} {mg : Str → Option Value} {G H H1 : Hp} {ρ : List Addr} {S : Store} {P c' : Addr} {q : Str} (m : Made1 H P c' q H1) (st : StOk K mg G ρ S H) (t : TabsAll K H1) : StOk K mg G ρ S H1 := by
  refine st.mono (Same.refl _) (fun a ha => ?_) st.out (fun _ => t) st.gt
  obtain ⟨n, hn⟩ := List.getElem?_of_mem ha
  have hl : n < S.length := by rw [← st.len]; exact (List.getElem?_eq_some_iff.mp hn).1
  obtain ⟨u, hu, nu⟩ := (st.obj n a _ hn (List.getElem?_eq_getElem hl)).some
  rw [hu]
  exact m.at hu nu
theorem Made1.same {K : PySem.W.Frag} {mg : Str → Option Value} {G H H1 : Hp} {P c' : Addr} {q : Str} (m : Made1 H P c' q H1) (s : Same G H) (gt : ∀ (a : Addr) (ps : Array Value), G a ≠ some (.tbl ps)) : Same G H1 := fun a o e => m.at (s a o e) fun ps z => gt a ps (by rw [e, z])
def whereL (act : D → M D) : List D → M D
  | [] => pure .non
  | x :: r => act x >>= tru >>= fun b => if b then pure x else whereL act r
def whereM (act : D → M D) (d : D) : M D := fLen d >>= fun n => rng1 n >>= whereL act
def eWhere (Ω : List Nat) (ik : Nat) (m me : EM) : EM := fun env => me env >>= fun d => noX (whereM (fun x => m ((wipeE env Ω).set ik (some x))) d)
end Mr

namespace Mr
open PySem PySem.Spec PyProof PyProof.Rows L2
def leT (a b : Tx) : Bool := !ltT b a
theorem leT_iff (a b : Tx) : leT a b = true ↔ a.map Char.toNat ≤ b.map Char.toNat := by
  unfold leT ltT
  rw [Bool.not_eq_true', decide_eq_false_iff_not, List.not_lt]
theorem leT_trans (a b c : Tx) (h1 : leT a b = true) (h2 : leT b c = true) : leT a c = true := (leT_iff a c).mpr (List.le_trans ((leT_iff a b).mp h1) ((leT_iff b c).mp h2))
theorem leT_total (a b : Tx) : (leT a b || leT b a) = true := by
  rw [Bool.or_eq_true, leT_iff, leT_iff]
  exact List.le_total _ _
end Mr

namespace Mr
open PySem PySem.Spec PyProof PyProof.Rows L2
theorem rc_lt_str {A : Around} {s : Shared} (a b : Str) (t u : Tok) : Ob.RcOp .Lt A s (.str a t) (.str b u) (decide (a.cps.toList < b.cps.toList)) := fun _ _ _ _ h => PyProof.Rows.lt_str h
def rLtSI (K : PySem.W.Frag) : R2 := fun x y H Q => ∃ (a b : Addr) (s1 s2 : Str) (i j : Int), x = .ref a ∧ y = .ref b ∧ SqT K H a [.str s1, .int i] ∧ SqT K H b [.str s2, .int j] ∧ Q (.bl (if s1 = s2 then decide (i < j) else decide (s1.cps.toList < s2.cps.toList))) H
theorem op_ltSI {X : Cx} (hu : X.A.units < cLine) : OpR X (compareOp .Lt) (rLtSI X.K) := by
  intro pins s σ H x y v u Q I rx ry h
  obtain ⟨a, b, s1, s2, i, j, rfl, rfl, ha, hb, q⟩ := h
  cases rx
  cases ry
  obtain ⟨its, r1, p1, _⟩ := I.tuple ha
  obtain ⟨its2, r2, p2, _⟩ := I.tuple hb
  cases r1 with
  | cons x1 r1 =>
    cases r1 with
    | cons x2 r1 =>
      cases r1
      cases r2 with
      | cons y1 r2 =>
        cases r2 with
        | cons y2 r2 =>
          cases r2
          obtain ⟨t1, rfl⟩ := x1
          obtain ⟨t2, rfl⟩ := x2
          obtain ⟨u1, rfl⟩ := y1
          obtain ⟨u2, rfl⟩ := y2
          have R := Ob.RcOp.tuples_lt (A := X.A) (s := s) (e := fun k => if k = 0 then (s1 == s2) else (i == j)) (r := fun k => if k = 0 then decide (s1.cps.toList < s2.cps.toList) else decide (i < j)) p1 p2 hu (fun k h1 h2 => by
            match k, h1, h2 with
            | 0, _, _ => exact SeqAt.EqAt.str_str _ _ _ _
            | 1, _, _ => exact SeqAt.EqAt.int_int _ _ _ _
            | k + 2, h1, _ => exact absurd (show k + 2 < 2 from h1) (by omega)) (fun k h1 h2 _ => by
            match k, h1, h2 with
            | 0, _, _ => exact rc_lt_str _ _ _ _
            | 1, _, _ => exact Ob.RcOp.lt_int _ _ _ _
            | k + 2, h1, _ => exact absurd (show k + 2 < 2 from h1) (by omega))
          refine R X.prog X.w X.xe (EP X pins σ Q) ⟨.bl _, H, I, rfl, ?_⟩
          have e : Ob.lexAt (fun k => if k = 0 then (s1 == s2) else (i == j)) (fun k => if k = 0 then decide (s1.cps.toList < s2.cps.toList) else decide (i < j)) (decide (2 < 2)) 0 2 = if s1 = s2 then decide (i < j) else decide (s1.cps.toList < s2.cps.toList) := by
            unfold Ob.lexAt
            simp only [if_true]
            by_cases hs : s1 = s2
            · rw [if_pos hs, if_pos (by rw [hs]; exact beq_self_eq_true _)]
              unfold Ob.lexAt
              by_cases hi : i = j
              · subst hi
                simp [Ob.lexAt]
              · simp [hi]
            · rw [if_neg hs, if_neg (by simpa using hs)]
          have e2 : Ob.lexAt (fun k => if k = 0 then (s1 == s2) else (i == j)) (fun k => if k = 0 then decide (s1.cps.toList < s2.cps.toList) else decide (i < j)) (decide (2 < 2)) 0 2 = Ob.lexAt (fun k => if k = 0 then (s1 == s2) else (i == j)) (fun k => if k = 0 then decide (s1.cps.toList < s2.cps.toList) else decide (i < j)) (decide ([Value.str s1 t1, Value.int i t2].toArray.size < [Value.str s2 u1, Value.int j u2].toArray.size)) 0 (min [Value.str s1 t1, Value.int i t2].toArray.size [Value.str s2 u1, Value.int j u2].toArray.size) := rfl
          rw [← e2, e]
          exact q
def opLtX : D → D → M D
  | .tup [.str a, .int i], .tup [.str b, .int j] => pure (.bl (if a = b then decide (i < j) else ltT a b))
  | d, e => opLt d e
theorem opLtX_cases (d e : D) : (∃ a i b j, d = .tup [.str a, .int i] ∧ e = .tup [.str b, .int j]) ∨ opLtX d e = opLt d e := by
  unfold opLtX
  split
  · exact .inl ⟨_, _, _, _, rfl, rfl⟩
  · exact .inr rfl
theorem or_ltX {X : Cx} (hu : X.A.units < cLine) : OpR X (compareOp .Lt) (fun x y H Q => rLtSI X.K x y H Q ∨ rLt2 x y H Q) := (op_ltSI hu).or or_lt
theorem ok_ltX {X : Cx} : OpOk X (fun x y H Q => rLtSI X.K x y H Q ∨ rLt2 x y H Q) opLtX := by
  intro G ρ S H d e x y Wx Q s st rd re p
  rcases opLtX_cases d e with ⟨a, i, b, j, rfl, rfl⟩ | h
  · obtain ⟨q1, vs1, rfl, h1, _, r1, _⟩ := rd.tup s
    obtain ⟨q2, vs2, rfl, h2, _, r2, _⟩ := re.tup s
    obtain ⟨v1, w1, e1, a1, r1⟩ := r1.cons_inv
    obtain ⟨v2, w2, e2, a2, r1⟩ := r1.cons_inv
    cases r1
    obtain ⟨v3, w3, e3, a3, r2⟩ := r2.cons_inv
    obtain ⟨v4, w4, e4, a4, r2⟩ := r2.cons_inv
    cases r2
    cases a1; cases a2; cases a3; cases a4
    subst e2 e1 e4 e3
    have p : Post X.K X.mg (rV X.K X.mg) Wx Q G ρ H (.ok (.bl (if a = b then decide (i < j) else ltT a b)) S) := p
    refine .inl ⟨q1, q2, toS a, toS b, i, j, rfl, rfl, h1, h2, ?_⟩
    have e : (if toS a = toS b then decide (i < j) else decide ((toS a).cps.toList < (toS b).cps.toList)) = (if a = b then decide (i < j) else ltT a b) := by
      rw [toS_list, toS_list]
      by_cases hab : a = b
      · rw [if_pos hab, if_pos (by rw [hab])]
      · rw [if_neg hab, if_neg (fun z => hab (toS_inj.mp z))]
        rfl
    rw [e]
    exact Post.V (S := S) (d := .bl _) p s st (.bl _)
  · rw [h] at p
    exact .inr (ok_lt G ρ S H d e x y Wx Q s st rd re p)
theorem c_ltX {X : Cx} (hu : X.A.units + 64 < cLine) : CmpOk X .Lt opLtX := ⟨⟨_, or_ltX (Nat.lt_of_le_of_lt (Nat.le_add_right _ _) hu), ok_ltX⟩⟩
end Mr

namespace Mr
open PySem PySem.Spec PyProof.Rows L2
section
variable {X : Cx} {W : WX} {Ω : List Nat} {a b e o f tg : Expr} {ma mb mo : EM} {pos cpos apos : Pos}
theorem op_inD (hu : X.A.units + 65 < cLine) : OpR X (compareOp .In) (fun y x H Q => ∃ (a : Addr) (o : Option V), x = .ref a ∧ DGet H a y o ∧ Q (.bl o.isSome) H) := by
  intro pins s σ H x y v u Q I rx ry h
  obtain ⟨a, ov, ex, g, q⟩ := h
  subst ex
  obtain rfl : u = Value.ref a := ry
  exact d_in (by omega) I g rx fun s3 I3 => ⟨.bl ov.isSome, H, I3, rfl, q⟩
end
theorem takesN {X : Cx} : L2N.Takes X (fun _ _ _ _ => False) := fun _ _ x => by
  obtain ⟨_, _, _, _, _, _, _, _, _, _, _, _, _, _, _, _, z⟩ := x
  exact z.elim
end Mr

namespace Mr
open PySem PySem.Spec PyProof.Rows L2 HotX
structure HotW (X : Cx) (x0 : Addr) (c0 : Str) : Prop where
  h : X.A.handled = some (.ref x0)
theorem HotW.at {X : Cx} {x0 : Addr} {c0 : Str} (hot : HotW X x0 c0) {pins : List (Addr × Obj)} {σ : L2.St} {H : Hp} {s : Shared} (I : Inv X pins σ H s) (hx : H x0 = some (ExX X.K c0 x0)) : HotAt X.A x0 s.heap := by
  obtain ⟨⟨_, oe, vs, h1, h2, h3⟩, _, _⟩ := I.hok x0 _ hx
  exact ⟨hot.h, oe, vs, h1, h3, h2.2.2 vs h3⟩
structure TurnW (P : Program) (w : World) (K : PySem.W.Frag) (tg : Expr) (J : It) (fp : List Addr) (it : Addr) (tn : Nat → Heap → Prop) (x0 : Addr) (c0 : Str) : Prop where
  mem : it ∈ fp
  obj : ∀ i h, tn i h → ∀ b ∈ fp, ∃ o, h.get? b = some o ∧ ∀ v, o.data ≠ .cell v
  keep : ∀ i h h', tn i h → (∀ b ∈ fp, ∀ o, h.get? b = some o → h'.get? b = some o) → tn i h'
  item : ∀ (X : Cx), X.prog = P → X.w = w → X.K = K → ∀ (i : Nat) (pins : List (Addr × Obj)) (s : Shared) (σ : L2.St) (H : Hp) (E : Value → Shared → Prop), Inv X pins σ H s → (∀ b ∈ fp, FpOk X pins H b) → tn i s.heap → J.go i H →
    wpAny (model P w) X.A (pyNext (.ref it)) (fun r s1 => ∃ u, r = some u ∧ wpAny (model P w) X.A (letOwnedTupleGo tg (.ref it) u) (fun _ s2 => ∃ x H', Inv X pins σ H' s2 ∧ RelV x u ∧ J.yld i H x H' ∧ tn (i + 1) s2.heap ∧ (∀ b ∈ fp, H' b = none) ∧ ∀ o, H x0 = some o → H' x0 = some o) E s1) E s
  done : ∀ (X : Cx), X.prog = P → X.w = w → X.K = K → HotW X x0 c0 → ∀ (i : Nat) (pins : List (Addr × Obj)) (s : Shared) (σ : L2.St) (H : Hp) (E : Value → Shared → Prop), H x0 = some (ExX X.K c0 x0) → Inv X pins σ H s → (∀ b ∈ fp, FpOk X pins H b) → tn i s.heap → J.stop i H →
    wpAny (model P w) X.A (pyNext (.ref it)) (fun r s1 => r = none ∧ Inv X pins σ H s1) E s
  self : ∀ (A : Around) (i : Nat) (s : Shared) (Q : Value → Shared → Prop) (E : Value → Shared → Prop), tn i s.heap → Q (.ref it) s → wpAny (model P w) A (pyIter (.ref it)) Q E s
structure PIW (X : Cx) (tg iter : Expr) (wi : TI) (x0 : Addr) (c0 : Str) : Prop where
  run : ∀ (pins : List (Addr × Obj)) (s : Shared) (σ : L2.St) (H : Hp) (R : It → Hp → Prop), Inv X pins σ H s → wi σ H R →
    wpAny (model X.prog X.w) X.A (eval iter X.env) (fun v s1 => wpAny (model X.prog X.w) X.A (pyIter v) (fun itv s2 => ∃ (it : Addr) (fp : List Addr) (tn : Nat → Heap → Prop) (J : It) (H' : Hp), itv = .ref it ∧ Inv X pins σ H' s2 ∧ TurnW X.prog X.w X.K tg J fp it tn x0 c0 ∧ tn 0 s2.heap ∧ (∀ b ∈ fp, FpOk X pins H' b) ∧ R J H') X.xe s1) X.xe s
theorem PIW.imp {X : Cx} {tg iter : Expr} {t t' : TI} {x0 : Addr} {c0 : Str} (h : PIW X tg iter t x0 c0) (i : ∀ σ H R, t' σ H R → t σ H R) : PIW X tg iter t' x0 c0 := ⟨fun pins s σ H R I q => h.run pins s σ H R I (i σ H R q)⟩
structure PGW (X : Cx) (tg : Expr) (t : TG) (x0 : Addr) (c0 : Str) : Prop where
  run : ∀ (pins : List (Addr × Obj)) (s : Shared) (σ : L2.St) (H : Hp) (v : V) (u : Value) (Q : L2.St → Hp → Prop), H x0 = some (ExX X.K c0 x0) → Inv X pins σ H s → RelV v u → t v σ H Q →
    wpAny (model X.prog X.w) X.A (assign tg X.env u) (fun _ s' => ∃ σ' H', Inv X pins σ' H' s' ∧ Q σ' H') X.xe s
end Mr

theorem L2H.RoomH.units {k : Nat} {A : PySem.Around} (r : L2H.RoomH k A) : A.units + 64 < PySem.cLine := by have := r.un; omega
theorem L2H.RoomH.u65 {k : Nat} {A : PySem.Around} (r : L2H.RoomH k A) : A.units + 65 < PySem.cLine := by have := r.un; omega
namespace Mr
open PySem PySem.Spec PyProof.Rows L2
section
variable {K : PySem.W.Frag} {mg : Str → Option Value} {α β γ δ : Type} {G G0 H : Hp} {ρ : List Addr}
def tGs (G0 : Hp) (K : PySem.W.Frag) (mg : Str → Option Value) (R : Rl α β) (W : WX) (Ω : List Nat) (m : Ev → M α) : L2.St → Hp → (β → Hp → Prop) → Prop := fun σ H Q =>
  ∃ G ρ S env, Same G0 G ∧ At K mg Ω G ρ env S σ H ∧ Post K mg R (fun c d H => W c d σ H) Q G ρ H (m env S)
theorem tGs.tG {R : Rl α β} {W : WX} {Ω : List Nat} {m : Ev → M α} {σ : L2.St} {Q : β → Hp → Prop} : tGs G0 K mg R W Ω m σ H Q → Mr.tG K mg R W Ω m σ H Q := fun ⟨G, ρ, S, env, _, a, p⟩ => ⟨G, ρ, S, env, a, p⟩
theorem Post.thns {R : Rl α β} {R2 : Rl γ δ} {W : WX} {Ω : List Nat} {m : Ev → M α} {env : Ev} {S : Store} {σ : L2.St} {k : α → M γ} {Q : δ → Hp → Prop} {C : β → Hp → Prop} (s0 : Same G0 G) (at_ : At K mg Ω G ρ env S σ H)
    (post : Post K mg R2 (fun c d H => W c d σ H) Q G ρ H ((m env >>= k) S))
    (c : ∀ G1 ρ1 S1 H1 a b, Grow G ρ H G1 ρ1 H1 → Same G0 G1 → At K mg Ω G1 ρ1 env S1 σ H1 → R.r H G1 ρ1 H1 a b → Post K mg R2 (fun c d H => W c d σ H) Q G1 ρ1 H1 (k a S1) → C b H1) : tGs G0 K mg R W Ω m σ H C := by
  refine ⟨G, ρ, S, env, s0, at_, ?_⟩
  rw [bind_app] at post
  cases e : m env S with
  | ok a S1 =>
    rw [e] at post
    exact fun G1 ρ1 H1 b s g st rl => c G1 ρ1 S1 H1 a b g (s0.trans g.sub) (at_.grow g s st) rl (Post.grow g post)
  | exc x S1 => rw [e] at post; exact post
  | bad => rw [e] at post; exact post
theorem tGs.thn {R : Rl α β} {R2 : Rl γ δ} {W : WX} {Ω : List Nat} {m : Ev → M α} {σ : L2.St} {k : α → Ev → M γ} {Q : δ → Hp → Prop} {C : β → Hp → Prop} (h : tGs G0 K mg R2 W Ω (fun env => m env >>= fun a => k a env) σ H Q)
    (c : ∀ G1 ρ1 S1 env H1 a b, Same G0 G1 → At K mg Ω G1 ρ1 env S1 σ H1 → R.r H G1 ρ1 H1 a b → Post K mg R2 (fun c d H => W c d σ H) Q G1 ρ1 H1 (k a env S1) → C b H1) : tGs G0 K mg R W Ω m σ H C := by
  obtain ⟨G, ρ, S, env, s0, at_, post⟩ := h
  exact Post.thns s0 at_ post fun G1 ρ1 S1 H1 a b _ s1 at1 rl p1 => c G1 ρ1 S1 env H1 a b s1 at1 rl p1
end
section
variable {X : Cx} {W : WX} {fr : Bool} {en : Ent} {Ω Ωl : List Nat} {x0 : Addr} {c0 : Str} {a b : Expr} {ma mb : EM} {p tpos pos : Pos}
theorem PGW.imp {tg : Expr} {t t' : TG} (h : PGW X tg t x0 c0) (i : ∀ v σ H Q, t' v σ H Q → t v σ H Q) : PGW X tg t' x0 c0 := ⟨fun pins s σ H v u Q hx I r q => h.run pins s σ H v u Q hx I r (i v σ H Q q)⟩
end
end Mr

namespace Mr
open PySem PySem.Spec PyProof.Rows L2
abbrev GTab := List (Str × (List D → M D))
end Mr

namespace Mr
open PySem PySem.Spec PyProof PyProof.Rows L2
open LamX (CodeO TabS Tabs ExtN TabB lamEnv)
section
variable {P : Program} {w : World} {K : PySem.W.Frag} {mg : Str → Option Value} {base : Heap}
def RunC (P : Program) (w : World) (K : PySem.W.Frag) (mg : Str → Option Value) (base : Heap) (k : Nat) (f : Addr) (fd : FuncData) (sp : Sp) : Prop :=
  ∀ (s : Shared) (H : Hp) (u : Value) (v : V) (Q : VK), Room k callerA → Env0 P w K mg base callerA [] s H → BindsTo s fd ⟨[u], []⟩ [("script", u)] → RelV v u → sp [v] H Q E00 →
    codeAny (model P w) callerA (.call (.ref f) ⟨[u], []⟩) (CR (L2N.CX P w) [] P w H s Q E00) s
theorem runC_of {qual : Str} {params : Arguments} {body : List Stmt} {scope : Scope} {f : Addr} {fd : FuncData} {N : List Str} {k : Nat} {sp : Sp} (F : FunD K "law" qual params body scope [] [] f fd) (S : FnScope N ["script"] scope)
    (hb : ∀ (cdv : Value) (s : Shared) (H : Hp) (v : V) (Q : VK), Room k (callerA.deeper (envOfC qual scope s.heap.objs.size f cdv)) → sp [v] H Q E00 →
      ∃ t, PSs (cxOf (L2N.CX P w) P w K mg base N qual scope f cdv callerA [] s H E00) body t ∧ t { nx := fun _ H' => Q .non H', rt := Q } (start N [v]) H) : RunC P w K mg base (k + 1) f fd sp := by
  obtain ⟨oc, od, dV, kV, doc, pm, an, cdv, ct, osl, rfl, lk, hcd, _, _⟩ := F.ex
  intro s H u v Q room ev bind rel want
  have kin : K.In s.heap := ev.mod.kin.keeps fun b o e => (ev.bs b o e).1
  have nol : s.heap.NoLimit := ev.mod.nolimit.keeps fun b o e => (ev.bs b o e).1
  refine codeAny_call_function room.depth (kin _ _ lk) rfl S.co S.gen rfl (PySem.W.codeRec_of kin hcd) (bind _ _ _ _ ?_)
  refine wpAny_newFunctionEnv_cells S.kind (fun y hy => ?kinds) fun env0 same s1 made => ?_
  case kinds =>
    have hy : y = ((("script" : Str), u) : Str × Value) := by simpa using hy
    rw [hy]
    rcases S.par ("script" : Str) (List.mem_singleton.mpr rfl) with z | z
    · exact .inl z
    · exact .inr ⟨z, PySem.W.cellsFrom_some _ _ _ (.inl z)⟩
  subst same
  refine ⟨nol.keeps made.toInCall.keep, codeAny_func ?_⟩
  obtain ⟨t, run, post⟩ := hb cdv s H v Q (room.deeper _) want
  have I0 : Inv (cxOf (L2N.CX P w) P w K mg base N qual scope f cdv callerA [] s H E00) [] (start N [v]) H s1 := inv_start (ps := ["script"]) (us := [u]) S room.hd ev rfl (.cons rel .nil) made
  refine wpAny_mono (run.run [] s1 (start N [v]) H _ I0 post) (fun fl s2 hs => ?_) fun _ _ hs => hs
  cases fl with
  | ret u2 =>
    obtain ⟨v2, σ2, H2, J, r2, q2⟩ := hs
    exact ⟨v2, H2, J.os, J.bare, J.base, J.hok, r2, q2⟩
  | next =>
    obtain ⟨σ2, H2, J, q2⟩ := hs
    exact ⟨V.non, H2, J.os, J.bare, J.base, J.hok, rfl, q2⟩
  | brk =>
    obtain ⟨_, _, _, q2⟩ := hs
    exact q2.elim
  | cont =>
    obtain ⟨_, _, _, q2⟩ := hs
    exact q2.elim
theorem law_callC {mb : Str → Option Value} {k : Nat} {fa a : Addr} {cs : List (Addr × Addr)} {fd : FuncData} {s1 : Shared} {its : List Value} {ns : List Int}
    (kin : K.In s1.heap) (glob : s1.heap.Ns mainGlobals mg) (bln : s1.heap.Ns builtinsNs mb) (blt : ∀ x : Str, x ≠ "__name__" → mb x = bootBuiltins x) (nol : s1.heap.NoLimit) (gens : s1.gens = #[])
    (tabs : ∀ p ∈ cs, s1.heap.get? p.2 = some { cls := .none, data := .fields #[] }) (nK : ∀ p ∈ cs, K.lookup p.2 = none) (codes : ∀ p ∈ cs, PySem.W.CodeHd s1.heap p.1 p.2)
    (bmod : ∃ (bm : Addr) (ob : Obj), mg "__builtins__" = some (.ref bm) ∧ bm ≠ builtinsNs ∧ s1.heap.get? bm = some ob ∧ ob.cls = .type "module" ∧ ob.dict = some builtinsNs ∧ ob.data = .plain)
    (lst : s1.heap.get? a = some { cls := .type "list", data := .seq its.toArray }) (whole : IntsAre its ns) (small : ns.length ≤ sizeLine) (room : Room k callerA)
    (F : ∀ base : Heap, K.In base → base.Ns mainGlobals mg → (∀ p ∈ cs, TabB base mg p.1 p.2) → RunC P w K mg base k fa fd (spLaw K)) (bind : ∀ (s : Shared) (u : Value), BindsTo s fd ⟨[u], []⟩ [("script", u)])
    (want : ∀ H : Hp, (∀ p ∈ cs, H p.2 = some (.tbl #[])) → SqL K H a (ns.map V.int) → spLaw K [.ref a] H (fun v _ => v = .bl true) E00) :
    codeAny (model P w) callerA (.call (.ref fa) ⟨[.ref a], []⟩) (fun r s2 => r = .ok (.ret (.bool true)) ∧ OldK s1.heap s2.heap ∧ s2.os = s1.os ∧ AllBare s2.gens) s1 := by
  have vals := vals_ints whole
  have tab_of : ∀ {b : Addr}, b ∈ cs.map Prod.snd → ∃ p ∈ cs, p.2 = b := fun hb => by
    obtain ⟨p, h1, h2⟩ := List.mem_map.mp hb
    exact ⟨p, h1, h2⟩
  have apart : a ∉ cs.map Prod.snd := fun z => by
    obtain ⟨p, hp, rfl⟩ := tab_of z
    rw [tabs p hp] at lst
    cases lst
  -- what is tracked: the tables, and the script where the head does not know it
  obtain ⟨H, hT, hO, hA⟩ : ∃ H : Hp, (∀ p ∈ cs, H p.2 = some (.tbl #[])) ∧
      (∀ b u, H b = some u → (b ∈ cs.map Prod.snd ∧ u = .tbl #[]) ∨ (b = a ∧ K.lookup a = none ∧ u = .frz { cls := .type "list", data := .seq its.toArray } (.lst (ns.map V.int)))) ∧ (K.lookup a = none → H a = some (.frz { cls := .type "list", data := .seq its.toArray } (.lst (ns.map V.int)))) := by
    refine ⟨fun b => if b ∈ cs.map Prod.snd then some (.tbl #[]) else if b = a ∧ K.lookup a = none then some (.frz { cls := .type "list", data := .seq its.toArray } (.lst (ns.map V.int))) else none, fun p hp => if_pos (List.mem_map_of_mem hp), fun b u e => ?_, fun n => ?_⟩
    · by_cases h1 : b ∈ cs.map Prod.snd
      · have e := (if_pos h1).symm.trans e
        cases e
        exact .inl ⟨h1, rfl⟩
      · have e := (if_neg h1).symm.trans e
        by_cases h2 : b = a ∧ K.lookup a = none
        · have e := (if_pos h2).symm.trans e
          cases e
          exact .inr ⟨h2.1, h2.2, rfl⟩
        · have e := (if_neg h2).symm.trans e
          cases e
    · exact (if_neg apart).trans (if_pos ⟨rfl, n⟩)
  have held : HOk P w H s1.heap := fun b u e => by
    rcases hO b u e with ⟨h1, rfl⟩ | ⟨rfl, _, rfl⟩
    · obtain ⟨p, hp, rfl⟩ := tab_of h1
      exact tabs p hp
    · exact ⟨lst, by rw [List.length_map]; exact small, its, _, vals, lst⟩
  have sq : SqL K H a (ns.map V.int) := by
    cases q : K.lookup a with
    | none => exact .inl (.inr ⟨_, hA q⟩)
    | some o =>
      have e := kin a o q
      rw [lst] at e
      cases e
      exact .inr ⟨_, _, _, q, rfl, rfl, rfl, by rw [List.size_toArray, whole.length]; exact small, by rw [List.toList_toArray]; exact vals⟩
  -- the base: all else
  have base_at : ∀ {b : Addr} {o : Obj}, s1.heap.get? b = some o → o.data ≠ .fields #[] → (∀ v n, o.data ≠ .seq v n) → (hidT s1.heap H).get? b = some o := fun {b o} e n1 n2 => hidT_get e (by
    cases q : H b with
    | none => rfl
    | some u =>
      rcases hO b u q with ⟨h1, _⟩ | ⟨rfl, _, _⟩
      · obtain ⟨p, hp, rfl⟩ := tab_of h1
        rw [tabs p hp] at e
        cases e
        exact absurd rfl n1
      · rw [lst] at e
        cases e
        exact absurd rfl (n2 _ _))
  have base_ns : ∀ {b : Addr} {m : Str → Option Value}, s1.heap.Ns b m → (hidT s1.heap H).Ns b m := fun ⟨o, es, ep, e, d, r⟩ => ⟨o, es, ep, base_at e (by rw [d]; exact fun z => by cases z) (by rw [d]; exact fun v n z => by cases z), d, r⟩
  have base_K : K.In (hidT s1.heap H) := fun b o e => hidT_get (kin b o e) (by
    cases q : H b with
    | none => rfl
    | some u =>
      rcases hO b u q with ⟨h1, _⟩ | ⟨rfl, n, _⟩
      · obtain ⟨p, hp, rfl⟩ := tab_of h1
        rw [nK p hp] at e
        cases e
      · rw [n] at e
        cases e)
  have base_T : ∀ p ∈ cs, TabB (hidT s1.heap H) mg p.1 p.2 := fun p hp => by
    obtain ⟨o, us, file, tf, flags, tg, inF, text, tt, e1, r1, r2, r3, more⟩ := codes p hp
    obtain ⟨bm, ob, b1, b2, b3, b4, b5, b6⟩ := bmod
    refine ⟨⟨o, us, file, tf, flags, tg, inF, text, tt, base_at e1 ?_ ?_, r1, r2, r3, more⟩, ⟨bm, ob, b1, b2, ?_, ?_, base_at b3 ?_ ?_, b4, b5, b6⟩, ?_⟩
    · rw [r2]
      intro z
      cases z
      simp at r3
    · rw [r2]
      exact fun v n z => by cases z
    · rintro rfl
      obtain ⟨o2, es, ep, e2, d2, _⟩ := glob
      rw [e2] at b3
      cases b3
      rw [d2] at b6
      cases b6
    · rintro rfl
      rw [tabs p hp] at b3
      cases b3
      cases b6
    · rw [b6]
      exact fun z => by cases z
    · rw [b6]
      exact fun v n z => by cases z
    · intro z
      obtain ⟨o2, es, ep, e2, d2, _⟩ := glob
      rw [z, tabs p hp] at e2
      cases e2
      cases d2
  have at_call : Env0 P w K mg (hidT s1.heap H) callerA [] s1 H := by
    refine ⟨rfl, ⟨base_K, base_ns glob, ⟨mb, base_ns bln, blt⟩, ?_⟩, fun b o e => of_hidT e, Nat.le_of_eq (hidT_size _ _), trivial, fun b hb => ?_, held, .of_eq gens⟩
    · obtain ⟨mc, n1, n2⟩ := nol
      exact ⟨mc, base_ns n1, n2⟩
    · exact absurd (show b ∈ ([] : List Addr) from hb) (by simp)
  have ran := F _ base_K (base_ns glob) base_T s1 H (.ref a) (.ref a) (fun v _ => v = .bl true) room at_call (bind s1 (.ref a)) rfl (want H hT sq)
  refine codeAny_mono ran fun r s2 hq => ?_
  cases r with
  | error e =>
    obtain ⟨_, _, _, _, _, _, _, _, _, _, _, _, z⟩ := hq
    exact z.elim
  | ok fl =>
    cases fl with
    | next => exact False.elim hq
    | brk => exact False.elim hq
    | cont => exact False.elim hq
    | ret u =>
      obtain ⟨v, H2, os, bare, un, held2, rel, rfl⟩ := hq
      obtain rfl : u = Value.bool true := rel
      have stays : ∀ b o, b ∉ cs.map Prod.snd → s1.heap.get? b = some o → s2.heap.get? b = some o := fun b o nb e => by
        cases q : H b with
        | none => exact un.keep b o e q (fun z => absurd (show b ∈ ([] : List Addr) from z) (by simp)) (by simp)
        | some u =>
          rcases hO b u q with ⟨h1, _⟩ | ⟨rfl, _, rfl⟩
          · exact absurd h1 nb
          · have g1 := (held b _ q).1
            have g2 := (held2 b _ (un.frzs b _ _ q)).1
            rw [e] at g1
            cases g1
            exact g2
      have grown : ∀ p ∈ cs, ∃ more : Array Value, s2.heap.get? p.2 = some { cls := .none, data := .fields (#[] ++ more) } := fun p hp => by
        obtain ⟨more, e⟩ := un.tbls p.2 #[] (hT p hp)
        exact ⟨more, held2 p.2 _ e⟩
      refine ⟨rfl, ⟨fun b o e => ?_, fun b o e => ?_⟩, os, bare⟩
      · by_cases hb : b ∈ cs.map Prod.snd
        · obtain ⟨p, hp, rfl⟩ := tab_of hb
          obtain ⟨more, g⟩ := grown p hp
          rw [tabs p hp] at e
          cases e
          exact .inr (.inl ⟨((codes p hp).tab (tabs p hp)).isCodeTable, rfl, #[], more, rfl, g⟩)
        · exact .inl (stays b o hb e)
      · by_cases hb : b ∈ cs.map Prod.snd
        · obtain ⟨p, hp, rfl⟩ := tab_of hb
          obtain ⟨more, g⟩ := grown p hp
          exact ⟨_, g⟩
        · exact ⟨o, stays b o hb e⟩
theorem law_okC {qual : Str} {params : Arguments} {body : List Stmt} {scope : Scope} {f : Addr} {fd : FuncData} {N : List Str} {ip k : Nat} {b : SM} {Ωe : List Nat} (F : FunD K "law" qual params body scope [] [] f fd) (S : FnScope N ["script"] scope) (hip : 0 < ip) (hN : 0 < N.length)
    (hb : ∀ (cdv : Value) (s : Shared) (H : Hp) (en : Ent), Room k (callerA.deeper (envOfC qual scope s.heap.objs.size f cdv)) → (callerA.deeper (envOfC qual scope s.heap.objs.size f cdv)).guards = some [] →
      PSs (cxOf (L2N.CX P w) P w K mg base N qual scope f cdv callerA [] s H E00) body (tSeq (tAsg (tCallS (spPen K) (fun σ => fun c d H => E00 c d H) (tCons (tVar 0) tNil)) (gName ip)) (tS K mg (fun c d _ H => E00 c d H) false en [] Ωe [] b)))
    (main : ∀ ns : List Int, ns.length ≤ 63 → ∃ s, b (startL N ip) (pen0 ns) = .ret (.bl true) s) : RunC P w K mg base (k + 1) f fd (spLaw K) :=
  runC_of F S fun cdv s H v Q hr h => by
    obtain ⟨a, ns, hv, hS, hl, hT, hQ⟩ := h
    obtain rfl : v = .ref a := (List.cons.inj hv).1
    refine ⟨_, hb cdv s H ⟨fun _ => none, [], H⟩ hr (by first | rfl | simp [Around.deeper, callerA]), .ref a, by unfold L2.start; simp, a, ns, rfl, hS, hl, fun H1 p k1 k2 k3 q k4 => ?_⟩
    obtain ⟨G, hh⟩ := law_start (K := K) (mg := mg) (N := N) (ip := ip) (a := a) hip hN hl hT k1 k2 k3 k4
    obtain ⟨s', e⟩ := main ns hl
    refine ⟨G, [q], pen0 ns, startL N ip, hh, ?_⟩
    rw [e]
    intro G2 ρ2 H2 v _ _ _ r
    have r : Rep K mg G2 ρ2 (.bl true) v := r
    cases r with
    | bl => exact hQ H2
end
theorem walk_lawC {l : PySem.W.OpenLaw} {k : Nat} {q : Program} {loose : List Str} {XP : (Str → Option Value) → Heap → Prop} {YP : World → Heap → Prop} {d : DefRec} (hn : l.most = some 63) (hdf : d.params.defaults = []) (hr : Room k callerA)
    (F : ∀ (w : World) (mg : Str → Option Value) (fa : Addr) (h : Heap), YP w h → h.Ns mainGlobals mg → mg d.name = some (.ref fa) →
      ∃ (K : PySem.W.Frag) (fd : FuncData) (cs : List (Addr × Addr)), K.In h ∧ (∀ p ∈ cs, h.get? p.2 = some { cls := .none, data := .fields #[] }) ∧ (∀ p ∈ cs, K.lookup p.2 = none) ∧ (∀ p ∈ cs, PySem.W.CodeHd h p.1 p.2) ∧
        (∀ H : Hp, (∀ p ∈ cs, H p.2 = some (.tbl #[])) → TabsAll K H) ∧ (∀ (s : Shared) (u : Value), BindsTo s fd ⟨[u], []⟩ [("script", u)]) ∧
        ∀ base : Heap, K.In base → base.Ns mainGlobals mg → (∀ p ∈ cs, LamX.TabB base mg p.1 p.2) → RunC l.prog w K mg base k fa fd (spLaw K)) :
    PySem.W.WalkO q loose XP YP l.row.toRowW d [] (fun f vs => PySem.call f vs) := by
  refine Att.attach_callB hn hdf fun w s₀ s₁ mg mb fa o pm cd doc a vs ns G Y ho hd hcd hmg hobj hints hlen hbits hg => ?_
  obtain ⟨K, fd, cs, KX, c1, c2, c3, c4, hb, hF⟩ := F w mg fa _ Y G.T.g hmg
  exact law_callC KX G.T.g G.T.b G.T.builtins G.T.nolimit hg c1 c2 c3 G.T.bmain hobj hints (Nat.le_trans hlen (by decide)) hr hF hb fun H hH hS => ⟨a, ns, rfl, hS, hlen, c4 H hH, fun _ => rfl⟩
end Mr

namespace Mr
open PySem PySem.Spec PyProof PyProof.Rows L2
def ofS (x : Str) : Tx := x.cps.toList.map Char.ofNat
end Mr

namespace Mr
open PySem PySem.Spec PyProof PyProof.Rows L2
def keyT (e : Int × Value) : Str := strOf e.2
structure TxAt (P : Program) (w : World) (h : Heap) (a : Addr) (L : List Str) : Prop where
  nd : L.Nodup
  sm : L.length < scanBound
  ex : ∃ (o : Obj) (es : Array (Int × Value)) (ep : Nat) (t : SetTable), h.get? a = some o ∧ o.ExactSet ∧ o.data = .set es ep t ∧ ElemsOf (PySem.strKind P w) es.toList ∧ (es.toList.map keyT).Perm L ∧ t.fits es.size = true ∧ Ris t.place.toList ∧
    (w.params.followText "set-order" = true ∨ t.led = true)
section
variable {P : Program} {w : World} {h h' : Heap} {a : Addr} {L : List Str}
theorem TxAt.at (R : TxAt P w h a L) (k : ∀ o, h.get? a = some o → h'.get? a = some o) : TxAt P w h' a L := by
  obtain ⟨n, m, o, es, ep, t, ho, r⟩ := R
  exact ⟨n, m, o, es, ep, t, k o ho, r⟩
end
end Mr

namespace Mr
open PySem PySem.Spec PyProof PyProof.Rows L2
mutual
def D.plainE : D → Bool
  | .non | .bl _ | .int _ | .str _ => true
  | .tup xs | .lst xs => D.plainEL xs
  | .dic [] [] => true
  | _ => false
def D.plainEL : List D → Bool
  | [] => true
  | x :: xs => x.plainE && D.plainEL xs
end
mutual
def D.toPE : D → PyData
  | .bl b => .bool b
  | .int i => .int i
  | .str s => .str (toS s)
  | .tup xs => .tuple (D.toPEL xs)
  | .lst xs => .list (D.toPEL xs)
  | .dic _ _ => .dict []
  | _ => .none
def D.toPEL : List D → List PyData
  | [] => []
  | x :: xs => x.toPE :: D.toPEL xs
end
def RdE (h : Heap) (u : Value) (d : PyData) : Prop := ∃ as, Reads h u d as ∧ sysModules ∉ as
def RdEL (h : Heap) (us : List Value) (ds : List PyData) : Prop := ∃ as, ReadsAll h us ds as ∧ sysModules ∉ as
theorem RdEL.cons {h : Heap} {u : Value} {d : PyData} {us : List Value} {ds : List PyData} (a : RdE h u d) (b : RdEL h us ds) : RdEL h (u :: us) (d :: ds) := by
  obtain ⟨as, h1, n1⟩ := a
  obtain ⟨bs, h2, n2⟩ := b
  exact ⟨as ++ bs, .cons h1 h2, fun z => (List.mem_append.mp z).elim n1 n2⟩
theorem sys_at {K : PySem.W.Frag} (h : sysB K = true) : ∃ o es n, K.lookup sysModules = some o ∧ o.data = .dict es n := by
  unfold sysB at h
  split at h
  · rename_i e
    exact ⟨_, _, _, e, rfl⟩
  · cases h
section
variable {X : Cx} {pins : List (Addr × Obj)} {σ : L2.St} {G H : Hp} {ρ : List Addr} {s : Shared}
theorem sys_ne (I : Inv X pins σ H s) (hy : sysB X.K = true) {a : Addr} {o : Obj} {vs : Array Value} {n : Nat} (ho : s.heap.get? a = some o) (hd : o.data = .seq vs n) : sysModules ≠ a := fun z => by
  obtain ⟨o', es, m, e1, e2⟩ := sys_at hy
  have := I.kIn _ _ e1
  rw [z, ho] at this
  cases this
  rw [hd] at e2
  cases e2
theorem dic_rd (I : Inv X pins σ H s) {a : Addr} (r : Rd H a (.dK [])) : RdE s.heap (.ref a) (.dict []) := by
  obtain ⟨_, ha, vs, rel, o, es, ep, h1, h2, h3, h4, h5, _⟩ := dk_rd I.hok r
  have hv : vs = [] := List.length_eq_zero_iff.mp (by rw [← rel.length]; rfl)
  subst hv
  have he : es.toList = [] := List.length_eq_zero_iff.mp (by rw [h5.length]; rfl)
  refine ⟨_, Reads.dict (kvs := []) (as := []) (bs := []) h1 h2.1 h3 (by rw [he]; exact .nil) (by rw [he]; exact .nil), fun z => ?_⟩
  have z : sysModules = a := by simpa using z
  rw [← z] at ha
  cases ha
mutual
theorem Rep.rdE (I : Inv X pins σ H s) (hy : sysB X.K = true) (sm : Same G H) : ∀ (d : D) {v : V} {u : Value}, Rep X.K X.mg G ρ d v → d.plainE = true → RelV v u → RdE s.heap u d.toPE
  | .non, _, _, h, _, r => by cases h; cases r; exact ⟨_, .none, by simp⟩
  | .bl b, _, _, h, _, r => by cases h; cases r; exact ⟨_, .bool b, by simp⟩
  | .int i, _, _, h, _, r => by cases h; obtain ⟨t, rfl⟩ := r; exact ⟨_, .int i t, by simp⟩
  | .str x, _, _, h, _, r => by cases h; obtain ⟨t, rfl⟩ := r; exact ⟨_, .str _ t, by simp⟩
  | .tup xs, _, _, h, z, r => by
    cases h with
    | tup h _ q =>
      cases r
      obtain ⟨its, rv, ⟨o, ho, hc, n, hd⟩, _⟩ := I.tuple (seqT sm h)
      obtain ⟨as, hr, na⟩ := Rep.rdEL I hy sm xs q (by simpa [D.plainE] using z) rv
      exact ⟨_, Reads.tuple ho hc hd hr, na⟩
  | .lst xs, _, _, h, z, r => by
    cases h with
    | lst h _ q =>
      cases r
      obtain ⟨its, rv, ⟨o, n, ho, hc, _, hd⟩, _⟩ := I.list (SqL.of (sm _ _ h))
      obtain ⟨as, hr, na⟩ := Rep.rdEL I hy sm xs q (by simpa [D.plainE] using z) rv
      refine ⟨_, Reads.list ho hc hd hr, fun m => ?_⟩
      rcases List.mem_cons.mp m with m | m
      · exact sys_ne I hy ho hd m
      · exact na m
  | .dic [] [], _, _, h, _, r => by
    cases h with
    | @dic a kvs _ _ hd q1 _ =>
      cases r
      obtain ⟨o, hd⟩ := hd
      have hk : kvs = [] := by
        cases kvs with
        | nil => rfl
        | cons p t => cases q1
      subst hk
      exact dic_rd I (.inr ⟨o, sm _ _ hd⟩)
theorem Rep.rdEL (I : Inv X pins σ H s) (hy : sysB X.K = true) (sm : Same G H) : ∀ (ds : List D) {vs : List V} {us : List Value}, RepL X.K X.mg G ρ ds vs → D.plainEL ds = true → Vals vs us → RdEL s.heap us (D.toPEL ds)
  | [], _, _, h, _, r => by cases h; cases r; exact ⟨_, .nil, by simp⟩
  | d :: ds, _, _, h, z, r => by
    have z' : d.plainE = true ∧ D.plainEL ds = true := by simpa [D.plainEL] using z
    cases h with
    | cons h t =>
      cases r with
      | cons r1 r2 => exact .cons (Rep.rdE I hy sm d h z'.1 r1) (Rep.rdEL I hy sm ds t z'.2 r2)
end
theorem RepO.rdE (I : Inv X pins σ H s) (hy : sysB X.K = true) {d : D} {v : V} {u : Value} (sm : Same G H) (h : RepO X.K X.mg G ρ H d v) (z : d.plainE = true) (r : RelV v u) : RdE s.heap u d.toPE := by
  rcases h with h | ⟨a, o, rfl, h, q, _⟩
  · exact Rep.rdE I hy sm d h z r
  · cases d <;> cases o <;> first
      | exact (show False from q).elim
      | (cases r
         obtain ⟨its, rv, ⟨o, n, ho, hc, _, hd⟩, _⟩ := I.list (SqL.of h)
         obtain ⟨as, hr, na⟩ := Rep.rdEL I hy sm _ q.2 (by simpa [D.plainE] using z) rv
         refine ⟨_, Reads.list ho hc hd hr, fun m => ?_⟩
         rcases List.mem_cons.mp m with m | m
         · exact sys_ne I hy ho hd m
         · exact na m)
      | (simp [D.plainE] at z)
end
def reprE (d : D) : Option Tx := if d.plainE = true ∧ d.toPE.showable = true ∧ d.toPE.depth ≤ 60 ∧ d.toPE.shown.length ≤ sizeLine ∧ toS (ofS d.toPE.shown) = d.toPE.shown then some (ofS d.toPE.shown) else none
def fReprE (d : D) : M D := match reprE d with
  | some t => pure (.str t)
  | none => bad
def rReprE (X : Cx) : List V → Hp → VK → Prop := fun vs H Q => ∃ (v : V) (d : PyData), vs = [v] ∧ (∀ pins s σ, Inv X pins σ H s → ∀ u, RelV v u → RdE s.heap u d) ∧ d.showable = true ∧ d.depth ≤ 60 ∧ d.shown.length ≤ sizeLine ∧ Q (.str d.shown) H
section
variable {X : Cx} {W : WX} {Ω : List Nat} {e : Expr} {ma : EM} {p pos : Pos}
theorem cr_reprE (hgd : X.A.guards = some []) (hu : X.A.units + 65 < cLine) : CallR X (.builtin "repr") (rReprE X) := by
  intro pins s σ H vs us Q I r h
  obtain ⟨v, d, rfl, hd, hs, hdp, hz, q⟩ := h
  obtain ⟨u, rfl, ru⟩ := vals1 r
  obtain ⟨as, rd, na⟩ := hd pins s σ I u ru
  cases rd with
  | none => exact PySem.P.repr_of_none ⟨.str _, H, I.tok _, ⟨_, rfl⟩, q⟩
  | bool b => exact PySem.P.repr_of_bool ⟨.str _, H, I.tok _, ⟨_, rfl⟩, q⟩
  | int i t => exact PySem.P.repr_of_int (by simpa [PyData.showable] using hs) ⟨.str _, H, I.tok _, ⟨_, rfl⟩, q⟩
  | str x t => exact PySem.P.repr_of_str ⟨.str _, H, I.tok _, ⟨_, rfl⟩, q⟩ hz
  | list h1 h2 h3 h4 => exact repr_of_reads' (.list h1 h2 h3 h4) hs (fun _ => na) hgd (by omega) (fun b o z => z) (fun h' u tk hk => ⟨.str _, H, I.kept hk, ⟨_, rfl⟩, q⟩) hz
  | tuple h1 h2 h3 h4 => exact repr_of_reads' (.tuple h1 h2 h3 h4) hs (fun _ => na) hgd (by omega) (fun b o z => z) (fun h' u tk hk => ⟨.str _, H, I.kept hk, ⟨_, rfl⟩, q⟩) hz
  | dict h1 h2 h3 h4 h5 => exact repr_of_reads' (.dict h1 h2 h3 h4 h5) hs (fun _ => na) hgd (by omega) (fun b o z => z) (fun h' u tk hk => ⟨.str _, H, I.kept hk, ⟨_, rfl⟩, q⟩) hz
theorem ok_reprE (hy : sysB X.K = true) : Ok1 X (rV X.K X.mg) (rReprE X) fReprE := by
  intro G ρ S H d x Wx Q s st rd p
  unfold fReprE reprE at p
  by_cases hk : d.plainE = true ∧ d.toPE.showable = true ∧ d.toPE.depth ≤ 60 ∧ d.toPE.shown.length ≤ sizeLine ∧ toS (ofS d.toPE.shown) = d.toPE.shown
  · rw [if_pos hk] at p
    obtain ⟨h1, h2, h3, h4, h5⟩ := hk
    refine ⟨x, d.toPE, rfl, fun pins s' σ I u r => RepO.rdE I hy s rd h1 r, h2, h3, h4, ?_⟩
    have hl : (ofS d.toPE.shown).length ≤ sizeLine := by
      have := toS_length (ofS d.toPE.shown)
      rw [h5] at this
      omega
    have r := Post.V (S := S) (d := .str (ofS d.toPE.shown)) p s st (Rep.str _ hl)
    rw [h5] at r
    exact r
  · rw [if_neg hk] at p
    exact (show False from p).elim
theorem pv_reprE (hy : sysB X.K = true) (hgd : X.A.guards = some []) (hu : X.A.units + 65 < cLine) (hg : Gl X "repr") (hm : X.mg "repr" = none) (ha : pO X W Ω e ma) (he : starEach [e] X.env = (false, eval e X.env) :: starEach [] X.env := by rfl) : pV X W Ω (.Call (.Name "repr" p) [e] [] pos) (eUn fReprE ma) :=
  p_callB1 (cr_reprE hgd hu) (ok_reprE hy) hg hm (by decide +kernel) ha (by decide) (by decide) he
end
def opEqN : D → D → M D
  | .lst (_ :: _), .lst [] => pure (.bl false)
  | d, e => opEq d e
def opNeN : D → D → M D
  | .lst (_ :: _), .lst [] => pure (.bl true)
  | d, e => opNe d e
section
variable {X : Cx} {G H : Hp} {ρ : List Addr}
def IsLN (K : PySem.W.Frag) (H : Hp) (x y : V) : Prop := ∃ a b xs, x = .ref a ∧ y = .ref b ∧ SqL K H a xs ∧ xs ≠ [] ∧ SqL K H b []
def rEqN (K : PySem.W.Frag) : R2 := fun x y H Q => (IsLN K H x y ∧ Q (.bl false) H) ∨ rEqD K x y H Q
def rNeN (K : PySem.W.Frag) : R2 := fun x y H Q => (IsLN K H x y ∧ Q (.bl true) H) ∨ rNeD K x y H Q
theorem lens_of {pins : List (Addr × Obj)} {σ : L2.St} {s : Shared} (I : Inv X pins σ H s) {x y : V} {v u : Value} (h : IsLN X.K H x y) (rx : RelV x v) (ry : RelV y u) :
    ∃ a b is js, v = .ref a ∧ u = .ref b ∧ s.heap.IsList a is ∧ s.heap.IsList b js ∧ (is.size != js.size) = true := by
  obtain ⟨a, b, xs, rfl, rfl, h1, h2, h3⟩ := h
  cases rx
  cases ry
  obtain ⟨is, r1, ⟨o1, n1, a1, a2, _, a3⟩, _⟩ := I.list h1
  obtain ⟨js, r2, ⟨o2, n2, b1, b2, _, b3⟩, _⟩ := I.list h3
  cases r2
  refine ⟨_, _, _, _, rfl, rfl, ⟨o1, a1, a2, n1, a3⟩, ⟨o2, b1, b2, n2, b3⟩, ?_⟩
  cases r1 with
  | nil => exact absurd rfl h2
  | cons _ _ => simp
theorem op_eqN (hu : X.A.units + 64 < cLine) : OpR X (compareOp .Eq) (rEqN X.K) := by
  intro pins s σ H x y v u Q I rx ry h
  rcases h with ⟨h, q⟩ | h
  · obtain ⟨a, b, is, js, rfl, rfl, l1, l2, hs⟩ := lens_of I h rx ry
    exact SeqAt.RcAt.lists_lengths l1 l2 hs (by omega) X.prog X.w _ _ ⟨.bl _, H, I, rfl, q⟩
  · exact op_eqD hu pins s σ H x y v u Q I rx ry h
theorem op_neN (hu : X.A.units + 64 < cLine) : OpR X (compareOp .NotEq) (rNeN X.K) := by
  intro pins s σ H x y v u Q I rx ry h
  rcases h with ⟨h, q⟩ | h
  · obtain ⟨a, b, is, js, rfl, rfl, l1, l2, hs⟩ := lens_of I h rx ry
    exact SeqAt.RcNeAt.lists_lengths l1 l2 hs (by omega) X.prog X.w _ _ ⟨.bl _, H, I, rfl, q⟩
  · exact op_neD hu pins s σ H x y v u Q I rx ry h
theorem sq_of {xs : List D} {v : V} (s : Same G H) (h : RepO X.K X.mg G ρ H (.lst xs) v) : ∃ a vs, v = .ref a ∧ SqL X.K H a vs ∧ RepL X.K X.mg G ρ xs vs := by
  rcases h with h | ⟨a, o, rfl, h, q, _⟩
  · cases h with
    | lst h _ q => exact ⟨_, _, rfl, SqL.of (s _ _ h), q⟩
  · cases o <;> first
      | exact (show False from q).elim
      | exact ⟨_, _, rfl, SqL.of h, q.2⟩
theorem ok_eqN : OpOk X (rEqN X.K) opEqN := by
  intro G ρ S H d e x y Wx Q s st rd re p
  unfold opEqN at p
  split at p
  · obtain ⟨a, vs, rfl, h1, q1⟩ := sq_of s rd
    obtain ⟨b, us, rfl, h2, q2⟩ := sq_of s re
    cases q2
    exact .inl ⟨⟨a, b, vs, rfl, rfl, h1, (fun z => by rw [z] at q1; cases q1), h2⟩, Post.V (S := S) (d := .bl false) p s st (.bl _)⟩
  · exact .inr (ok_eq (X := X) _ _ _ _ _ _ _ _ _ _ s st rd re p)
theorem ok_neN : OpOk X (rNeN X.K) opNeN := by
  intro G ρ S H d e x y Wx Q s st rd re p
  unfold opNeN at p
  split at p
  · obtain ⟨a, vs, rfl, h1, q1⟩ := sq_of s rd
    obtain ⟨b, us, rfl, h2, q2⟩ := sq_of s re
    cases q2
    exact .inl ⟨⟨a, b, vs, rfl, rfl, h1, (fun z => by rw [z] at q1; cases q1), h2⟩, Post.V (S := S) (d := .bl true) p s st (.bl _)⟩
  · exact .inr (ok_ne (X := X) _ _ _ _ _ _ _ _ _ _ s st rd re p)
theorem c_eqN (hu : X.A.units + 64 < cLine) : CmpOk X .Eq opEqN := ⟨⟨_, op_eqN hu, ok_eqN⟩⟩
theorem c_neN (hu : X.A.units + 64 < cLine) : CmpOk X .NotEq opNeN := ⟨⟨_, op_neN hu, ok_neN⟩⟩
end
end Mr

namespace Mr
open PySem PySem.Spec PyProof.Rows L2
def N_is_trait : List Str := ["thing"]
def b_is_trait : SM := (sRet (eAnd (eUn (fIs "str") (eVar 0)) (eBin opIn (eVar 0) (eC (.tup [(.str ['l', 'e', 'f', 't']), (.str ['t', 'o', 'p']), (.str ['w', 'i', 'd', 'e']), (.str ['h', 'i', 'g', 'h']), (.str ['s', 'i', 'z', 'e']), (.str ['i', 'n', 'k'])])))))
def m_is_trait : List D → M D := runB false N_is_trait b_is_trait
def N_must_be_trait : List Str := ["thing"]
def b_must_be_trait : SM := (sIf (tNot' (tVal (eFn m_is_trait (lCons (eVar 0) lNil))))
  (sRaise "NoTrait")
  sNext)
def m_must_be_trait : List D → M D := runB false N_must_be_trait b_must_be_trait
def N_master_by : List Str := ["masters", "name", "master"]
def b_master_by : SM := (sSeq (sFor (iSeq (eVar 0)) (gOne 2)
  (sIf (tBin opEq (eBin opIx (eVar 2) (eC (.int (0)))) (eVar 1))
  (sRet (eVar 2))
  sNext))
  (sRet (eC .non)))
def m_master_by : List D → M D := runB false N_master_by b_master_by
def N__law_names : List Str := ["pen", "many", "k", "letters", "some", "step", "code", "begin"]
def b__law_names : SM := (sSeq (sPar [3, 4] (lCons (eC (.str ['a', 'b', 'c', 'd', 'e', 'f', 'g', 'h', 'i', 'j', 'k', 'l', 'm', 'n', 'o', 'p', 'q', 'r', 's', 't', 'u', 'v', 'w', 'x', 'y', 'z'])) (lCons (eLst lNil) lNil)))
  (sSeq (sPar [5, 6] (lCons (eBin opAdd (eBin opIx (eLst (lCons (eC (.int (1))) (lCons (eC (.int (3))) (lCons (eC (.int (5))) (lCons (eC (.int (7))) (lCons (eC (.int (9))) (lCons (eC (.int (11))) (lCons (eC (.int (15))) (lCons (eC (.int (17))) lNil))))))))) (eFn m__law_draw (lCons (eVar 0) (lCons (eC (.int (8))) lNil)))) (eBin opMul (eC (.int (26))) (eFn m__law_draw (lCons (eVar 0) (lCons (eC (.int (13))) lNil))))) (lCons (eFn m__law_draw (lCons (eVar 0) (lCons (eC (.int (676))) lNil))) lNil)))
  (sSeq (sFor (iRng (eVar 1)) (gOne 2)
  (sSeq (sSet 7 (eBin opIx (eLst (lCons (eC (.str [])) (lCons (eC (.str [])) (lCons (eC (.str ['a'])) (lCons (eC (.str ['z', '9'])) (lCons (eC (.str ['t', 'i', 't', 'l', 'e'])) (lCons (eC (.str ['m', '0', 'm', '0', 'm', '0'])) (lCons (eC (.str ['b'])) lNil)))))))) (eFn m__law_draw (lCons (eVar 0) (lCons (eC (.int (7))) lNil)))))
  (sSeq (gd 4 (sApp 4 (eBin opAdd (eBin opAdd (eVar 7) (eBin opIx (eVar 3) (eBin opDiv (eVar 6) (eC (.int (26)))))) (eBin opIx (eVar 3) (eBin opMod (eVar 6) (eC (.int (26))))))))
  (sSet 6 (eBin opMod (eBin opAdd (eVar 6) (eVar 5)) (eC (.int (676))))))))
  (sSeq (sIf (tAnd' (tBin opGt (eVar 1) (eC (.int (0)))) (tBin opEq (eFn m__law_draw (lCons (eVar 0) (lCons (eC (.int (6))) lNil))) (eC (.int (0)))))
  (gd 4 (sSetI 4 (eBin opIx (eVar 3) (eFn m__law_draw (lCons (eVar 0) (lCons (eC (.int (26))) lNil)))) (eFn m__law_draw (lCons (eVar 0) (lCons (eVar 1) lNil)))))
  sNext)
  (sRet (eVar 4))))))
def m__law_names : List D → M D := runB false N__law_names b__law_names
def N__law_traits : List Str := []
def b__law_traits : SM := (sRet (eLst (lCons (eC (.str ['l', 'e', 'f', 't'])) (lCons (eC (.str ['t', 'o', 'p'])) (lCons (eC (.str ['w', 'i', 'd', 'e'])) (lCons (eC (.str ['h', 'i', 'g', 'h'])) (lCons (eC (.str ['s', 'i', 'z', 'e'])) (lCons (eC (.str ['i', 'n', 'k'])) lNil))))))))
def m__law_traits : List D → M D := runB false N__law_traits b__law_traits
def N__law_line : List Str := ["pen", "words", "line", "k"]
def b__law_line : SM := (sSeq (sSet 1 (eLst (lCons (eC (.str ['a'])) (lCons (eC (.str ['W', 'o', 'r', 'd'])) (lCons (eC (.str ['e', 'n', 'd', '.'])) (lCons (eC (.str ['{', 'n', '}'])) (lCons (eC (.str ['{', 'a', 'l', 'l', '}'])) (lCons (eC (.str ['{', 'n', 'a', 'm', 'e', '}'])) (lCons (eC (.str ['d', 'o', 'n', '\'', 't', ';'])) (lCons (eC (.str [])) (lCons (eC (.str [])) (lCons (eBin opMul (eC (.str ['x'])) (eC (.int (23)))) (lCons (eC (.str ['{', 'n'])) (lCons (eC (.str ['{', '{', 'n', '}', '}'])) (lCons (eC (.str ['{', 'N', '}', ' ', '~', '!'])) (lCons (eC (.str ['w', 'o', 'r', 'd'])) lNil))))))))))))))))
  (sSeq (sSet 2 (eMeth fJoin (eC (.str [' '])) (eComp [3] (iRng (eFn m__law_draw (lCons (eVar 0) (lCons (eC (.int (6))) lNil)))) (gOne 3) cYes (eBin opIx (eVar 1) (eFn m__law_draw (lCons (eVar 0) (lCons (eC (.int (14))) lNil)))))))
  (sRet (eSl (eVar 2) pNo (pSome (eBin opIx (eLst (lCons (eC (.int (60))) (lCons (eC (.int (60))) (lCons (eC (.int (7))) lNil)))) (eFn m__law_draw (lCons (eVar 0) (lCons (eC (.int (3))) lNil)))))))))
def m__law_line : List D → M D := runB false N__law_line b__law_line
def N__law_lines : List Str := ["pen", "many", "k"]
def b__law_lines : SM := (sSeq (sSet 1 (eBin opIx (eLst (lCons (eFn m__law_draw (lCons (eVar 0) (lCons (eC (.int (4))) lNil))) (lCons (eFn m__law_draw (lCons (eVar 0) (lCons (eC (.int (4))) lNil))) (lCons (eC (.int (12))) lNil)))) (eFn m__law_draw (lCons (eVar 0) (lCons (eC (.int (3))) lNil)))))
  (sRet (eUn fTuple (eComp [2] (iRng (eVar 1)) (gOne 2) cYes (eSl (eFn m__law_line (lCons (eVar 0) lNil)) pNo (pSome (eBin opIx (eLst (lCons (eC (.int (60))) (lCons (eC (.int (12))) lNil))) (eUn fInt (eBin opGt (eVar 1) (eC (.int (3))))))))))))
def m__law_lines : List D → M D := runB false N__law_lines b__law_lines
def N__law_worth : List Str := ["pen", "trait"]
def b__law_worth : SM := (sSeq (sIf (tBin opEq (eVar 1) (eC (.str ['i', 'n', 'k'])))
  (sRet (eBin opIx (eLst (lCons (eC (.str ['p', 'l', 'a', 'i', 'n'])) (lCons (eC (.str ['r', 'e', 'd'])) (lCons (eC (.str ['b', '1'])) (lCons (eC (.str ['a', 'b', 'c', 'd', 'e', 'f', 'g', '8'])) (lCons (eC (.str ['z'])) lNil)))))) (eFn m__law_draw (lCons (eVar 0) (lCons (eC (.int (5))) lNil)))))
  sNext)
  (sSeq (sIf (tBin opIn (eVar 1) (eTup (lCons (eC (.str ['l', 'e', 'f', 't'])) (lCons (eC (.str ['t', 'o', 'p'])) lNil))))
  (sRet (eBin opIx (eLst (lCons (eFn m__law_draw (lCons (eVar 0) (lCons (eC (.int (9))) lNil))) (lCons (eBin opAdd (eUn opNeg (eC (.int (999)))) (eFn m__law_draw (lCons (eVar 0) (lCons (eC (.int (1999))) lNil)))) (lCons (eUn opNeg (eC (.int (999)))) (lCons (eC (.int (999))) lNil))))) (eFn m__law_draw (lCons (eVar 0) (lCons (eC (.int (4))) lNil)))))
  sNext)
  (sSeq (sIf (tBin opEq (eVar 1) (eC (.str ['s', 'i', 'z', 'e'])))
  (sRet (eBin opIx (eLst (lCons (eC (.int (1))) (lCons (eC (.int (2))) (lCons (eC (.int (3))) (lCons (eBin opAdd (eC (.int (1))) (eFn m__law_draw (lCons (eVar 0) (lCons (eC (.int (99))) lNil)))) (lCons (eC (.int (99))) lNil)))))) (eFn m__law_draw (lCons (eVar 0) (lCons (eC (.int (5))) lNil)))))
  sNext)
  (sRet (eBin opIx (eLst (lCons (eBin opAdd (eC (.int (1))) (eFn m__law_draw (lCons (eVar 0) (lCons (eC (.int (30))) lNil)))) (lCons (eBin opAdd (eC (.int (1))) (eFn m__law_draw (lCons (eVar 0) (lCons (eC (.int (60))) lNil)))) (lCons (eBin opAdd (eC (.int (1))) (eFn m__law_draw (lCons (eVar 0) (lCons (eC (.int (999))) lNil)))) (lCons (eC (.int (1))) (lCons (eC (.int (999))) lNil)))))) (eFn m__law_draw (lCons (eVar 0) (lCons (eC (.int (5))) lNil))))))))
def m__law_worth : List D → M D := runB false N__law_worth b__law_worth
def N__law_place : List Str := ["pen", "name", "settings", "trait"]
def b__law_place : SM := (sSeq (sSet 2 (eUn fTuple (eComp [3] (iSeq (eFn m__law_traits lNil)) (gOne 3) (tBin opEq (eFn m__law_draw (lCons (eVar 0) (lCons (eC (.int (3))) lNil))) (eC (.int (0)))) (eTup (lCons (eVar 3) (lCons (eFn m__law_worth (lCons (eVar 0) (lCons (eVar 3) lNil))) lNil))))))
  (sRet (eTup (lCons (eVar 1) (lCons (eVar 2) (lCons (eBin opIx (eLst (lCons (eC .non) (lCons (eC .non) (lCons (eFn m__law_lines (lCons (eVar 0) lNil)) lNil)))) (eFn m__law_draw (lCons (eVar 0) (lCons (eC (.int (3))) lNil)))) lNil))))))
def m__law_place : List D → M D := runB false N__law_place b__law_place
def N__law_masters : List Str := ["pen", "most", "pool", "names", "made", "k", "over", "own", "name"]
def b__law_masters : SM := (sSeq (sSet 3 (eFn m__law_names (lCons (eVar 0) (lCons (eBin opAdd (eC (.int (1))) (eFn m__law_draw (lCons (eVar 0) (lCons (eVar 1) lNil)))) lNil))))
  (sSeq (sSet 4 (eLst lNil))
  (sSeq (sFor (iRng (eUn fLen (eVar 3))) (gOne 5)
  (sSeq (sSet 6 (eC .non))
  (sSeq (sIf (tAnd' (tBin opGt (eVar 5) (eC (.int (0)))) (tBin opGt (eFn m__law_draw (lCons (eVar 0) (lCons (eC (.int (4))) lNil))) (eC (.int (0)))))
  (sSet 6 (eBin opIx (eVar 3) (eBin opIx (eLst (lCons (eBin opSub (eVar 5) (eC (.int (1)))) (lCons (eFn m__law_draw (lCons (eVar 0) (lCons (eVar 5) lNil))) lNil))) (eFn m__law_draw (lCons (eVar 0) (lCons (eC (.int (2))) lNil))))))
  sNext)
  (sSeq (sSet 7 (eLst lNil))
  (sSeq (sFor (iSeq (eVar 2)) (gOne 8)
  (sIf (tAnd' (tBin opEq (eFn m__law_draw (lCons (eVar 0) (lCons (eC (.int (3))) lNil))) (eC (.int (0)))) (tBin opLt (eUn fLen (eVar 7)) (eC (.int (8)))))
  (gd 7 (sIns 7 (eFn m__law_draw (lCons (eVar 0) (lCons (eBin opAdd (eUn fLen (eVar 7)) (eC (.int (1)))) lNil))) (eFn m__law_place (lCons (eVar 0) (lCons (eVar 8) lNil)))))
  sNext))
  (gd 4 (sIns 4 (eFn m__law_draw (lCons (eVar 0) (lCons (eBin opAdd (eUn fLen (eVar 4)) (eC (.int (1)))) lNil))) (eTup (lCons (eBin opIx (eVar 3) (eVar 5)) (lCons (eVar 6) (lCons (eUn fTuple (eVar 7)) lNil)))))))))))
  (sRet (eUn fTuple (eVar 4))))))
def m__law_masters : List D → M D := runB false N__law_masters b__law_masters
end Mr

namespace Mr
open PySem PySem.Spec PyProof.Rows L2
def N__law_is_name2 : List Str := ["thing", "sign"]
def b__law_is_name2 : SM := (sSeq (sIf (tOr' (tNot' (tVal (eUn (fIs "str") (eVar 0)))) (tOr' (tNot' (tChn opLe opLe (eC (.int (1))) (eUn fLen (eVar 0)) (eC (.int (8))))) (tNot' (tChn opLe opLe (eC (.str ['a'])) (eBin opIx (eVar 0) (eC (.int (0)))) (eC (.str ['z']))))))
  (sRet (eC (.bl false)))
  sNext)
  (sRet (eUn fAll (eComp [1] (iSeq (eVar 0)) (gOne 1) cYes (eBin opIn (eVar 1) (eC (.str ['a', 'b', 'c', 'd', 'e', 'f', 'g', 'h', 'i', 'j', 'k', 'l', 'm', 'n', 'o', 'p', 'q', 'r', 's', 't', 'u', 'v', 'w', 'x', 'y', 'z', '0', '1', '2', '3', '4', '5', '6', '7', '8', '9'])))))))
def m__law_is_name2 : List D → M D := runB false N__law_is_name2 b__law_is_name2
def N__law_is_written : List Str := ["thing", "most", "sign"]
def b__law_is_written : SM := (sSeq (sIf (tOr' (tNot' (tVal (eUn (fIs "str") (eVar 0)))) (tBin opGt (eUn fLen (eVar 0)) (eVar 1)))
  (sRet (eC (.bl false)))
  sNext)
  (sRet (eUn fAll (eComp [2] (iSeq (eVar 0)) (gOne 2) cYes (eAnd (eChain opLe opLe (eC (.int (32))) (eUn fOrd (eVar 2)) (eC (.int (126)))) (eBin opNotIn (eUn fOrd (eVar 2)) (eTup (lCons (eC (.int (37))) (lCons (eC (.int (92))) lNil)))))))))
def m__law_is_written : List D → M D := runB false N__law_is_written b__law_is_written
def N__law_is_lines : List Str := ["thing", "line"]
def b__law_is_lines : SM := (sRet (eAnd (eUn (fIs "tuple") (eVar 0)) (eAnd (eBin opLt (eUn fLen (eVar 0)) (eC (.int (13)))) (eUn fAll (eComp [1] (iSeq (eVar 0)) (gOne 1) cYes (eFn m__law_is_written (lCons (eVar 1) (lCons (eC (.int (60))) lNil))))))))
def m__law_is_lines : List D → M D := runB false N__law_is_lines b__law_is_lines
def N__law_whole : List Str := ["thing"]
def b__law_whole : SM := (sRet (eAnd (eUn (fIs "int") (eVar 0)) (eNot (eUn (fIs "bool") (eVar 0)))))
def m__law_whole : List D → M D := runB false N__law_whole b__law_whole
def N__law_is_worth : List Str := ["trait", "thing"]
def b__law_is_worth : SM := (sSeq (sIf (tOr' (tNot' (tVal (eUn (fIs "str") (eVar 0)))) (tBin opNotIn (eVar 0) (eTup (lCons (eC (.str ['l', 'e', 'f', 't'])) (lCons (eC (.str ['t', 'o', 'p'])) (lCons (eC (.str ['w', 'i', 'd', 'e'])) (lCons (eC (.str ['h', 'i', 'g', 'h'])) (lCons (eC (.str ['s', 'i', 'z', 'e'])) (lCons (eC (.str ['i', 'n', 'k'])) lNil)))))))))
  (sRet (eC (.bl false)))
  sNext)
  (sSeq (sIf (tBin opEq (eVar 0) (eC (.str ['i', 'n', 'k'])))
  (sRet (eFn m__law_is_name2 (lCons (eVar 1) lNil)))
  sNext)
  (sSeq (sIf (tBin opIn (eVar 0) (eTup (lCons (eC (.str ['l', 'e', 'f', 't'])) (lCons (eC (.str ['t', 'o', 'p'])) lNil))))
  (sRet (eAnd (eFn m__law_whole (lCons (eVar 1) lNil)) (eChain opLe opLe (eUn opNeg (eC (.int (999)))) (eVar 1) (eC (.int (999))))))
  sNext)
  (sRet (eAnd (eFn m__law_whole (lCons (eVar 1) lNil)) (eChain opLe opLe (eC (.int (1))) (eVar 1) (eBin opIx (eLst (lCons (eC (.int (999))) (lCons (eC (.int (99))) lNil))) (eUn fInt (eBin opEq (eVar 0) (eC (.str ['s', 'i', 'z', 'e'])))))))))))
def m__law_is_worth : List D → M D := runB false N__law_is_worth b__law_is_worth
def N__law_rounds : List Str := ["masters", "name", "met", "one"]
def b__law_rounds : SM := (sSeq (sSet 2 (eLst lNil))
  (sSeq (sWhile (tAnd' (tBin opIsNot (eVar 1) (eC .non)) (tBin opNotIn (eVar 1) (eVar 2)))
  (sSeq (gd 2 (sApp 2 (eVar 1)))
  (sSet 1 (eBin opIx (eBin opIx (eComp [3] (iSeq (eVar 0)) (gOne 3) (tBin opEq (eBin opIx (eVar 3) (eC (.int (0)))) (eVar 1)) (eVar 3)) (eC (.int (0)))) (eC (.int (1)))))) 1000)
  (sRet (eBin opIsNot (eVar 1) (eC .non)))))
def m__law_rounds : List D → M D := runB false N__law_rounds b__law_rounds
end Mr

namespace Mr
open PySem PySem.Spec PyProof.Rows L2
def N_is_whole : List Str := ["thing"]
def b_is_whole : SM := (sRet (eAnd (eUn (fIs "int") (eVar 0)) (eNot (eUn (fIs "bool") (eVar 0)))))
def m_is_whole : List D → M D := runB false N_is_whole b_is_whole
def N_is_from : List Str := ["thing", "least", "most"]
def b_is_from : SM := (sRet (eAnd (eFn m_is_whole (lCons (eVar 0) lNil)) (eChain opLe opLe (eVar 1) (eVar 0) (eVar 2))))
def m_is_from : List D → M D := runB false N_is_from b_is_from
def N_is_name : List Str := ["thing", "sign"]
def b_is_name : SM := (sSeq (sIf (tOr' (tNot' (tVal (eUn (fIs "str") (eVar 0)))) (tOr' (tNot' (tChn opLe opLe (eC (.int (1))) (eUn fLen (eVar 0)) (eC (.int (8))))) (tBin opNotIn (eBin opIx (eVar 0) (eC (.int (0)))) (eC (.str ['a', 'b', 'c', 'd', 'e', 'f', 'g', 'h', 'i', 'j', 'k', 'l', 'm', 'n', 'o', 'p', 'q', 'r', 's', 't', 'u', 'v', 'w', 'x', 'y', 'z'])))))
  (sRet (eC (.bl false)))
  sNext)
  (sRet (eUn fAll (eComp [1] (iSeq (eVar 0)) (gOne 1) cYes (eOr (eBin opIn (eVar 1) (eC (.str ['a', 'b', 'c', 'd', 'e', 'f', 'g', 'h', 'i', 'j', 'k', 'l', 'm', 'n', 'o', 'p', 'q', 'r', 's', 't', 'u', 'v', 'w', 'x', 'y', 'z']))) (eBin opIn (eVar 1) (eC (.str ['0', '1', '2', '3', '4', '5', '6', '7', '8', '9']))))))))
def m_is_name : List D → M D := runB false N_is_name b_is_name
def tv_BOUNDS : List (Tx × D) := [(['l', 'e', 'f', 't'], (.tup [(.int (-999)), (.int (999))])), (['t', 'o', 'p'], (.tup [(.int (-999)), (.int (999))])), (['w', 'i', 'd', 'e'], (.tup [(.int (1)), (.int (999))])), (['h', 'i', 'g', 'h'], (.tup [(.int (1)), (.int (999))])), (['s', 'i', 'z', 'e'], (.tup [(.int (1)), (.int (99))]))]
def N_is_worth : List Str := ["trait", "thing"]
def b_is_worth : SM := (sSeq (sDrop (eFn m_must_be_trait (lCons (eVar 0) lNil)))
  (sSeq (sIf (tBin (opInK "BOUNDS" tv_BOUNDS) (eVar 0) (eC (.glo "BOUNDS")))
  (sRet (eFn m_is_from (lCons (eVar 1) (lCons (eBin opIx (eBin (opIxK "BOUNDS" tv_BOUNDS) (eC (.glo "BOUNDS")) (eVar 0)) (eC (.int (0)))) (lCons (eBin opIx (eBin (opIxK "BOUNDS" tv_BOUNDS) (eC (.glo "BOUNDS")) (eVar 0)) (eC (.int (1)))) lNil)))))
  sNext)
  (sRet (eFn m_is_name (lCons (eVar 1) lNil)))))
def m_is_worth : List D → M D := runB false N_is_worth b_is_worth
end Mr

namespace Mr
open PySem PySem.Spec PyProof.Rows L2
def N_is_written : List Str := ["thing", "most"]
def b_is_written : SM := (sRet (eAnd (eUn (fIs "str") (eVar 0)) (eAnd (eBin opLe (eUn fLen (eVar 0)) (eVar 1)) (eBin opEq (eMeth fStrip (eVar 0) (eC (.str [' ', '!', '"', '#', '$', '&', '\'', '(', ')', '*', '+', ',', '-', '.', '/', ':', ';', '<', '=', '>', '?', '@', '[', ']', '^', '_', '`', '{', '|', '}', '~', '0', '1', '2', '3', '4', '5', '6', '7', '8', '9', 'a', 'b', 'c', 'd', 'e', 'f', 'g', 'h', 'i', 'j', 'k', 'l', 'm', 'n', 'o', 'p', 'q', 'r', 's', 't', 'u', 'v', 'w', 'x', 'y', 'z', 'A', 'B', 'C', 'D', 'E', 'F', 'G', 'H', 'I', 'J', 'K', 'L', 'M', 'N', 'O', 'P', 'Q', 'R', 'S', 'T', 'U', 'V', 'W', 'X', 'Y', 'Z']))) (eC (.str []))))))
def m_is_written : List D → M D := runB false N_is_written b_is_written
def N_is_lines : List Str := ["thing", "line"]
def b_is_lines : SM := (sSeq (sIf (tOr' (tNot' (tVal (eUn (fIs "tuple") (eVar 0)))) (tBin opGt (eUn fLen (eVar 0)) (eC (.int (12)))))
  (sRet (eC (.bl false)))
  sNext)
  (sRet (eUn fAll (eComp [1] (iSeq (eVar 0)) (gOne 1) cYes (eFn m_is_written (lCons (eVar 1) (lCons (eC (.int (60))) lNil)))))))
def m_is_lines : List D → M D := runB false N_is_lines b_is_lines
def N_is_setting : List Str := ["thing"]
def b_is_setting : SM := (sRet (eAnd (eUn (fIs "tuple") (eVar 0)) (eAnd (eBin opEq (eUn fLen (eVar 0)) (eC (.int (2)))) (eAnd (eFn m_is_trait (lCons (eBin opIx (eVar 0) (eC (.int (0)))) lNil)) (eFn m_is_worth (lCons (eBin opIx (eVar 0) (eC (.int (0)))) (lCons (eBin opIx (eVar 0) (eC (.int (1)))) lNil)))))))
def m_is_setting : List D → M D := runB false N_is_setting b_is_setting
def N_rise : List Str := ["numbers", "k"]
def b_rise : SM := (sRet (eUn fAll (eComp [1] (iRng (eBin opSub (eUn fLen (eVar 0)) (eC (.int (1))))) (gOne 1) cYes (eBin opLtX (eBin opIx (eVar 0) (eVar 1)) (eBin opIx (eVar 0) (eBin opAdd (eVar 1) (eC (.int (1)))))))))
def m_rise : List D → M D := runB false N_rise b_rise
def N_are_settings : List Str := ["thing", "one"]
def b_are_settings : SM := (sSeq (sIf (tOr' (tNot' (tVal (eUn (fIs "tuple") (eVar 0)))) (tNot' (tVal (eUn fAll (eComp [1] (iSeq (eVar 0)) (gOne 1) cYes (eFn m_is_setting (lCons (eVar 1) lNil)))))))
  (sRet (eC (.bl false)))
  sNext)
  (sRet (eFn m_rise (lCons (eComp [1] (iSeq (eVar 0)) (gOne 1) cYes (eUn (fIdxT [['l', 'e', 'f', 't'], ['t', 'o', 'p'], ['w', 'i', 'd', 'e'], ['h', 'i', 'g', 'h'], ['s', 'i', 'z', 'e'], ['i', 'n', 'k']]) (eBin opIx (eVar 1) (eC (.int (0)))))) lNil))))
def m_are_settings : List D → M D := runB false N_are_settings b_are_settings
def N_is_place : List Str := ["thing"]
def b_is_place : SM := (sSeq (sIf (tOr' (tNot' (tVal (eUn (fIs "tuple") (eVar 0)))) (tOr' (tBin opNe (eUn fLen (eVar 0)) (eC (.int (3)))) (tOr' (tNot' (tVal (eFn m_is_name (lCons (eBin opIx (eVar 0) (eC (.int (0)))) lNil)))) (tNot' (tVal (eFn m_are_settings (lCons (eBin opIx (eVar 0) (eC (.int (1)))) lNil)))))))
  (sRet (eC (.bl false)))
  sNext)
  (sRet (eOr (eBin opIs (eBin opIx (eVar 0) (eC (.int (2)))) (eC .non)) (eFn m_is_lines (lCons (eBin opIx (eVar 0) (eC (.int (2)))) lNil)))))
def m_is_place : List D → M D := runB false N_is_place b_is_place
def N_are_unlike : List Str := ["names", "k"]
def b_are_unlike : SM := (sRet (eUn fAll (eComp [1] (iRng (eUn fLen (eVar 0))) (gOne 1) cYes (eBin opNotIn (eBin opIx (eVar 0) (eVar 1)) (eSl (eVar 0) pNo (pSome (eVar 1)))))))
def m_are_unlike : List D → M D := runB false N_are_unlike b_are_unlike
def N_is_master : List Str := ["thing", "name", "over", "own", "place"]
def b_is_master : SM := (sSeq (sIf (tOr' (tNot' (tVal (eUn (fIs "tuple") (eVar 0)))) (tOr' (tBin opNe (eUn fLen (eVar 0)) (eC (.int (3)))) (tNot' (tVal (eFn m_is_name (lCons (eBin opIx (eVar 0) (eC (.int (0)))) lNil))))))
  (sRet (eC (.bl false)))
  sNext)
  (sSeq (sUnp (gMany [1, 2, 3]) (eVar 0))
  (sSeq (sIf (tAnd' (tBin opIsNot (eVar 2) (eC .non)) (tNot' (tVal (eFn m_is_name (lCons (eVar 2) lNil)))))
  (sRet (eC (.bl false)))
  sNext)
  (sSeq (sIf (tOr' (tNot' (tVal (eUn (fIs "tuple") (eVar 3)))) (tOr' (tBin opGt (eUn fLen (eVar 3)) (eC (.int (8)))) (tNot' (tVal (eUn fAll (eComp [4] (iSeq (eVar 3)) (gOne 4) cYes (eFn m_is_place (lCons (eVar 4) lNil))))))))
  (sRet (eC (.bl false)))
  sNext)
  (sRet (eFn m_are_unlike (lCons (eComp [4] (iSeq (eVar 3)) (gOne 4) cYes (eBin opIx (eVar 4) (eC (.int (0))))) lNil)))))))
def m_is_master : List D → M D := runB false N_is_master b_is_master
def N_comes_round : List Str := ["masters", "name", "met"]
def b_comes_round : SM := (sSeq (sSet 2 (eLst lNil))
  (sSeq (sWhile (tBin opIsNot (eVar 1) (eC .non))
  (sSeq (sIf (tBin opIn (eVar 1) (eVar 2))
  (sRet (eC (.bl true)))
  sNext)
  (sSeq (gd 2 (sApp 2 (eVar 1)))
  (sSet 1 (eBin opIx (eFn m_master_by (lCons (eVar 0) (lCons (eVar 1) lNil))) (eC (.int (1))))))) 1000)
  (sRet (eC (.bl false)))))
def m_comes_round : List D → M D := runB false N_comes_round b_comes_round
def N_fault_of_masters : List Str := ["masters", "found", "names", "k", "master"]
def b_fault_of_masters : SM := (sSeq (sSet 1 (eWhere [] 3 (eNot (eFn m_is_master (lCons (eBin opIx (eVar 0) (eVar 3)) lNil))) (eVar 0)))
  (sSeq (sIf (tBin opIsNot (eVar 1) (eC .non))
  (sRet (eTup (lCons (eC (.str ['m', 'a', 's', 't', 'e', 'r'])) (lCons (eVar 1) lNil))))
  sNext)
  (sSeq (sSet 2 (eComp [4] (iSeq (eVar 0)) (gOne 4) cYes (eBin opIx (eVar 4) (eC (.int (0))))))
  (sSeq (sSet 1 (eWhere [] 3 (eBin opIn (eBin opIx (eVar 2) (eVar 3)) (eSl (eVar 2) pNo (pSome (eVar 3)))) (eVar 0)))
  (sSeq (sIf (tBin opIsNot (eVar 1) (eC .non))
  (sRet (eTup (lCons (eC (.str ['a', 'l', 'i', 'k', 'e'])) (lCons (eVar 1) lNil))))
  sNext)
  (sSeq (sSet 1 (eWhere [] 3 (eAnd (eBin opIsNot (eBin opIx (eBin opIx (eVar 0) (eVar 3)) (eC (.int (1)))) (eC .non)) (eBin opNotIn (eBin opIx (eBin opIx (eVar 0) (eVar 3)) (eC (.int (1)))) (eVar 2))) (eVar 0)))
  (sSeq (sIf (tBin opIsNot (eVar 1) (eC .non))
  (sRet (eTup (lCons (eC (.str ['o', 'v', 'e', 'r'])) (lCons (eVar 1) lNil))))
  sNext)
  (sSeq (sSet 1 (eWhere [] 3 (eFn m_comes_round (lCons (eVar 0) (lCons (eBin opIx (eVar 2) (eVar 3)) lNil))) (eVar 0)))
  (sSeq (sIf (tBin opIsNot (eVar 1) (eC .non))
  (sRet (eTup (lCons (eC (.str ['r', 'i', 'n', 'g'])) (lCons (eVar 1) lNil))))
  sNext)
  (sRet (eC .non)))))))))))
def m_fault_of_masters : List D → M D := runB false N_fault_of_masters b_fault_of_masters
def N_is_hand : List Str := ["thing"]
def b_is_hand : SM := (sSeq (sIf (tOr' (tNot' (tVal (eUn (fIs "tuple") (eVar 0)))) (tOr' (tBin opNe (eUn fLen (eVar 0)) (eC (.int (3)))) (tOr' (tNot' (tVal (eFn m_is_name (lCons (eBin opIx (eVar 0) (eC (.int (0)))) lNil)))) (tNot' (tVal (eFn m_is_trait (lCons (eBin opIx (eVar 0) (eC (.int (1)))) lNil)))))))
  (sRet (eC (.bl false)))
  sNext)
  (sRet (eFn m_is_worth (lCons (eBin opIx (eVar 0) (eC (.int (1)))) (lCons (eBin opIx (eVar 0) (eC (.int (2)))) lNil)))))
def m_is_hand : List D → M D := runB false N_is_hand b_is_hand
def N_are_hands : List Str := ["thing", "one"]
def b_are_hands : SM := (sSeq (sIf (tOr' (tNot' (tVal (eUn (fIs "tuple") (eVar 0)))) (tOr' (tBin opGt (eUn fLen (eVar 0)) (eC (.int (48)))) (tNot' (tVal (eUn fAll (eComp [1] (iSeq (eVar 0)) (gOne 1) cYes (eFn m_is_hand (lCons (eVar 1) lNil))))))))
  (sRet (eC (.bl false)))
  sNext)
  (sRet (eFn m_rise (lCons (eComp [1] (iSeq (eVar 0)) (gOne 1) cYes (eTup (lCons (eBin opIx (eVar 1) (eC (.int (0)))) (lCons (eUn (fIdxT [['l', 'e', 'f', 't'], ['t', 'o', 'p'], ['w', 'i', 'd', 'e'], ['h', 'i', 'g', 'h'], ['s', 'i', 'z', 'e'], ['i', 'n', 'k']]) (eBin opIx (eVar 1) (eC (.int (1))))) lNil)))) lNil))))
def m_are_hands : List D → M D := runB false N_are_hands b_are_hands
def N_is_fill : List Str := ["thing"]
def b_is_fill : SM := (sRet (eAnd (eUn (fIs "tuple") (eVar 0)) (eAnd (eBin opEq (eUn fLen (eVar 0)) (eC (.int (2)))) (eAnd (eFn m_is_name (lCons (eBin opIx (eVar 0) (eC (.int (0)))) lNil)) (eFn m_is_lines (lCons (eBin opIx (eVar 0) (eC (.int (1)))) lNil))))))
def m_is_fill : List D → M D := runB false N_is_fill b_is_fill
def N_are_fills : List Str := ["thing", "one"]
def b_are_fills : SM := (sSeq (sIf (tOr' (tNot' (tVal (eUn (fIs "tuple") (eVar 0)))) (tOr' (tBin opGt (eUn fLen (eVar 0)) (eC (.int (12)))) (tNot' (tVal (eUn fAll (eComp [1] (iSeq (eVar 0)) (gOne 1) cYes (eFn m_is_fill (lCons (eVar 1) lNil))))))))
  (sRet (eC (.bl false)))
  sNext)
  (sRet (eFn m_rise (lCons (eComp [1] (iSeq (eVar 0)) (gOne 1) cYes (eBin opIx (eVar 1) (eC (.int (0))))) lNil))))
def m_are_fills : List D → M D := runB false N_are_fills b_are_fills
def N_is_step : List Str := ["thing", "kind", "wait", "deed", "place", "line"]
def b_is_step : SM := (sSeq (sIf (tOr' (tNot' (tVal (eUn (fIs "tuple") (eVar 0)))) (tOr' (tBin opNe (eUn fLen (eVar 0)) (eC (.int (5)))) (tNot' (tVal (eFn m_is_name (lCons (eBin opIx (eVar 0) (eC (.int (3)))) lNil))))))
  (sRet (eC (.bl false)))
  sNext)
  (sSeq (sUnp (gMany [1, 2, 3, 4, 5]) (eVar 0))
  (sSeq (sIf (tOr' (tNot' (tVal (eUn (fIs "str") (eVar 1)))) (tOr' (tBin opNotIn (eVar 1) (eC (.tup [(.str ['p', 'r', 'e', 's', 's']), (.str ['w', 'i', 't', 'h']), (.str ['a', 'f', 't', 'e', 'r'])]))) (tOr' (tNot' (tVal (eUn (fIs "str") (eVar 3)))) (tBin opNotIn (eVar 3) (eC (.tup [(.str ['c', 'o', 'm', 'e']), (.str ['g', 'o']), (.str ['d', 'i', 'm'])]))))))
  (sRet (eC (.bl false)))
  sNext)
  (sRet (eAnd (eFn m_is_from (lCons (eVar 2) (lCons (eC (.int (0))) (lCons (eC (.int (99))) lNil)))) (eOr (eBin opIs (eVar 5) (eC .non)) (eFn m_is_from (lCons (eVar 5) (lCons (eC (.int (0))) (lCons (eC (.int (11))) lNil))))))))))
def m_is_step : List D → M D := runB false N_is_step b_is_step
def N_are_steps : List Str := ["thing", "one"]
def b_are_steps : SM := (sRet (eAnd (eUn (fIs "tuple") (eVar 0)) (eAnd (eBin opLe (eUn fLen (eVar 0)) (eC (.int (24)))) (eUn fAll (eComp [1] (iSeq (eVar 0)) (gOne 1) cYes (eFn m_is_step (lCons (eVar 1) lNil)))))))
def m_are_steps : List D → M D := runB false N_are_steps b_are_steps
def N_is_target : List Str := ["thing"]
def b_is_target : SM := (sSeq (sIf (tOr' (tNot' (tVal (eUn (fIs "tuple") (eVar 0)))) (tOr' (tBin opNotIn (eUn fLen (eVar 0)) (eTup (lCons (eC (.int (1))) (lCons (eC (.int (2))) lNil)))) (tNot' (tVal (eUn (fIs "str") (eBin opIx (eVar 0) (eC (.int (0)))))))))
  (sRet (eC (.bl false)))
  sNext)
  (sSeq (sIf (tBin opEq (eUn fLen (eVar 0)) (eC (.int (2))))
  (sRet (eAnd (eBin opEq (eBin opIx (eVar 0) (eC (.int (0)))) (eC (.str ['s', 'l', 'i', 'd', 'e']))) (eFn m_is_name (lCons (eBin opIx (eVar 0) (eC (.int (1)))) lNil))))
  sNext)
  (sRet (eBin opIn (eBin opIx (eVar 0) (eC (.int (0)))) (eTup (lCons (eC (.str ['f', 'i', 'r', 's', 't'])) (lCons (eC (.str ['l', 'a', 's', 't'])) (lCons (eC (.str ['r', 'e', 't', 'u', 'r', 'n'])) lNil))))))))
def m_is_target : List D → M D := runB false N_is_target b_is_target
def N_is_link : List Str := ["thing"]
def b_is_link : SM := (sRet (eAnd (eUn (fIs "tuple") (eVar 0)) (eAnd (eBin opEq (eUn fLen (eVar 0)) (eC (.int (2)))) (eAnd (eFn m_is_name (lCons (eBin opIx (eVar 0) (eC (.int (0)))) lNil)) (eFn m_is_target (lCons (eBin opIx (eVar 0) (eC (.int (1)))) lNil))))))
def m_is_link : List D → M D := runB false N_is_link b_is_link
def N_are_links : List Str := ["thing", "one"]
def b_are_links : SM := (sSeq (sIf (tOr' (tNot' (tVal (eUn (fIs "tuple") (eVar 0)))) (tOr' (tBin opGt (eUn fLen (eVar 0)) (eC (.int (12)))) (tNot' (tVal (eUn fAll (eComp [1] (iSeq (eVar 0)) (gOne 1) cYes (eFn m_is_link (lCons (eVar 1) lNil))))))))
  (sRet (eC (.bl false)))
  sNext)
  (sRet (eFn m_rise (lCons (eComp [1] (iSeq (eVar 0)) (gOne 1) cYes (eBin opIx (eVar 1) (eC (.int (0))))) lNil))))
def m_are_links : List D → M D := runB false N_are_links b_are_links
def N_is_slide : List Str := ["thing", "name", "master", "hands", "fills", "steps", "links", "hidden", "notes"]
def b_is_slide : SM := (sSeq (sIf (tOr' (tNot' (tVal (eUn (fIs "tuple") (eVar 0)))) (tOr' (tBin opNe (eUn fLen (eVar 0)) (eC (.int (8)))) (tOr' (tNot' (tVal (eFn m_is_name (lCons (eBin opIx (eVar 0) (eC (.int (0)))) lNil)))) (tNot' (tVal (eFn m_is_name (lCons (eBin opIx (eVar 0) (eC (.int (1)))) lNil)))))))
  (sRet (eC (.bl false)))
  sNext)
  (sSeq (sUnp (gMany [1, 2, 3, 4, 5, 6, 7, 8]) (eVar 0))
  (sSeq (sIf (tOr' (tNot' (tVal (eFn m_are_hands (lCons (eVar 3) lNil)))) (tOr' (tNot' (tVal (eFn m_are_fills (lCons (eVar 4) lNil)))) (tOr' (tNot' (tVal (eFn m_are_steps (lCons (eVar 5) lNil)))) (tNot' (tVal (eFn m_are_links (lCons (eVar 6) lNil)))))))
  (sRet (eC (.bl false)))
  sNext)
  (sRet (eAnd (eFn m_is_whole (lCons (eVar 7) lNil)) (eAnd (eBin opIn (eVar 7) (eTup (lCons (eC (.int (0))) (lCons (eC (.int (1))) lNil)))) (eFn m_is_written (lCons (eVar 8) (lCons (eC (.int (200))) lNil)))))))))
def m_is_slide : List D → M D := runB false N_is_slide b_is_slide
def N_leads_astray : List Str := ["slide", "names", "place", "target"]
def b_leads_astray : SM := (sRet (eUn fAny (eComp [2, 3] (iSeq (eBin opIx (eVar 0) (eC (.int (5))))) (gMany [2, 3]) cYes (eAnd (eBin opEq (eBin opIx (eVar 3) (eC (.int (0)))) (eC (.str ['s', 'l', 'i', 'd', 'e']))) (eBin opNotIn (eBin opIx (eVar 3) (eC (.int (1)))) (eVar 1))))))
def m_leads_astray : List D → M D := runB false N_leads_astray b_leads_astray
def N_fault_of_slides : List Str := ["masters", "slides", "found", "names", "over", "k", "slide", "master"]
def b_fault_of_slides : SM := (sSeq (sSet 2 (eWhere [] 5 (eNot (eFn m_is_slide (lCons (eBin opIx (eVar 1) (eVar 5)) lNil))) (eVar 1)))
  (sSeq (sIf (tBin opIsNot (eVar 2) (eC .non))
  (sRet (eTup (lCons (eC (.str ['s', 'l', 'i', 'd', 'e'])) (lCons (eVar 2) lNil))))
  sNext)
  (sSeq (sSet 3 (eComp [6] (iSeq (eVar 1)) (gOne 6) cYes (eBin opIx (eVar 6) (eC (.int (0))))))
  (sSeq (sSet 2 (eWhere [] 5 (eBin opIn (eBin opIx (eVar 3) (eVar 5)) (eSl (eVar 3) pNo (pSome (eVar 5)))) (eVar 1)))
  (sSeq (sIf (tBin opIsNot (eVar 2) (eC .non))
  (sRet (eTup (lCons (eC (.str ['s', 'a', 'm', 'e'])) (lCons (eVar 2) lNil))))
  sNext)
  (sSeq (sSet 4 (eComp [7] (iSeq (eVar 0)) (gOne 7) cYes (eBin opIx (eVar 7) (eC (.int (0))))))
  (sSeq (sSet 2 (eWhere [] 5 (eBin opNotIn (eBin opIx (eBin opIx (eVar 1) (eVar 5)) (eC (.int (1)))) (eVar 4)) (eVar 1)))
  (sSeq (sIf (tBin opIsNot (eVar 2) (eC .non))
  (sRet (eTup (lCons (eC (.str ['u', 'n', 'd', 'e', 'r'])) (lCons (eVar 2) lNil))))
  sNext)
  (sSeq (sSet 2 (eWhere [] 5 (eFn m_leads_astray (lCons (eBin opIx (eVar 1) (eVar 5)) (lCons (eVar 3) lNil))) (eVar 1)))
  (sSeq (sIf (tBin opIsNot (eVar 2) (eC .non))
  (sRet (eTup (lCons (eC (.str ['l', 'i', 'n', 'k'])) (lCons (eVar 2) lNil))))
  sNext)
  (sRet (eC .non))))))))))))
def m_fault_of_slides : List D → M D := runB false N_fault_of_slides b_fault_of_slides
def N_fault_of : List Str := ["thing", "masters", "slides"]
def b_fault_of : SM := (sSeq (sIf (tOr' (tNot' (tVal (eUn (fIs "tuple") (eVar 0)))) (tBin opNe (eUn fLen (eVar 0)) (eC (.int (2)))))
  (sRet (eTup (lCons (eC (.str ['d', 'e', 'c', 'k'])) lNil)))
  sNext)
  (sSeq (sUnp (gMany [1, 2]) (eVar 0))
  (sSeq (sIf (tOr' (tNot' (tVal (eUn (fIs "tuple") (eVar 1)))) (tOr' (tNot' (tVal (eUn (fIs "tuple") (eVar 2)))) (tNot' (tChn opLe opLe (eC (.int (1))) (eUn fLen (eVar 1)) (eC (.int (12)))))))
  (sRet (eTup (lCons (eC (.str ['d', 'e', 'c', 'k'])) lNil)))
  sNext)
  (sSeq (sIf (tBin opGt (eUn fLen (eVar 2)) (eC (.int (40))))
  (sRet (eTup (lCons (eC (.str ['d', 'e', 'c', 'k'])) lNil)))
  sNext)
  (sRet (eOr (eFn m_fault_of_masters (lCons (eVar 1) lNil)) (eFn m_fault_of_slides (lCons (eVar 1) (lCons (eVar 2) lNil)))))))))
def m_fault_of : List D → M D := runB false N_fault_of b_fault_of
end Mr

namespace Pf
open PySem PySem.Spec PyProof.Rows L2 Mr
def N_is_masters : List Str := ["thing", "names", "master", "one", "name"]
def N__law_is_place : List Str := ["thing", "last", "one", "at"]
def N__law_is_master : List Str := ["thing", "names", "one", "k"]
def N__law_are : List Str := ["thing", "names", "one", "k", "name"]
def N__law_bent : List Str := ["pen", "thing", "deep", "some", "at", "way"]
def N__law_over : List Str := ["pen", "masters", "at", "over", "name", "elder", "own"]
def N_law : List Str := ["script", "pen", "k", "pool", "masters", "some", "own", "many", "far", "chain", "j", "thing", "kept", "found", "name"]
def b_is_masters : SM := (sSeq (sIf (tOr' (tNot' (tVal (eUn (fIs "tuple") (eVar 0)))) (tNot' (tChn opLe opLe (eC (.int (1))) (eUn fLen (eVar 0)) (eC (.int (12))))))
  (sRet (eC (.bl false)))
  sNext)
  (sSeq (sIf (tNot' (tVal (eUn fAll (eComp [3] (iSeq (eVar 0)) (gOne 3) cYes (eFn m_is_master (lCons (eVar 3) lNil))))))
  (sRet (eC (.bl false)))
  sNext)
  (sSeq (sSet 1 (eComp [2] (iSeq (eVar 0)) (gOne 2) cYes (eBin opIx (eVar 2) (eC (.int (0))))))
  (sSeq (sIf (tOr' (tNot' (tVal (eFn m_are_unlike (lCons (eVar 1) lNil)))) (tNot' (tVal (eUn fAll (eComp [2] (iSeq (eVar 0)) (gOne 2) cYes (eOr (eBin opIs (eBin opIx (eVar 2) (eC (.int (1)))) (eC .non)) (eBin opIn (eBin opIx (eVar 2) (eC (.int (1)))) (eVar 1))))))))
  (sRet (eC (.bl false)))
  sNext)
  (sRet (eNot (eUn fAny (eComp [4] (iSeq (eVar 1)) (gOne 4) cYes (eFn m_comes_round (lCons (eVar 0) (lCons (eVar 4) lNil)))))))))))
def m_is_masters : List D → M D := runB false N_is_masters b_is_masters
def b__law_is_place : SM := (sSeq (sIf (tOr' (tNot' (tVal (eUn (fIs "tuple") (eVar 0)))) (tOr' (tBin opNe (eUn fLen (eVar 0)) (eC (.int (3)))) (tNot' (tVal (eFn m__law_is_name2 (lCons (eBin opIx (eVar 0) (eC (.int (0)))) lNil))))))
  (sRet (eC (.bl false)))
  sNext)
  (sSeq (sIf (tOr' (tNot' (tVal (eUn (fIs "tuple") (eBin opIx (eVar 0) (eC (.int (1))))))) (tAnd' (tBin opIsNot (eBin opIx (eVar 0) (eC (.int (2)))) (eC .non)) (tNot' (tVal (eFn m__law_is_lines (lCons (eBin opIx (eVar 0) (eC (.int (2)))) lNil))))))
  (sRet (eC (.bl false)))
  sNext)
  (sSeq (sSet 1 (eUn opNeg (eC (.int (1)))))
  (sSeq (sFor (iSeq (eBin opIx (eVar 0) (eC (.int (1))))) (gOne 2)
  (sSeq (sIf (tOr' (tNot' (tVal (eUn (fIs "tuple") (eVar 2)))) (tOr' (tBin opNe (eUn fLen (eVar 2)) (eC (.int (2)))) (tNot' (tVal (eFn m__law_is_worth (lCons (eBin opIx (eVar 2) (eC (.int (0)))) (lCons (eBin opIx (eVar 2) (eC (.int (1)))) lNil)))))))
  (sRet (eC (.bl false)))
  sNext)
  (sSeq (sSet 3 (eMthL fIndex (eLst (lCons (eC (.str ['l', 'e', 'f', 't'])) (lCons (eC (.str ['t', 'o', 'p'])) (lCons (eC (.str ['w', 'i', 'd', 'e'])) (lCons (eC (.str ['h', 'i', 'g', 'h'])) (lCons (eC (.str ['s', 'i', 'z', 'e'])) (lCons (eC (.str ['i', 'n', 'k'])) lNil))))))) (eBin opIx (eVar 2) (eC (.int (0))))))
  (sSeq (sIf (tBin opLe (eVar 3) (eVar 1))
  (sRet (eC (.bl false)))
  sNext)
  (sSet 1 (eVar 3))))))
  (sRet (eC (.bl true)))))))
def m__law_is_place : List D → M D := runB false N__law_is_place b__law_is_place
def b__law_is_master : SM := (sSeq (sIf (tOr' (tNot' (tVal (eUn (fIs "tuple") (eVar 0)))) (tOr' (tBin opNe (eUn fLen (eVar 0)) (eC (.int (3)))) (tNot' (tVal (eFn m__law_is_name2 (lCons (eBin opIx (eVar 0) (eC (.int (0)))) lNil))))))
  (sRet (eC (.bl false)))
  sNext)
  (sSeq (sIf (tAnd' (tBin opIsNot (eBin opIx (eVar 0) (eC (.int (1)))) (eC .non)) (tNot' (tVal (eFn m__law_is_name2 (lCons (eBin opIx (eVar 0) (eC (.int (1)))) lNil)))))
  (sRet (eC (.bl false)))
  sNext)
  (sSeq (sIf (tOr' (tNot' (tVal (eUn (fIs "tuple") (eBin opIx (eVar 0) (eC (.int (2))))))) (tOr' (tBin opGt (eUn fLen (eBin opIx (eVar 0) (eC (.int (2))))) (eC (.int (8)))) (tNot' (tVal (eUn fAll (eComp [2] (iSeq (eBin opIx (eVar 0) (eC (.int (2))))) (gOne 2) cYes (eFn m__law_is_place (lCons (eVar 2) lNil))))))))
  (sRet (eC (.bl false)))
  sNext)
  (sSeq (sSet 1 (eComp [2] (iSeq (eBin opIx (eVar 0) (eC (.int (2))))) (gOne 2) cYes (eBin opIx (eVar 2) (eC (.int (0))))))
  (sRet (eBin opEq (eComp [3] (iRng (eUn fLen (eVar 1))) (gOne 3) (tBin opIn (eBin opIx (eVar 1) (eVar 3)) (eSl (eVar 1) pNo (pSome (eVar 3)))) (eVar 3)) (eLst lNil)))))))
def m__law_is_master : List D → M D := runB false N__law_is_master b__law_is_master
def b__law_are : SM := (sSeq (sIf (tOr' (tNot' (tVal (eUn (fIs "tuple") (eVar 0)))) (tOr' (tNot' (tChn opLe opLe (eC (.int (1))) (eUn fLen (eVar 0)) (eC (.int (12))))) (tNot' (tVal (eUn fAll (eComp [2] (iSeq (eVar 0)) (gOne 2) cYes (eFn m__law_is_master (lCons (eVar 2) lNil))))))))
  (sRet (eC (.bl false)))
  sNext)
  (sSeq (sSet 1 (eComp [2] (iSeq (eVar 0)) (gOne 2) cYes (eBin opIx (eVar 2) (eC (.int (0))))))
  (sSeq (sIf (tBin opNeN (eComp [3] (iRng (eUn fLen (eVar 1))) (gOne 3) (tBin opIn (eBin opIx (eVar 1) (eVar 3)) (eSl (eVar 1) pNo (pSome (eVar 3)))) (eVar 3)) (eLst lNil))
  (sRet (eC (.bl false)))
  sNext)
  (sSeq (sIf (tBin opNeN (eComp [2] (iSeq (eVar 0)) (gOne 2) (tAnd' (tBin opIsNot (eBin opIx (eVar 2) (eC (.int (1)))) (eC .non)) (tBin opNotIn (eBin opIx (eVar 2) (eC (.int (1)))) (eVar 1))) (eVar 2)) (eLst lNil))
  (sRet (eC (.bl false)))
  sNext)
  (sRet (eBin opEqN (eComp [4] (iSeq (eVar 1)) (gOne 4) (tVal (eFn m__law_rounds (lCons (eVar 0) (lCons (eVar 4) lNil)))) (eVar 4)) (eLst lNil)))))))
def m__law_are : List D → M D := runB false N__law_are b__law_are
def b__law_bent (r : List D → M D) : SM := (sSeq (sIf (tOr' (tNot' (tVal (eUn (fIs "tuple") (eVar 1)))) (tOr' (tBin opEq (eUn fLen (eVar 1)) (eC (.int (0)))) (tOr' (tBin opEq (eVar 2) (eC (.int (0)))) (tBin opEq (eFn m__law_draw (lCons (eVar 0) (lCons (eC (.int (6))) lNil))) (eC (.int (0)))))))
  (sSeq (sSet 3 (eLst (lCons (eC .non) (lCons (eC (.bl true)) (lCons (eC (.int (0))) (lCons (eC (.int (1))) (lCons (eC (.int (999))) (lCons (eC (.int (1000))) (lCons (eUn opNeg (eC (.int (999)))) (lCons (eUn opNeg (eC (.int (1000)))) (lCons (eC (.int (99))) (lCons (eC (.int (100))) (lCons (eC (.str ['l', 'e', 'f', 't'])) (lCons (eC (.str ['i', 'n', 'k'])) (lCons (eC (.str ['a'])) (lCons (eC (.str ['z', 'z', '9'])) (lCons (eC (.str ['9', 'z'])) (lCons (eC (.str [])) (lCons (eC (.str ['A'])) lNil)))))))))))))))))))
  (sSeq (sSet 3 (eBin opAdd (eVar 3) (eLst (lCons (eTup lNil) (lCons (eLst lNil) (lCons (eC (.dic [] [])) (lCons (eTup (lCons (eC (.str ['l', 'e', 'f', 't'])) (lCons (eC (.int (5))) lNil))) (lCons (eTup (lCons (eC (.str ['s', 'i', 'z', 'e'])) (lCons (eC (.int (0))) lNil))) (lCons (eTup (lCons (eC (.str ['i', 'n', 'k'])) (lCons (eC (.str ['9'])) lNil))) (lCons (eTup (lCons (eC (.str ['w', 'i', 'd', 'e'])) (lCons (eC (.bl true)) lNil))) (lCons (eTup (lCons (eC (.str ['x'])) lNil)) (lCons (eTup (lCons (eC (.str ['a'])) (lCons (eTup lNil) (lCons (eC .non) lNil)))) lNil))))))))))))
  (sSeq (sSet 3 (eBin opAdd (eVar 3) (eLst (lCons (eLst (lCons (eVar 1) lNil)) (lCons (eTup (lCons (eVar 1) lNil)) lNil)))))
  (sRet (eBin opIx (eVar 3) (eFn m__law_draw (lCons (eVar 0) (lCons (eUn fLen (eVar 3)) lNil))))))))
  sNext)
  (sSeq (sPar [4, 5] (lCons (eFn m__law_draw (lCons (eVar 0) (lCons (eUn fLen (eVar 1)) lNil))) (lCons (eFn m__law_draw (lCons (eVar 0) (lCons (eC (.int (14))) lNil))) lNil)))
  (sSeq (sIf (tBin opEq (eVar 5) (eC (.int (0))))
  (sRet (eBin opAdd (eSl (eVar 1) pNo (pSome (eVar 4))) (eSl (eVar 1) (pSome (eBin opAdd (eVar 4) (eC (.int (1))))) pNo)))
  sNext)
  (sSeq (sIf (tBin opEq (eVar 5) (eC (.int (1))))
  (sRet (eBin opAdd (eBin opAdd (eSl (eVar 1) pNo (pSome (eVar 4))) (eSl (eVar 1) (pSome (eVar 4)) (pSome (eBin opAdd (eVar 4) (eC (.int (1))))))) (eSl (eVar 1) (pSome (eVar 4)) pNo)))
  sNext)
  (sSeq (sIf (tBin opEq (eVar 5) (eC (.int (2))))
  (sRet (eUn fList (eVar 1)))
  sNext)
  (sSeq (sIf (tAnd' (tBin opEq (eVar 5) (eC (.int (3)))) (tBin opGt (eVar 4) (eC (.int (0)))))
  (sRet (eBin opAdd (eBin opAdd (eSl (eVar 1) pNo (pSome (eBin opSub (eVar 4) (eC (.int (1)))))) (eTup (lCons (eBin opIx (eVar 1) (eVar 4)) (lCons (eBin opIx (eVar 1) (eBin opSub (eVar 4) (eC (.int (1))))) lNil)))) (eSl (eVar 1) (pSome (eBin opAdd (eVar 4) (eC (.int (1))))) pNo)))
  sNext)
  (sRet (eBin opAdd (eBin opAdd (eSl (eVar 1) pNo (pSome (eVar 4))) (eTup (lCons (eFn r (lCons (eVar 0) (lCons (eBin opIx (eVar 1) (eVar 4)) (lCons (eBin opSub (eVar 2) (eC (.int (1)))) lNil)))) lNil))) (eSl (eVar 1) (pSome (eBin opAdd (eVar 4) (eC (.int (1))))) pNo)))))))))
def m__law_bent : Nat → List D → M D
  | 0 => fun _ => bad
  | n + 1 => runB false N__law_bent (b__law_bent (m__law_bent n))
def b__law_over : SM := (sSeq (sSet 2 (eFn m__law_draw (lCons (eVar 0) (lCons (eUn fLen (eVar 1)) lNil))))
  (sSeq (sSet 3 (eBin opIx (eLst (lCons (eBin opIx (eBin opIx (eVar 1) (eFn m__law_draw (lCons (eVar 0) (lCons (eUn fLen (eVar 1)) lNil)))) (eC (.int (0)))) (lCons (eC (.str ['n', 'o', 'b', 'o', 'd', 'y'])) (lCons (eC .non) lNil)))) (eFn m__law_draw (lCons (eVar 0) (lCons (eC (.int (3))) lNil)))))
  (sSeq (sUnp (gMany [4, 5, 6]) (eBin opIx (eVar 1) (eVar 2)))
  (sRet (eBin opAdd (eBin opAdd (eSl (eVar 1) pNo (pSome (eVar 2))) (eTup (lCons (eTup (lCons (eVar 4) (lCons (eVar 3) (lCons (eVar 6) lNil)))) lNil))) (eSl (eVar 1) (pSome (eBin opAdd (eVar 2) (eC (.int (1))))) pNo))))))
def m__law_over : List D → M D := runB false N__law_over b__law_over
def b_law : SM := (sSeq (sFor (iRng (eBin opAdd (eC (.int (1))) (eFn m__law_draw (lCons (eVar 1) (lCons (eC (.int (8))) lNil))))) (gOne 2)
  (sSeq (sSet 3 (eFn m__law_names (lCons (eVar 1) (lCons (eBin opIx (eLst (lCons (eC (.int (4))) (lCons (eC (.int (12))) lNil))) (eFn m__law_draw (lCons (eVar 1) (lCons (eC (.int (2))) lNil)))) lNil))))
  (sSeq (sSet 4 (eFn m__law_masters (lCons (eVar 1) (lCons (eBin opIx (eLst (lCons (eC (.int (7))) (lCons (eC (.int (12))) lNil))) (eFn m__law_draw (lCons (eVar 1) (lCons (eC (.int (2))) lNil)))) (lCons (eVar 3) lNil)))))
  (sSeq (sSet 5 (eLst (lCons (eVar 4) (lCons (eFn (m__law_bent 20) (lCons (eVar 1) (lCons (eVar 4) (lCons (eC (.int (5))) lNil)))) (lCons (eFn (m__law_bent 20) (lCons (eVar 1) (lCons (eVar 4) (lCons (eC (.int (6))) lNil)))) (lCons (eFn m__law_over (lCons (eVar 1) (lCons (eVar 4) lNil))) lNil))))))
  (sSeq (gd 5 (sApp 5 (eFn (m__law_bent 20) (lCons (eVar 1) (lCons (eVar 4) (lCons (eC (.int (6))) lNil))))))
  (sSeq (sSet 6 (eUn fTuple (eComp [14] (iSeq (eSl (eBin opAdd (eFn m__law_names (lCons (eVar 1) (lCons (eC (.int (9))) lNil))) (eLst (lCons (eC (.str ['q'])) lNil))) pNo (pSome (eBin opAdd (eC (.int (8))) (eFn m__law_draw (lCons (eVar 1) (lCons (eC (.int (2))) lNil))))))) (gOne 14) cYes (eTup (lCons (eVar 14) (lCons (eTup lNil) (lCons (eC .non) lNil)))))))
  (sSeq (sSet 5 (eBin opAddL (eVar 5) (eLst (lCons (eFn m__law_over (lCons (eVar 1) (lCons (eBin opIx (eVar 5) (eC (.int (3)))) lNil))) (lCons (eBin opMul (eSl (eVar 4) pNo (pSome (eC (.int (1))))) (eC (.int (2)))) (lCons (eTup (lCons (eTup (lCons (eBin opIx (eBin opIx (eVar 4) (eC (.int (0)))) (eC (.int (0)))) (lCons (eC .non) (lCons (eVar 6) lNil)))) lNil)) (lCons (eUn fList (eVar 4)) (lCons (eC .non) lNil))))))))
  (sSeq (sSet 7 (eUn fTuple (eComp [14] (iSeq (eFn m__law_names (lCons (eVar 1) (lCons (eBin opAdd (eC (.int (12))) (eFn m__law_draw (lCons (eVar 1) (lCons (eC (.int (2))) lNil)))) lNil)))) (gOne 14) cYes (eTup (lCons (eVar 14) (lCons (eC .non) (lCons (eTup lNil) lNil)))))))
  (sSeq (sSet 8 (eFn m__law_names (lCons (eVar 1) (lCons (eC (.int (96))) lNil))))
  (sSeq (sSet 9 (eLst lNil))
  (sSeq (sFor (iRng (eUn fLen (eVar 7))) (gOne 10)
  (sSeq (sSet 6 (eUn fTuple (eComp [14] (iSeq (eSl (eVar 8) (pSome (eBin opMul (eC (.int (8))) (eBin opMod (eVar 10) (eC (.int (12)))))) (pSome (eBin opAdd (eBin opMul (eC (.int (8))) (eBin opMod (eVar 10) (eC (.int (12))))) (eC (.int (8))))))) (gOne 14) cYes (eTup (lCons (eVar 14) (lCons (eTup lNil) (lCons (eC .non) lNil)))))))
  (gd 9 (sApp 9 (eTup (lCons (eBin opIx (eBin opIx (eVar 7) (eVar 10)) (eC (.int (0)))) (lCons (eIf (tBin opEq (eVar 10) (eC (.int (0)))) (eC .non) (eBin opIx (eBin opIx (eVar 7) (eBin opSub (eVar 10) (eC (.int (1))))) (eC (.int (0))))) (lCons (eVar 6) lNil))))))))
  (sFor (iSeq (eBin opAdd (eVar 5) (eLst (lCons (eVar 7) (lCons (eTup lNil) (lCons (eBin opIx (eVar 4) (eC (.int (0)))) (lCons (eUn fTuple (eVar 9)) lNil))))))) (gOne 11)
  (sSeq (sSet 12 (eUn fReprE (eVar 11)))
  (sSeq (sSet 13 (eFn m_is_masters (lCons (eVar 11) lNil)))
  (sIf (tOr' (tNot' (tVal (eUn (fIs "bool") (eVar 13)))) (tOr' (tBin opNe (eVar 13) (eFn m__law_are (lCons (eVar 11) lNil))) (tBin opNe (eUn fReprE (eVar 11)) (eVar 12))))
  (sRet (eC (.bl false)))
  sNext)))))))))))))))
  (sRet (eC (.bl true))))
end Pf

namespace Pf
open PySem PySem.Spec PyProof.Rows L2 Mr
theorem sc_are_unlike : FnScope N_are_unlike ["names"] (defScope (top 27)) := ⟨rfl, rfl, rfl, by decide +kernel, rfl, by decide +kernel, by decide +kernel⟩
theorem sc_is_name : FnScope N_is_name ["thing"] (defScope (top 14)) := ⟨rfl, rfl, rfl, by decide +kernel, rfl, by decide +kernel, by decide +kernel⟩
theorem sc_is_written : FnScope N_is_written ["thing", "most"] (defScope (top 15)) := ⟨rfl, rfl, rfl, by decide +kernel, rfl, by decide +kernel, by decide +kernel⟩
theorem sc_is_lines : FnScope N_is_lines ["thing"] (defScope (top 16)) := ⟨rfl, rfl, rfl, by decide +kernel, rfl, by decide +kernel, by decide +kernel⟩
theorem sc_is_trait : FnScope N_is_trait ["thing"] (defScope (top 17)) := ⟨rfl, rfl, rfl, by decide +kernel, rfl, by decide +kernel, by decide +kernel⟩
theorem sc_is_whole : FnScope N_is_whole ["thing"] (defScope (top 12)) := ⟨rfl, rfl, rfl, by decide +kernel, rfl, by decide +kernel, by decide +kernel⟩
theorem sc_is_from : FnScope N_is_from ["thing", "least", "most"] (defScope (top 13)) := ⟨rfl, rfl, rfl, by decide +kernel, rfl, by decide +kernel, by decide +kernel⟩
theorem sc_must_be_trait : FnScope N_must_be_trait ["thing"] (defScope (top 18)) := ⟨rfl, rfl, rfl, by decide +kernel, rfl, by decide +kernel, by decide +kernel⟩
theorem sc_is_worth : FnScope N_is_worth ["trait", "thing"] (defScope (top 19)) := ⟨rfl, rfl, rfl, by decide +kernel, rfl, by decide +kernel, by decide +kernel⟩
theorem sc_is_setting : FnScope N_is_setting ["thing"] (defScope (top 23)) := ⟨rfl, rfl, rfl, by decide +kernel, rfl, by decide +kernel, by decide +kernel⟩
theorem sc_rise : FnScope N_rise ["numbers"] (defScope (top 24)) := ⟨rfl, rfl, rfl, by decide +kernel, rfl, by decide +kernel, by decide +kernel⟩
theorem sc_are_settings : FnScope N_are_settings ["thing"] (defScope (top 25)) := ⟨rfl, rfl, rfl, by decide +kernel, rfl, by decide +kernel, by decide +kernel⟩
theorem sc_is_place : FnScope N_is_place ["thing"] (defScope (top 26)) := ⟨rfl, rfl, rfl, by decide +kernel, rfl, by decide +kernel, by decide +kernel⟩
theorem sc_is_master : FnScope N_is_master ["thing"] (defScope (top 28)) := ⟨rfl, rfl, rfl, by decide +kernel, rfl, by decide +kernel, by decide +kernel⟩
theorem sc_master_by : FnScope N_master_by ["masters", "name"] (defScope (top 29)) := ⟨rfl, rfl, rfl, by decide +kernel, rfl, by decide +kernel, by decide +kernel⟩
theorem sc_comes_round : FnScope N_comes_round ["masters", "name"] (defScope (top 30)) := ⟨rfl, rfl, rfl, by decide +kernel, rfl, by decide +kernel, by decide +kernel⟩
theorem sc_is_masters : FnScope N_is_masters ["thing"] (defScope (top 31)) := ⟨rfl, rfl, rfl, by decide +kernel, rfl, by decide +kernel, by decide +kernel⟩
theorem sc__law_pen : FnScope ["script"] ["script"] (defScope (top 33)) := ⟨rfl, rfl, rfl, by decide +kernel, rfl, by decide +kernel, by decide +kernel⟩
theorem sc__law_draw : FnScope N__law_draw ["pen", "many"] (defScope (top 34)) := ⟨rfl, rfl, rfl, by decide +kernel, rfl, by decide +kernel, by decide +kernel⟩
theorem sc__law_names : FnScope N__law_names ["pen", "many"] (defScope (top 35)) := ⟨rfl, rfl, rfl, by decide +kernel, rfl, by decide +kernel, by decide +kernel⟩
theorem sc__law_line : FnScope N__law_line ["pen"] (defScope (top 36)) := ⟨rfl, rfl, rfl, by decide +kernel, rfl, by decide +kernel, by decide +kernel⟩
theorem sc__law_lines : FnScope N__law_lines ["pen"] (defScope (top 37)) := ⟨rfl, rfl, rfl, by decide +kernel, rfl, by decide +kernel, by decide +kernel⟩
theorem sc__law_worth : FnScope N__law_worth ["pen", "trait"] (defScope (top 38)) := ⟨rfl, rfl, rfl, by decide +kernel, rfl, by decide +kernel, by decide +kernel⟩
theorem sc__law_traits : FnScope N__law_traits [] (defScope (top 39)) := ⟨rfl, rfl, rfl, by decide +kernel, rfl, by decide +kernel, by decide +kernel⟩
theorem sc__law_place : FnScope N__law_place ["pen", "name"] (defScope (top 40)) := ⟨rfl, rfl, rfl, by decide +kernel, rfl, by decide +kernel, by decide +kernel⟩
theorem sc__law_masters : FnScope N__law_masters ["pen", "most", "pool"] (defScope (top 41)) := ⟨rfl, rfl, rfl, by decide +kernel, rfl, by decide +kernel, by decide +kernel⟩
theorem sc__law_is_name : FnScope N__law_is_name2 ["thing"] (defScope (top 43)) := ⟨rfl, rfl, rfl, by decide +kernel, rfl, by decide +kernel, by decide +kernel⟩
theorem sc__law_is_written : FnScope N__law_is_written ["thing", "most"] (defScope (top 44)) := ⟨rfl, rfl, rfl, by decide +kernel, rfl, by decide +kernel, by decide +kernel⟩
theorem sc__law_is_lines : FnScope N__law_is_lines ["thing"] (defScope (top 45)) := ⟨rfl, rfl, rfl, by decide +kernel, rfl, by decide +kernel, by decide +kernel⟩
theorem sc__law_whole : FnScope N__law_whole ["thing"] (defScope (top 42)) := ⟨rfl, rfl, rfl, by decide +kernel, rfl, by decide +kernel, by decide +kernel⟩
theorem sc__law_is_worth : FnScope N__law_is_worth ["trait", "thing"] (defScope (top 46)) := ⟨rfl, rfl, rfl, by decide +kernel, rfl, by decide +kernel, by decide +kernel⟩
theorem sc__law_is_place : FnScope N__law_is_place ["thing"] (defScope (top 47)) := ⟨rfl, rfl, rfl, by decide +kernel, rfl, by decide +kernel, by decide +kernel⟩
theorem sc__law_is_master : FnScope N__law_is_master ["thing"] (defScope (top 48)) := ⟨rfl, rfl, rfl, by decide +kernel, rfl, by decide +kernel, by decide +kernel⟩
theorem sc__law_rounds : FnScope N__law_rounds ["masters", "name"] (defScope (top 49)) := ⟨rfl, rfl, rfl, by decide +kernel, rfl, by decide +kernel, by decide +kernel⟩
theorem sc__law_are : FnScope N__law_are ["thing"] (defScope (top 50)) := ⟨rfl, rfl, rfl, by decide +kernel, rfl, by decide +kernel, by decide +kernel⟩
theorem sc__law_bent : FnScope N__law_bent ["pen", "thing", "deep"] (defScope (top 51)) := ⟨rfl, rfl, rfl, by decide +kernel, rfl, by decide +kernel, by decide +kernel⟩
theorem sc__law_over : FnScope N__law_over ["pen", "masters"] (defScope (top 52)) := ⟨rfl, rfl, rfl, by decide +kernel, rfl, by decide +kernel, by decide +kernel⟩
theorem sc_law : FnScope N_law ["script"] (defScope (top 53)) := ⟨rfl, rfl, rfl, by decide +kernel, rfl, by decide +kernel, by decide +kernel⟩
section
variable {P : Program} {w : World} {K : PySem.W.Frag} {mg : Str → Option Value} {base h : Heap}
theorem f_are_unlike (T : Tw K w mg base h fa fn exs ts tabs tf xs) : Df P w K mg base "are_unlike" 1 false 1 m_are_unlike :=
  df_of (Ωe := []) (T.u.t.glo 23) (T.u.t.c.def_ 12 (d := d_are_unlike) rfl) sc_are_unlike (fun _ _ _ _ _ _ us hl => match us, hl with | [_], _ => rfl) fun cdv A outer s H E en hr =>
  (q_one (q_ret (pv_all rfl rfl (T.u.t.free 8) (po_V (pv_lc rfl sc_are_unlike.nd (blkOk_by (own := [("k", 1)]) (by rfl)) g_one (by decide) (pi_rng rfl (T.u.t.free 0) (po_V (pv_len rfl (T.u.t.free 3) (po_V (pv_var 0))))) (fun _ _ _ _ _ => (pg_one sc_are_unlike.nd rfl)) (fun _ _ _ _ _ => pts_0) (fun _ _ _ _ _ => (pv_c1 (c_nin hr.u65) (po_V (pv_ix (po_V (pv_var 0)) (po_V (pv_var 1)))) (po_V (pv_sl (po_V (pv_var 0)) pp_no (pp_some (po_V (pv_var 1))))) (by rfl))))))))
theorem f_is_name (T : Tw K w mg base h fa fn exs ts tabs tf xs) : Df P w K mg base "is_name" 1 false 1 m_is_name :=
  df_of (Ωe := []) (T.u.t.glo 24) (T.u.t.c.def_ 2 (d := d_is_name) rfl) sc_is_name (fun _ _ _ _ _ _ us hl => match us, hl with | [_], _ => rfl) fun cdv A outer s H E en hr =>
  (q_cons (q_if (pt_w (pw_o (pt_no (pt_val' (po_V (pv_isi rfl (T.u.t.free 5) rfl (T.u.t.free 13) (by decide +kernel) (po_V (pv_var 0)))))) (pw_o (pt_no (pt_chain' c_le c_le (po_V pv_int) (po_V (pv_len rfl (T.u.t.free 3) (po_V (pv_var 0)))) (po_V (pv_gi rfl (T.u.t.gi 12))))) (pw_o1 (pt_c1 (c_nin hr.u65) (po_V (pv_ix (po_V (pv_var 0)) (po_V pv_int))) (po_V (pv_gs ['a', 'b', 'c', 'd', 'e', 'f', 'g', 'h', 'i', 'j', 'k', 'l', 'm', 'n', 'o', 'p', 'q', 'r', 's', 't', 'u', 'v', 'w', 'x', 'y', 'z'] rfl (T.u.t.gs 11))) (by rfl))))))
  (q_one (q_ret pv_bl))
  q_nil)
  (q_one (q_ret (pv_all rfl rfl (T.u.t.free 8) (po_V (pv_lc rfl sc_is_name.nd (blkOk_by (own := [("sign", 1)]) (by rfl)) g_one (by decide) (pi_seq (pv_var 0)) (fun _ _ _ _ _ => (pg_one sc_is_name.nd rfl)) (fun _ _ _ _ _ => pts_0) (fun _ _ _ _ _ => (pv_or (pv_c1 (c_in hr.u65) (po_V (pv_var 1)) (po_V (pv_gs ['a', 'b', 'c', 'd', 'e', 'f', 'g', 'h', 'i', 'j', 'k', 'l', 'm', 'n', 'o', 'p', 'q', 'r', 's', 't', 'u', 'v', 'w', 'x', 'y', 'z'] rfl (T.u.t.gs 11))) (by rfl)) (pv_b1 (pv_c1 (c_in hr.u65) (po_V (pv_var 1)) (po_V (pv_gs ['0', '1', '2', '3', '4', '5', '6', '7', '8', '9'] rfl (T.u.t.gs 14))) (by rfl)))))))))))
theorem f_is_written (T : Tw K w mg base h fa fn exs ts tabs tf xs) : Df P w K mg base "is_written" 1 false 2 m_is_written :=
  df_of (Ωe := []) (T.u.t.glo 25) (T.u.t.c.def_ 3 (d := d_is_written) rfl) sc_is_written (fun _ _ _ _ _ _ us hl => match us, hl with | [_, _], _ => rfl) fun cdv A outer s H E en hr =>
  (q_one (q_ret (pv_and (pv_isi rfl (T.u.t.free 5) rfl (T.u.t.free 13) (by decide +kernel) (po_V (pv_var 0))) (pv_and (pv_c1 c_le (po_V (pv_len rfl (T.u.t.free 3) (po_V (pv_var 0)))) (po_V (pv_var 1)) (by rfl)) (pv_b1 (pv_c1 (c_eq hr.units) (po_V (pv_strip (po_V (pv_var 0)) (po_V (pv_gs [' ', '!', '"', '#', '$', '&', '\'', '(', ')', '*', '+', ',', '-', '.', '/', ':', ';', '<', '=', '>', '?', '@', '[', ']', '^', '_', '`', '{', '|', '}', '~', '0', '1', '2', '3', '4', '5', '6', '7', '8', '9', 'a', 'b', 'c', 'd', 'e', 'f', 'g', 'h', 'i', 'j', 'k', 'l', 'm', 'n', 'o', 'p', 'q', 'r', 's', 't', 'u', 'v', 'w', 'x', 'y', 'z', 'A', 'B', 'C', 'D', 'E', 'F', 'G', 'H', 'I', 'J', 'K', 'L', 'M', 'N', 'O', 'P', 'Q', 'R', 'S', 'T', 'U', 'V', 'W', 'X', 'Y', 'Z'] rfl (T.u.t.gs 17))))) (po_V (pv_str [])) (by rfl)))))))
theorem f_is_lines (T : Tw K w mg base h fa fn exs ts tabs tf xs) : Df P w K mg base "is_lines" 2 false 1 m_is_lines :=
  df_of (Ωe := []) (T.u.t.glo 26) (T.u.t.c.def_ 4 (d := d_is_lines) rfl) sc_is_lines (fun _ _ _ _ _ _ us hl => match us, hl with | [_], _ => rfl) fun cdv A outer s H E en hr =>
  (q_cons (q_if (pt_w (pw_o (pt_no (pt_val' (po_V (pv_isi rfl (T.u.t.free 5) rfl (T.u.t.free 1) (by decide +kernel) (po_V (pv_var 0)))))) (pw_o1 (pt_c1 c_gt (po_V (pv_len rfl (T.u.t.free 3) (po_V (pv_var 0)))) (po_V (pv_gi rfl (T.u.t.gi 15))) (by rfl)))))
  (q_one (q_ret pv_bl))
  q_nil)
  (q_one (q_ret (pv_all rfl rfl (T.u.t.free 8) (po_V (pv_lc rfl sc_is_lines.nd (blkOk_by (own := [("line", 1)]) (by rfl)) g_one (by decide) (pi_seq (pv_var 0)) (fun _ _ _ _ _ => (pg_one sc_is_lines.nd rfl)) (fun _ _ _ _ _ => pts_0) (fun _ _ _ _ _ => (p_callV (f_is_written T) hr takesN rfl (pl_cons (pv_var 1) (pl_cons (pv_gi rfl (T.u.t.gi 16)) pl_nil))))))))))
theorem f_is_trait (T : Tw K w mg base h fa fn exs ts tabs tf xs) : Df P w K mg base "is_trait" 1 false 1 m_is_trait :=
  df_of (Ωe := []) (T.u.t.glo 27) (T.u.t.c.def_ 5 (d := d_is_trait) rfl) sc_is_trait (fun _ _ _ _ _ _ us hl => match us, hl with | [_], _ => rfl) fun cdv A outer s H E en hr =>
  (q_one (q_ret (pv_and (pv_isi rfl (T.u.t.free 5) rfl (T.u.t.free 13) (by decide +kernel) (po_V (pv_var 0))) (pv_b1 (pv_c1 (c_in hr.u65) (po_V (pv_var 0)) (po_V (pv_con rfl (T.u.con 0))) (by rfl))))))
theorem f_is_whole (T : Tw K w mg base h fa fn exs ts tabs tf xs) : Df P w K mg base "is_whole" 1 false 1 m_is_whole :=
  df_of (Ωe := []) (T.u.t.glo 28) (T.u.t.c.def_ 0 (d := d_is_whole) rfl) sc_is_whole (fun _ _ _ _ _ _ us hl => match us, hl with | [_], _ => rfl) fun cdv A outer s H E en hr =>
  (q_one (q_ret (pv_and (pv_isi rfl (T.u.t.free 5) rfl (T.u.t.free 19) (by decide +kernel) (po_V (pv_var 0))) (pv_b1 (pv_not (po_V (pv_isi rfl (T.u.t.free 5) rfl (T.u.t.free 6) (by decide +kernel) (po_V (pv_var 0)))))))))
theorem f_is_from (T : Tw K w mg base h fa fn exs ts tabs tf xs) : Df P w K mg base "is_from" 2 false 3 m_is_from :=
  df_of (Ωe := []) (T.u.t.glo 29) (T.u.t.c.def_ 1 (d := d_is_from) rfl) sc_is_from (fun _ _ _ _ _ _ us hl => match us, hl with | [_, _, _], _ => rfl) fun cdv A outer s H E en hr =>
  (q_one (q_ret (pv_and (p_callV (f_is_whole T) hr (L2N.takes_of rfl rfl rfl rfl) rfl (pl_cons (pv_var 0) pl_nil)) (pv_b1 (pv_chain c_le c_le (po_V (pv_var 1)) (po_V (pv_var 0)) (po_V (pv_var 2)))))))
theorem f_must_be_trait (T : Tw K w mg base h fa fn exs ts tabs tf xs) : Df P w K mg base "must_be_trait" 2 false 1 m_must_be_trait :=
  df_of (Ωe := []) (T.u.t.glo 30) (T.u.t.c.def_ 6 (d := d_must_be_trait) rfl) sc_must_be_trait (fun _ _ _ _ _ _ us hl => match us, hl with | [_], _ => rfl) fun cdv A outer s H E en hr =>
  (q_one (q_if (pt_no (pt_val' (po_V (p_callV (f_is_trait T) hr (L2N.takes_of rfl rfl rfl rfl) rfl (pl_cons (pv_var 0) pl_nil)))))
  (q_one (q_raiseF rfl (L2N.takes_of rfl rfl rfl rfl) (T.u.t.glo 21) (T.u.t.exc 20) (T.cl 0) rfl))
  q_nil))
theorem f_is_worth (T : Tw K w mg base h fa fn exs ts tabs tf xs) : Df P w K mg base "is_worth" 3 false 2 m_is_worth :=
  df_of (Ωe := []) (T.u.t.glo 31) (T.u.t.c.def_ 7 (d := d_is_worth) rfl) sc_is_worth (fun _ _ _ _ _ _ us hl => match us, hl with | [_, _], _ => rfl) fun cdv A outer s H E en hr =>
  (q_cons (q_expr (p_callV (f_must_be_trait T) hr (L2N.takes_of rfl rfl rfl rfl) rfl (pl_cons (pv_var 0) pl_nil)))
  (q_cons (q_if (pt_c1 (c_inK (T.u.tab 0 18)) (po_V (pv_var 0)) (po_V (pv_fn rfl (T.u.t.glo 18))) (by rfl))
  (q_one (q_ret (p_callV (f_is_from T) hr (L2N.takes_of rfl rfl rfl rfl) rfl (pl_cons (pv_var 1) (pl_cons (pv_ix (po_V (pv_ixK (T.u.tab 0 18) (po_V (pv_fn rfl (T.u.t.glo 18))) (po_V (pv_var 0)))) (po_V pv_int)) (pl_cons (pv_ix (po_V (pv_ixK (T.u.tab 0 18) (po_V (pv_fn rfl (T.u.t.glo 18))) (po_V (pv_var 0)))) (po_V pv_int)) pl_nil))))))
  q_nil)
  (q_one (q_ret (p_callV (f_is_name T) hr (L2N.takes_of rfl rfl rfl rfl) rfl (pl_cons (pv_var 1) pl_nil))))))
theorem f_is_setting (T : Tw K w mg base h fa fn exs ts tabs tf xs) : Df P w K mg base "is_setting" 4 false 1 m_is_setting :=
  df_of (Ωe := []) (T.u.t.glo 32) (T.u.t.c.def_ 8 (d := d_is_setting) rfl) sc_is_setting (fun _ _ _ _ _ _ us hl => match us, hl with | [_], _ => rfl) fun cdv A outer s H E en hr =>
  (q_one (q_ret (pv_and (pv_isi rfl (T.u.t.free 5) rfl (T.u.t.free 1) (by decide +kernel) (po_V (pv_var 0))) (pv_and (pv_c1 (c_eq hr.units) (po_V (pv_len rfl (T.u.t.free 3) (po_V (pv_var 0)))) (po_V pv_int) (by rfl)) (pv_and (p_callV (f_is_trait T) hr (L2N.takes_of rfl rfl rfl rfl) rfl (pl_cons (pv_ix (po_V (pv_var 0)) (po_V pv_int)) pl_nil)) (pv_b1 (p_callV (f_is_worth T) hr (L2N.takes_of rfl rfl rfl rfl) rfl (pl_cons (pv_ix (po_V (pv_var 0)) (po_V pv_int)) (pl_cons (pv_ix (po_V (pv_var 0)) (po_V pv_int)) pl_nil)))))))))
theorem f_rise (T : Tw K w mg base h fa fn exs ts tabs tf xs) : Df P w K mg base "rise" 1 false 1 m_rise :=
  df_of (Ωe := []) (T.u.t.glo 33) (T.u.t.c.def_ 9 (d := d_rise) rfl) sc_rise (fun _ _ _ _ _ _ us hl => match us, hl with | [_], _ => rfl) fun cdv A outer s H E en hr =>
  (q_one (q_ret (pv_all rfl rfl (T.u.t.free 8) (po_V (pv_lc rfl sc_rise.nd (blkOk_by (own := [("k", 1)]) (by rfl)) g_one (by decide) (pi_rng rfl (T.u.t.free 0) (po_V (pv_sub (po_V (pv_len rfl (T.u.t.free 3) (po_V (pv_var 0)))) (po_V pv_int)))) (fun _ _ _ _ _ => (pg_one sc_rise.nd rfl)) (fun _ _ _ _ _ => pts_0) (fun _ _ _ _ _ => (pv_c1 (c_ltX hr.units) (po_V (pv_ix (po_V (pv_var 0)) (po_V (pv_var 1)))) (po_V (pv_ix (po_V (pv_var 0)) (po_V (pv_add (po_V (pv_var 1)) (po_V pv_int))))) (by rfl))))))))
theorem f_are_settings (T : Tw K w mg base h fa fn exs ts tabs tf xs) : Df P w K mg base "are_settings" 5 false 1 m_are_settings :=
  df_of (Ωe := []) (T.u.t.glo 34) (T.u.t.c.def_ 10 (d := d_are_settings) rfl) sc_are_settings (fun _ _ _ _ _ _ us hl => match us, hl with | [_], _ => rfl) fun cdv A outer s H E en hr =>
  (q_cons (q_if (pt_w (pw_o (pt_no (pt_val' (po_V (pv_isi rfl (T.u.t.free 5) rfl (T.u.t.free 1) (by decide +kernel) (po_V (pv_var 0)))))) (pw_o1 (pt_no (pt_val' (po_V (pv_all rfl rfl (T.u.t.free 8) (po_V (pv_lc rfl sc_are_settings.nd (blkOk_by (own := [("one", 1)]) (by rfl)) g_one (by decide) (pi_seq (pv_var 0)) (fun _ _ _ _ _ => (pg_one sc_are_settings.nd rfl)) (fun _ _ _ _ _ => pts_0) (fun _ _ _ _ _ => (p_callV (f_is_setting T) hr takesN rfl (pl_cons (pv_var 1) pl_nil))))))))))))
  (q_one (q_ret pv_bl))
  q_nil)
  (q_one (q_ret (p_callV (f_rise T) hr (L2N.takes_of rfl rfl rfl rfl) rfl (pl_cons (pv_lc rfl sc_are_settings.nd (blkOk_by (own := [("one", 1)]) (by rfl)) g_one (by decide) (pi_seq (pv_var 0)) (fun _ _ _ _ _ => (pg_one sc_are_settings.nd rfl)) (fun _ _ _ _ _ => pts_0) (fun _ _ _ _ _ => (pv_tupIx (ts := [['l', 'e', 'f', 't'], ['t', 'o', 'p'], ['w', 'i', 'd', 'e'], ['h', 'i', 'g', 'h'], ['s', 'i', 'z', 'e'], ['i', 'n', 'k']]) rfl (T.u.con 0) (po_V (pv_ix (po_V (pv_var 1)) (po_V pv_int)))))) pl_nil)))))
theorem f_is_place (T : Tw K w mg base h fa fn exs ts tabs tf xs) : Df P w K mg base "is_place" 6 false 1 m_is_place :=
  df_of (Ωe := []) (T.u.t.glo 35) (T.u.t.c.def_ 11 (d := d_is_place) rfl) sc_is_place (fun _ _ _ _ _ _ us hl => match us, hl with | [_], _ => rfl) fun cdv A outer s H E en hr =>
  (q_cons (q_if (pt_w (pw_o (pt_no (pt_val' (po_V (pv_isi rfl (T.u.t.free 5) rfl (T.u.t.free 1) (by decide +kernel) (po_V (pv_var 0)))))) (pw_o (pt_c1 (c_ne hr.units) (po_V (pv_len rfl (T.u.t.free 3) (po_V (pv_var 0)))) (po_V pv_int) (by rfl)) (pw_o (pt_no (pt_val' (po_V (p_callV (f_is_name T) hr (L2N.takes_of rfl rfl rfl rfl) rfl (pl_cons (pv_ix (po_V (pv_var 0)) (po_V pv_int)) pl_nil))))) (pw_o1 (pt_no (pt_val' (po_V (p_callV (f_are_settings T) hr (L2N.takes_of rfl rfl rfl rfl) rfl (pl_cons (pv_ix (po_V (pv_var 0)) (po_V pv_int)) pl_nil))))))))))
  (q_one (q_ret pv_bl))
  q_nil)
  (q_one (q_ret (pv_or (pv_c1 c_is (po_V (pv_ix (po_V (pv_var 0)) (po_V pv_int))) (po_V pv_non) (by rfl)) (pv_b1 (p_callV (f_is_lines T) hr (L2N.takes_of rfl rfl rfl rfl) rfl (pl_cons (pv_ix (po_V (pv_var 0)) (po_V pv_int)) pl_nil)))))))
theorem f_is_master (T : Tw K w mg base h fa fn exs ts tabs tf xs) : Df P w K mg base "is_master" 7 false 1 m_is_master :=
  df_of (Ωe := []) (T.u.t.glo 36) (T.u.t.c.def_ 13 (d := d_is_master) rfl) sc_is_master (fun _ _ _ _ _ _ us hl => match us, hl with | [_], _ => rfl) fun cdv A outer s H E en hr =>
  (q_cons (q_if (pt_w (pw_o (pt_no (pt_val' (po_V (pv_isi rfl (T.u.t.free 5) rfl (T.u.t.free 1) (by decide +kernel) (po_V (pv_var 0)))))) (pw_o (pt_c1 (c_ne hr.units) (po_V (pv_len rfl (T.u.t.free 3) (po_V (pv_var 0)))) (po_V pv_int) (by rfl)) (pw_o1 (pt_no (pt_val' (po_V (p_callV (f_is_name T) hr (L2N.takes_of rfl rfl rfl rfl) rfl (pl_cons (pv_ix (po_V (pv_var 0)) (po_V pv_int)) pl_nil)))))))))
  (q_one (q_ret pv_bl))
  q_nil)
  (q_cons (q_unp (sl := [1, 2, 3]) (pv_var 0) (pg_many rfl (.cons (pg_name sc_is_master.nd rfl (by first | exact Or.inl rfl | exact Or.inr rfl)) (.cons (pg_name sc_is_master.nd rfl (by first | exact Or.inl rfl | exact Or.inr rfl)) (.cons (pg_name sc_is_master.nd rfl (by first | exact Or.inl rfl | exact Or.inr rfl)) .nil))) (pgs_cons (pg_name sc_is_master.nd rfl (by first | exact Or.inl rfl | exact Or.inr rfl)) (pgs_cons (pg_name sc_is_master.nd rfl (by first | exact Or.inl rfl | exact Or.inr rfl)) (pgs_cons (pg_name sc_is_master.nd rfl (by first | exact Or.inl rfl | exact Or.inr rfl)) pgs_nil)))) g_many)
  (q_cons (q_if (pt_w (pw_a (pt_c1 c_isnot (po_V (pv_var 2)) (po_V pv_non) (by rfl)) (pw_a1 (pt_no (pt_val' (po_V (p_callV (f_is_name T) hr (L2N.takes_of rfl rfl rfl rfl) rfl (pl_cons (pv_var 2) pl_nil))))))))
  (q_one (q_ret pv_bl))
  q_nil)
  (q_cons (q_if (pt_w (pw_o (pt_no (pt_val' (po_V (pv_isi rfl (T.u.t.free 5) rfl (T.u.t.free 1) (by decide +kernel) (po_V (pv_var 3)))))) (pw_o (pt_c1 c_gt (po_V (pv_len rfl (T.u.t.free 3) (po_V (pv_var 3)))) (po_V (pv_gi rfl (T.u.t.gi 10))) (by rfl)) (pw_o1 (pt_no (pt_val' (po_V (pv_all rfl rfl (T.u.t.free 8) (po_V (pv_lc rfl sc_is_master.nd (blkOk_by (own := [("place", 4)]) (by rfl)) g_one (by decide) (pi_seq (pv_var 3)) (fun _ _ _ _ _ => (pg_one sc_is_master.nd rfl)) (fun _ _ _ _ _ => pts_0) (fun _ _ _ _ _ => (p_callV (f_is_place T) hr takesN rfl (pl_cons (pv_var 4) pl_nil)))))))))))))
  (q_one (q_ret pv_bl))
  q_nil)
  (q_one (q_ret (p_callV (f_are_unlike T) hr (L2N.takes_of rfl rfl rfl rfl) rfl (pl_cons (pv_lc rfl sc_is_master.nd (blkOk_by (own := [("place", 4)]) (by rfl)) g_one (by decide) (pi_seq (pv_var 3)) (fun _ _ _ _ _ => (pg_one sc_is_master.nd rfl)) (fun _ _ _ _ _ => pts_0) (fun _ _ _ _ _ => (pv_ix (po_V (pv_var 4)) (po_V pv_int)))) pl_nil))))))))
theorem f_master_by (T : Tw K w mg base h fa fn exs ts tabs tf xs) : Df P w K mg base "master_by" 1 false 2 m_master_by :=
  df_of (Ωe := []) (T.u.t.glo 37) (T.u.t.c.def_ 14 (d := d_master_by) rfl) sc_master_by (fun _ _ _ _ _ _ us hl => match us, hl with | [_, _], _ => rfl) fun cdv A outer s H E en hr =>
  (q_cons (q_for (sl := [2]) (passes_of rfl) rfl (pi_seq (pv_var 0)) (pg_one sc_master_by.nd rfl) g_one
  (q_one (q_if (pt_c1 (c_eq hr.units) (po_V (pv_ix (po_V (pv_var 2)) (po_V pv_int))) (po_V (pv_var 1)) (by rfl))
  (q_one (q_ret (pv_var 2)))
  q_nil)))
  (q_one (q_ret pv_non)))
theorem f_comes_round (T : Tw K w mg base h fa fn exs ts tabs tf xs) : Df P w K mg base "comes_round" 2 false 2 m_comes_round :=
  df_of (Ωe := []) (T.u.t.glo 38) (T.u.t.c.def_ 15 (d := d_comes_round) rfl) sc_comes_round (fun _ _ _ _ _ _ us hl => match us, hl with | [_, _], _ => rfl) fun cdv A outer s H E en hr =>
  (q_cons (q_own sc_comes_round.nd rfl (pf_lst pl_nil) own_new)
  (q_cons (q_while 1000 (passes_of rfl) (pt_c1 c_isnot (po_V (pv_var 1)) (po_V pv_non) (by rfl))
  (q_cons (q_if (pt_c1 (c_in hr.u65) (po_V (pv_var 1)) (po_var 2) (by rfl))
  (q_one (q_ret pv_bl))
  q_nil)
  (q_cons (q_app (i := 2) (pv_var 1))
  (q_one (q_set sc_comes_round.nd rfl (pv_ix (po_V (p_callV (f_master_by T) hr (L2N.takes_of rfl rfl rfl rfl) rfl (pl_cons (pv_var 0) (pl_cons (pv_var 1) pl_nil)))) (po_V pv_int)))))))
  (q_one (q_ret pv_bl))))
theorem f_is_masters (T : Tw K w mg base h fa fn exs ts tabs tf xs) : Df P w K mg base "is_masters" 8 false 1 m_is_masters :=
  df_of (Ωe := []) (T.u.t.glo 39) (T.u.t.c.def_ 16 (d := d_is_masters) rfl) sc_is_masters (fun _ _ _ _ _ _ us hl => match us, hl with | [_], _ => rfl) fun cdv A outer s H E en hr =>
  (q_cons (q_if (pt_w (pw_o (pt_no (pt_val' (po_V (pv_isi rfl (T.u.t.free 5) rfl (T.u.t.free 1) (by decide +kernel) (po_V (pv_var 0)))))) (pw_o1 (pt_no (pt_chain' c_le c_le (po_V pv_int) (po_V (pv_len rfl (T.u.t.free 3) (po_V (pv_var 0)))) (po_V (pv_gi rfl (T.u.t.gi 7))))))))
  (q_one (q_ret pv_bl))
  q_nil)
  (q_cons (q_if (pt_no (pt_val' (po_V (pv_all rfl rfl (T.u.t.free 8) (po_V (pv_lc rfl sc_is_masters.nd (blkOk_by (own := [("one", 3)]) (by rfl)) g_one (by decide) (pi_seq (pv_var 0)) (fun _ _ _ _ _ => (pg_one sc_is_masters.nd rfl)) (fun _ _ _ _ _ => pts_0) (fun _ _ _ _ _ => (p_callV (f_is_master T) hr takesN rfl (pl_cons (pv_var 3) pl_nil)))))))))
  (q_one (q_ret pv_bl))
  q_nil)
  (q_cons (q_set sc_is_masters.nd rfl (pv_lc rfl sc_is_masters.nd (blkOk_by (own := [("master", 2)]) (by rfl)) g_one (by decide) (pi_seq (pv_var 0)) (fun _ _ _ _ _ => (pg_one sc_is_masters.nd rfl)) (fun _ _ _ _ _ => pts_0) (fun _ _ _ _ _ => (pv_ix (po_V (pv_var 2)) (po_V pv_int)))))
  (q_cons (q_if (pt_w (pw_o (pt_no (pt_val' (po_V (p_callV (f_are_unlike T) hr (L2N.takes_of rfl rfl rfl rfl) rfl (pl_cons (pv_var 1) pl_nil))))) (pw_o1 (pt_no (pt_val' (po_V (pv_all rfl rfl (T.u.t.free 8) (po_V (pv_lc rfl sc_is_masters.nd (blkOk_by (own := [("master", 2)]) (by rfl)) g_one (by decide) (pi_seq (pv_var 0)) (fun _ _ _ _ _ => (pg_one sc_is_masters.nd rfl)) (fun _ _ _ _ _ => pts_0) (fun _ _ _ _ _ => (pv_or (pv_c1 c_is (po_V (pv_ix (po_V (pv_var 2)) (po_V pv_int))) (po_V pv_non) (by rfl)) (pv_b1 (pv_c1 (c_in hr.u65) (po_V (pv_ix (po_V (pv_var 2)) (po_V pv_int))) (po_V (pv_var 1)) (by rfl))))))))))))))
  (q_one (q_ret pv_bl))
  q_nil)
  (q_one (q_ret (pv_not (po_V (pv_any rfl rfl (T.u.t.free 9) (po_V (pv_lc rfl sc_is_masters.nd (blkOk_by (own := [("name", 4)]) (by rfl)) g_one (by decide) (pi_seq (pv_var 1)) (fun _ _ _ _ _ => (pg_one sc_is_masters.nd rfl)) (fun _ _ _ _ _ => pts_0) (fun _ _ _ _ _ => (p_callV (f_comes_round T) hr takesN rfl (pl_cons (pv_var 0) (pl_cons (pv_var 4) pl_nil)))))))))))))))
theorem f__law_pen {fd : FuncData} (T : Tw K w mg base h fa fn exs ts tabs tf xs) (F : FunD K "_law_pen" "_law_pen" (defArgs (top 33)) (defBody (top 33)) (defScope (top 33)) [] [] (He.ga K "_law_pen") fd) : FnOk P w K mg base (L2N.CX P w) 1 (He.ga K "_law_pen") fd ["script"] (spPen K) :=
  pen_ok F sc__law_pen fun cdv A outer s H E hr => pss_one (ps_ret (pe_lst (pa_cons (pe_callTy call_list_of rfl (T.u.t.free 2) (by decide +kernel) (pa_cons (pe_slice sl_list (pv 0) po_none (po_some pe_int)) pa_nil)) (pa_cons pe_int (pa_cons pe_int pa_nil)))))
theorem f__law_draw (T : Tw K w mg base h fa fn exs ts tabs tf xs) : Df P w K mg base "_law_draw" 1 false 2 m__law_draw :=
  df_of (Ωe := []) (T.u.t.glo 40) (T.u.t.c.def_ 18 (d := d__law_draw) rfl) sc__law_draw (fun _ _ _ _ _ _ us hl => match us, hl with | [_, _], _ => rfl) fun cdv A outer s H E en hr =>
  (q_cons (q_if (pt_c1 c_gt (po_V (pv_ix (po_V (pv_var 0)) (po_V pv_int))) (po_V pv_int) (by rfl))
  (q_cons (q_set sc__law_draw.nd rfl (pv_mod (po_V (pv_ix (po_V (pv_var 0)) (po_V pv_int))) (po_V (pv_var 1))))
  (q_cons (q_setr (pv_div (po_V (pv_ix (po_V (pv_var 0)) (po_V pv_int))) (po_V (pv_var 1))) (po_V (pv_var 0)) (po_V pv_int))
  (q_one (q_ret (pv_var 5)))))
  q_nil)
  (q_cons (q_set sc__law_draw.nd rfl (pv_ix (po_V (pv_var 0)) (po_V pv_int)))
  (q_cons (q_setr (pv_add (po_V (pv_var 2)) (po_V pv_int)) (po_V (pv_var 0)) (po_V pv_int))
  (q_cons (q_set sc__law_draw.nd rfl pv_int)
  (q_cons (q_if (pt_c1 c_gt (po_V (pv_len rfl (T.u.t.free 3) (po_V (pv_ix (po_V (pv_var 0)) (po_V pv_int))))) (po_V pv_int) (by rfl))
  (q_one (q_set sc__law_draw.nd rfl (pv_ix (po_V (pv_ix (po_V (pv_var 0)) (po_V pv_int))) (po_V (pv_mod (po_V (pv_var 2)) (po_V (pv_len rfl (T.u.t.free 3) (po_V (pv_ix (po_V (pv_var 0)) (po_V pv_int))))))))))
  q_nil)
  (q_cons (q_if (pt_w (pw_a (pt_c1 c_lt (po_V (pv_var 2)) (po_V (pv_len rfl (T.u.t.free 3) (po_V (pv_ix (po_V (pv_var 0)) (po_V pv_int))))) (by rfl)) (pw_a1 (pt_c1 c_ge (po_V (pv_var 3)) (po_V (pv_pow (po_V pv_int) (po_V pv_int))) (by rfl)))))
  (q_cons (q_setr (pv_div (po_V (pv_var 3)) (po_V (pv_var 1))) (po_V (pv_var 0)) (po_V pv_int))
  (q_one (q_ret (pv_mod (po_V (pv_var 3)) (po_V (pv_var 1))))))
  q_nil)
  (q_cons (q_set sc__law_draw.nd rfl (pv_mod (po_V (pv_mul (po_V (pv_add (po_V (pv_mod (po_V (pv_var 3)) (po_V pv_int))) (po_V pv_int))) (po_V (pv_add (po_V (pv_add (po_V (pv_mul (po_V (pv_var 2)) (po_V (pv_var 2)))) (po_V (pv_mul (po_V pv_int) (po_V (pv_var 2)))))) (po_V pv_int))))) (po_V pv_int)))
  (q_one (q_ret (pv_mod (po_V (pv_div (po_V (pv_mod (po_V (pv_mul (po_V (pv_mod (po_V (pv_add (po_V (pv_pow (po_V (pv_var 4)) (po_V pv_int))) (po_V (pv_mul (po_V pv_int) (po_V (pv_var 2)))))) (po_V pv_int))) (po_V pv_int))) (po_V pv_int))) (po_V pv_int))) (po_V (pv_var 1))))))))))))
theorem f__law_names (T : Tw K w mg base h fa fn exs ts tabs tf xs) : Df P w K mg base "_law_names" 2 false 2 m__law_names :=
  df_of (Ωe := []) (T.u.t.glo 41) (T.u.t.c.def_ 19 (d := d__law_names) rfl) sc__law_names (fun _ _ _ _ _ _ us hl => match us, hl with | [_, _], _ => rfl) fun cdv A outer s H E en hr =>
  (q_cons (q_par2 (fs := [false, true]) sc__law_names.nd rfl rfl (pm_v (pv_str ['a', 'b', 'c', 'd', 'e', 'f', 'g', 'h', 'i', 'j', 'k', 'l', 'm', 'n', 'o', 'p', 'q', 'r', 's', 't', 'u', 'v', 'w', 'x', 'y', 'z']) (pm_f (pf_lst pl_nil) pm_nil)))
  (q_cons (q_par2 (fs := [false, false]) sc__law_names.nd rfl rfl (pm_v (pv_add (po_V (pv_ix (po_V (pv_lst (pl_cons pv_int (pl_cons pv_int (pl_cons pv_int (pl_cons pv_int (pl_cons pv_int (pl_cons pv_int (pl_cons pv_int (pl_cons pv_int pl_nil)))))))))) (po_V (p_callV (f__law_draw T) hr (L2N.takes_of rfl rfl rfl rfl) rfl (pl_cons (pv_var 0) (pl_cons pv_int pl_nil)))))) (po_V (pv_mul (po_V pv_int) (po_V (p_callV (f__law_draw T) hr (L2N.takes_of rfl rfl rfl rfl) rfl (pl_cons (pv_var 0) (pl_cons pv_int pl_nil))))))) (pm_v (p_callV (f__law_draw T) hr (L2N.takes_of rfl rfl rfl rfl) rfl (pl_cons (pv_var 0) (pl_cons pv_int pl_nil))) pm_nil)))
  (q_cons (q_for (sl := [2]) (passes_of rfl) rfl (pi_rng rfl (T.u.t.free 0) (po_V (pv_var 1))) (pg_one sc__law_names.nd rfl) g_one
  (q_cons (q_set sc__law_names.nd rfl (pv_ix (po_V (pv_lst (pl_cons (pv_str []) (pl_cons (pv_str []) (pl_cons (pv_str ['a']) (pl_cons (pv_str ['z', '9']) (pl_cons (pv_str ['t', 'i', 't', 'l', 'e']) (pl_cons (pv_str ['m', '0', 'm', '0', 'm', '0']) (pl_cons (pv_str ['b']) pl_nil))))))))) (po_V (p_callV (f__law_draw T) hr (L2N.takes_of rfl rfl rfl rfl) rfl (pl_cons (pv_var 0) (pl_cons pv_int pl_nil))))))
  (q_cons (q_app (i := 4) (pv_add (po_V (pv_add (po_V (pv_var 7)) (po_V (pv_ix (po_V (pv_var 3)) (po_V (pv_div (po_V (pv_var 6)) (po_V pv_int))))))) (po_V (pv_ix (po_V (pv_var 3)) (po_V (pv_mod (po_V (pv_var 6)) (po_V pv_int)))))))
  (q_one (q_set sc__law_names.nd rfl (pv_mod (po_V (pv_add (po_V (pv_var 6)) (po_V (pv_var 5)))) (po_V pv_int)))))))
  (q_cons (q_if (pt_w (pw_a (pt_c1 c_gt (po_V (pv_var 1)) (po_V pv_int) (by rfl)) (pw_a1 (pt_c1 (c_eq hr.units) (po_V (p_callV (f__law_draw T) hr (L2N.takes_of rfl rfl rfl rfl) rfl (pl_cons (pv_var 0) (pl_cons pv_int pl_nil)))) (po_V pv_int) (by rfl)))))
  (q_one (q_seti (i := 4) (pv_ix (po_V (pv_var 3)) (po_V (p_callV (f__law_draw T) hr (L2N.takes_of rfl rfl rfl rfl) rfl (pl_cons (pv_var 0) (pl_cons pv_int pl_nil))))) (po_V (p_callV (f__law_draw T) hr (L2N.takes_of rfl rfl rfl rfl) rfl (pl_cons (pv_var 0) (pl_cons (pv_var 1) pl_nil))))))
  q_nil)
  (q_show [] (q_one (q_ret (pv_var 4))))))))
theorem f__law_line (T : Tw K w mg base h fa fn exs ts tabs tf xs) : Df P w K mg base "_law_line" 2 false 1 m__law_line :=
  df_of (Ωe := []) (T.u.t.glo 42) (T.u.t.c.def_ 20 (d := d__law_line) rfl) sc__law_line (fun _ _ _ _ _ _ us hl => match us, hl with | [_], _ => rfl) fun cdv A outer s H E en hr =>
  (q_cons (q_set sc__law_line.nd rfl (pv_lst (pl_cons (pv_str ['a']) (pl_cons (pv_str ['W', 'o', 'r', 'd']) (pl_cons (pv_str ['e', 'n', 'd', '.']) (pl_cons (pv_str ['{', 'n', '}']) (pl_cons (pv_str ['{', 'a', 'l', 'l', '}']) (pl_cons (pv_str ['{', 'n', 'a', 'm', 'e', '}']) (pl_cons (pv_str ['d', 'o', 'n', '\'', 't', ';']) (pl_cons (pv_str []) (pl_cons (pv_str []) (pl_cons (pv_mul (po_V (pv_str ['x'])) (po_V pv_int)) (pl_cons (pv_str ['{', 'n']) (pl_cons (pv_str ['{', '{', 'n', '}', '}']) (pl_cons (pv_str ['{', 'N', '}', ' ', '~', '!']) (pl_cons (pv_str ['w', 'o', 'r', 'd']) pl_nil))))))))))))))))
  (q_cons (q_set sc__law_line.nd rfl (pv_join (po_V (pv_str [' '])) (po_V (pv_lc rfl sc__law_line.nd (blkOk_by (own := [("k", 3)]) (by rfl)) g_one (by decide) (pi_rng rfl (T.u.t.free 0) (po_V (p_callV (f__law_draw T) hr (L2N.takes_of rfl rfl rfl rfl) rfl (pl_cons (pv_var 0) (pl_cons pv_int pl_nil))))) (fun _ _ _ _ _ => (pg_one sc__law_line.nd rfl)) (fun _ _ _ _ _ => pts_0) (fun _ _ _ _ _ => (pv_ix (po_V (pv_var 1)) (po_V (p_callV (f__law_draw T) hr takesN rfl (pl_cons (pv_var 0) (pl_cons pv_int pl_nil))))))))))
  (q_one (q_ret (pv_sl (po_V (pv_var 2)) pp_no (pp_some (po_V (pv_ix (po_V (pv_lst (pl_cons pv_int (pl_cons pv_int (pl_cons pv_int pl_nil))))) (po_V (p_callV (f__law_draw T) hr (L2N.takes_of rfl rfl rfl rfl) rfl (pl_cons (pv_var 0) (pl_cons pv_int pl_nil))))))))))))
theorem f__law_lines (T : Tw K w mg base h fa fn exs ts tabs tf xs) : Df P w K mg base "_law_lines" 3 false 1 m__law_lines :=
  df_of (Ωe := []) (T.u.t.glo 43) (T.u.t.c.def_ 21 (d := d__law_lines) rfl) sc__law_lines (fun _ _ _ _ _ _ us hl => match us, hl with | [_], _ => rfl) fun cdv A outer s H E en hr =>
  (q_cons (q_set sc__law_lines.nd rfl (pv_ix (po_V (pv_lst (pl_cons (p_callV (f__law_draw T) hr (L2N.takes_of rfl rfl rfl rfl) rfl (pl_cons (pv_var 0) (pl_cons pv_int pl_nil))) (pl_cons (p_callV (f__law_draw T) hr (L2N.takes_of rfl rfl rfl rfl) rfl (pl_cons (pv_var 0) (pl_cons pv_int pl_nil))) (pl_cons pv_int pl_nil))))) (po_V (p_callV (f__law_draw T) hr (L2N.takes_of rfl rfl rfl rfl) rfl (pl_cons (pv_var 0) (pl_cons pv_int pl_nil))))))
  (q_one (q_ret (pv_tuple rfl (T.u.t.free 1) (po_V (pv_lc rfl sc__law_lines.nd (blkOk_by (own := [("k", 2)]) (by rfl)) g_one (by decide) (pi_rng rfl (T.u.t.free 0) (po_V (pv_var 1))) (fun _ _ _ _ _ => (pg_one sc__law_lines.nd rfl)) (fun _ _ _ _ _ => pts_0) (fun _ _ _ _ _ => (pv_sl (po_V (p_callV (f__law_line T) hr takesN rfl (pl_cons (pv_var 0) pl_nil))) pp_no (pp_some (po_V (pv_ix (po_V (pv_lst (pl_cons pv_int (pl_cons pv_int pl_nil)))) (po_V (pv_toint rfl (T.u.t.free 19) (po_V (pv_c1 c_gt (po_V (pv_var 1)) (po_V pv_int) (by rfl))))))))))))))))
theorem f__law_worth (T : Tw K w mg base h fa fn exs ts tabs tf xs) : Df P w K mg base "_law_worth" 2 false 2 m__law_worth :=
  df_of (Ωe := []) (T.u.t.glo 44) (T.u.t.c.def_ 22 (d := d__law_worth) rfl) sc__law_worth (fun _ _ _ _ _ _ us hl => match us, hl with | [_, _], _ => rfl) fun cdv A outer s H E en hr =>
  (q_cons (q_if (pt_c1 (c_eq hr.units) (po_V (pv_var 1)) (po_V (pv_str ['i', 'n', 'k'])) (by rfl))
  (q_one (q_ret (pv_ix (po_V (pv_lst (pl_cons (pv_str ['p', 'l', 'a', 'i', 'n']) (pl_cons (pv_str ['r', 'e', 'd']) (pl_cons (pv_str ['b', '1']) (pl_cons (pv_str ['a', 'b', 'c', 'd', 'e', 'f', 'g', '8']) (pl_cons (pv_str ['z']) pl_nil))))))) (po_V (p_callV (f__law_draw T) hr (L2N.takes_of rfl rfl rfl rfl) rfl (pl_cons (pv_var 0) (pl_cons pv_int pl_nil)))))))
  q_nil)
  (q_cons (q_if (pt_c1 (c_in hr.u65) (po_V (pv_var 1)) (po_V (pv_tup (pl_cons (pv_str ['l', 'e', 'f', 't']) (pl_cons (pv_str ['t', 'o', 'p']) pl_nil)))) (by rfl))
  (q_one (q_ret (pv_ix (po_V (pv_lst (pl_cons (p_callV (f__law_draw T) hr (L2N.takes_of rfl rfl rfl rfl) rfl (pl_cons (pv_var 0) (pl_cons pv_int pl_nil))) (pl_cons (pv_add (po_V (pv_neg (po_V pv_int))) (po_V (p_callV (f__law_draw T) hr (L2N.takes_of rfl rfl rfl rfl) rfl (pl_cons (pv_var 0) (pl_cons pv_int pl_nil))))) (pl_cons (pv_neg (po_V pv_int)) (pl_cons pv_int pl_nil)))))) (po_V (p_callV (f__law_draw T) hr (L2N.takes_of rfl rfl rfl rfl) rfl (pl_cons (pv_var 0) (pl_cons pv_int pl_nil)))))))
  q_nil)
  (q_cons (q_if (pt_c1 (c_eq hr.units) (po_V (pv_var 1)) (po_V (pv_str ['s', 'i', 'z', 'e'])) (by rfl))
  (q_one (q_ret (pv_ix (po_V (pv_lst (pl_cons pv_int (pl_cons pv_int (pl_cons pv_int (pl_cons (pv_add (po_V pv_int) (po_V (p_callV (f__law_draw T) hr (L2N.takes_of rfl rfl rfl rfl) rfl (pl_cons (pv_var 0) (pl_cons pv_int pl_nil))))) (pl_cons pv_int pl_nil))))))) (po_V (p_callV (f__law_draw T) hr (L2N.takes_of rfl rfl rfl rfl) rfl (pl_cons (pv_var 0) (pl_cons pv_int pl_nil)))))))
  q_nil)
  (q_one (q_ret (pv_ix (po_V (pv_lst (pl_cons (pv_add (po_V pv_int) (po_V (p_callV (f__law_draw T) hr (L2N.takes_of rfl rfl rfl rfl) rfl (pl_cons (pv_var 0) (pl_cons pv_int pl_nil))))) (pl_cons (pv_add (po_V pv_int) (po_V (p_callV (f__law_draw T) hr (L2N.takes_of rfl rfl rfl rfl) rfl (pl_cons (pv_var 0) (pl_cons pv_int pl_nil))))) (pl_cons (pv_add (po_V pv_int) (po_V (p_callV (f__law_draw T) hr (L2N.takes_of rfl rfl rfl rfl) rfl (pl_cons (pv_var 0) (pl_cons pv_int pl_nil))))) (pl_cons pv_int (pl_cons pv_int pl_nil))))))) (po_V (p_callV (f__law_draw T) hr (L2N.takes_of rfl rfl rfl rfl) rfl (pl_cons (pv_var 0) (pl_cons pv_int pl_nil))))))))))
theorem f__law_traits (T : Tw K w mg base h fa fn exs ts tabs tf xs) : Df P w K mg base "_law_traits" 1 false 0 m__law_traits :=
  df_of (Ωe := []) (T.u.t.glo 45) (T.u.t.c.def_ 23 (d := d__law_traits) rfl) sc__law_traits (fun _ _ _ _ _ _ us hl => match us, hl with | [], _ => rfl) fun cdv A outer s H E en hr =>
  (q_one (q_ret (pv_lst (pl_cons (pv_str ['l', 'e', 'f', 't']) (pl_cons (pv_str ['t', 'o', 'p']) (pl_cons (pv_str ['w', 'i', 'd', 'e']) (pl_cons (pv_str ['h', 'i', 'g', 'h']) (pl_cons (pv_str ['s', 'i', 'z', 'e']) (pl_cons (pv_str ['i', 'n', 'k']) pl_nil)))))))))
theorem f__law_place (T : Tw K w mg base h fa fn exs ts tabs tf xs) : Df P w K mg base "_law_place" 4 false 2 m__law_place :=
  df_of (Ωe := []) (T.u.t.glo 46) (T.u.t.c.def_ 24 (d := d__law_place) rfl) sc__law_place (fun _ _ _ _ _ _ us hl => match us, hl with | [_, _], _ => rfl) fun cdv A outer s H E en hr =>
  (q_cons (q_set sc__law_place.nd rfl (pv_tuple rfl (T.u.t.free 1) (po_V (pv_lc rfl sc__law_place.nd (blkOk_by (own := [("trait", 3)]) (by rfl)) g_one (by decide) (pi_seq (p_call0 (f__law_traits T) hr (L2N.takes_of rfl rfl rfl rfl) rfl)) (fun _ _ _ _ _ => (pg_one sc__law_place.nd rfl)) (fun _ _ _ _ _ => (pts_1 (pt_c1 (c_eq hr.units) (po_V (p_callV (f__law_draw T) hr takesN rfl (pl_cons (pv_var 0) (pl_cons pv_int pl_nil)))) (po_V pv_int) (by rfl)))) (fun _ _ _ _ _ => (pv_tup (pl_cons (pv_var 3) (pl_cons (p_callV (f__law_worth T) hr takesN rfl (pl_cons (pv_var 0) (pl_cons (pv_var 3) pl_nil))) pl_nil))))))))
  (q_one (q_ret (pv_tup (pl_cons (pv_var 1) (pl_cons (pv_var 2) (pl_cons (pv_ix (po_V (pv_lst (pl_cons pv_non (pl_cons pv_non (pl_cons (p_callV (f__law_lines T) hr (L2N.takes_of rfl rfl rfl rfl) rfl (pl_cons (pv_var 0) pl_nil)) pl_nil))))) (po_V (p_callV (f__law_draw T) hr (L2N.takes_of rfl rfl rfl rfl) rfl (pl_cons (pv_var 0) (pl_cons pv_int pl_nil))))) pl_nil)))))))
theorem f__law_masters (T : Tw K w mg base h fa fn exs ts tabs tf xs) : Df P w K mg base "_law_masters" 5 false 3 m__law_masters :=
  df_of (Ωe := []) (T.u.t.glo 47) (T.u.t.c.def_ 25 (d := d__law_masters) rfl) sc__law_masters (fun _ _ _ _ _ _ us hl => match us, hl with | [_, _, _], _ => rfl) fun cdv A outer s H E en hr =>
  (q_cons (q_set sc__law_masters.nd rfl (p_callV (f__law_names T) hr (L2N.takes_of rfl rfl rfl rfl) rfl (pl_cons (pv_var 0) (pl_cons (pv_add (po_V pv_int) (po_V (p_callV (f__law_draw T) hr (L2N.takes_of rfl rfl rfl rfl) rfl (pl_cons (pv_var 0) (pl_cons (pv_var 1) pl_nil))))) pl_nil))))
  (q_cons (q_own sc__law_masters.nd rfl (pf_lst pl_nil) own_new)
  (q_cons (q_for (sl := [5]) (passes_of rfl) rfl (pi_rng rfl (T.u.t.free 0) (po_V (pv_len rfl (T.u.t.free 3) (po_V (pv_var 3))))) (pg_one sc__law_masters.nd rfl) g_one
  (q_end [7, 4] (q_cons (q_set sc__law_masters.nd rfl pv_non)
  (q_cons (q_if (pt_w (pw_a (pt_c1 c_gt (po_V (pv_var 5)) (po_V pv_int) (by rfl)) (pw_a1 (pt_c1 c_gt (po_V (p_callV (f__law_draw T) hr (L2N.takes_of rfl rfl rfl rfl) rfl (pl_cons (pv_var 0) (pl_cons pv_int pl_nil)))) (po_V pv_int) (by rfl)))))
  (q_one (q_set sc__law_masters.nd rfl (pv_ix (po_V (pv_var 3)) (po_V (pv_ix (po_V (pv_lst (pl_cons (pv_sub (po_V (pv_var 5)) (po_V pv_int)) (pl_cons (p_callV (f__law_draw T) hr (L2N.takes_of rfl rfl rfl rfl) rfl (pl_cons (pv_var 0) (pl_cons (pv_var 5) pl_nil))) pl_nil)))) (po_V (p_callV (f__law_draw T) hr (L2N.takes_of rfl rfl rfl rfl) rfl (pl_cons (pv_var 0) (pl_cons pv_int pl_nil)))))))))
  q_nil)
  (q_cons (q_own sc__law_masters.nd rfl (pf_lst pl_nil) own_new)
  (q_cons (q_for (sl := [8]) (passes_of rfl) rfl (pi_seq (pv_var 2)) (pg_one sc__law_masters.nd rfl) g_one
  (q_one (q_if (pt_w (pw_a (pt_c1 (c_eq hr.units) (po_V (p_callV (f__law_draw T) hr (L2N.takes_of rfl rfl rfl rfl) rfl (pl_cons (pv_var 0) (pl_cons pv_int pl_nil)))) (po_V pv_int) (by rfl)) (pw_a1 (pt_c1 c_lt (po_V (pv_len rfl (T.u.t.free 3) (po_var 7))) (po_V pv_int) (by rfl)))))
  (q_one (q_ins (i := 7) (po_V (p_callV (f__law_draw T) hr (L2N.takes_of rfl rfl rfl rfl) rfl (pl_cons (pv_var 0) (pl_cons (pv_add (po_V (pv_len rfl (T.u.t.free 3) (po_var 7))) (po_V pv_int)) pl_nil)))) (p_callV (f__law_place T) hr (L2N.takes_of rfl rfl rfl rfl) rfl (pl_cons (pv_var 0) (pl_cons (pv_var 8) pl_nil)))))
  q_nil)))
  (q_one (q_ins (i := 4) (po_V (p_callV (f__law_draw T) hr (L2N.takes_of rfl rfl rfl rfl) rfl (pl_cons (pv_var 0) (pl_cons (pv_add (po_V (pv_len rfl (T.u.t.free 3) (po_var 4))) (po_V pv_int)) pl_nil)))) (pv_tup (pl_cons (pv_ix (po_V (pv_var 3)) (po_V (pv_var 5))) (pl_cons (pv_var 6) (pl_cons (pv_tuple rfl (T.u.t.free 1) (po_var 7)) pl_nil))))))))))))
  (q_one (q_ret (pv_tuple rfl (T.u.t.free 1) (po_var 4)))))))
theorem f__law_is_name (T : Tw K w mg base h fa fn exs ts tabs tf xs) : Df P w K mg base "_law_is_name" 1 false 1 m__law_is_name2 :=
  df_of (Ωe := []) (T.u.t.glo 48) (T.u.t.c.def_ 27 (d := d__law_is_name) rfl) sc__law_is_name (fun _ _ _ _ _ _ us hl => match us, hl with | [_], _ => rfl) fun cdv A outer s H E en hr =>
  (q_cons (q_if (pt_w (pw_o (pt_no (pt_val' (po_V (pv_isi rfl (T.u.t.free 5) rfl (T.u.t.free 13) (by decide +kernel) (po_V (pv_var 0)))))) (pw_o (pt_no (pt_chain' c_le c_le (po_V pv_int) (po_V (pv_len rfl (T.u.t.free 3) (po_V (pv_var 0)))) (po_V pv_int))) (pw_o1 (pt_no (pt_chain' c_le c_le (po_V (pv_str ['a'])) (po_V (pv_ix (po_V (pv_var 0)) (po_V pv_int))) (po_V (pv_str ['z']))))))))
  (q_one (q_ret pv_bl))
  q_nil)
  (q_one (q_ret (pv_all rfl rfl (T.u.t.free 8) (po_V (pv_lc rfl sc__law_is_name.nd (blkOk_by (own := [("sign", 1)]) (by rfl)) g_one (by decide) (pi_seq (pv_var 0)) (fun _ _ _ _ _ => (pg_one sc__law_is_name.nd rfl)) (fun _ _ _ _ _ => pts_0) (fun _ _ _ _ _ => (pv_c1 (c_in hr.u65) (po_V (pv_var 1)) (po_V (pv_str ['a', 'b', 'c', 'd', 'e', 'f', 'g', 'h', 'i', 'j', 'k', 'l', 'm', 'n', 'o', 'p', 'q', 'r', 's', 't', 'u', 'v', 'w', 'x', 'y', 'z', '0', '1', '2', '3', '4', '5', '6', '7', '8', '9'])) (by rfl)))))))))
theorem f__law_is_written (T : Tw K w mg base h fa fn exs ts tabs tf xs) : Df P w K mg base "_law_is_written" 1 false 2 m__law_is_written :=
  df_of (Ωe := []) (T.u.t.glo 49) (T.u.t.c.def_ 28 (d := d__law_is_written) rfl) sc__law_is_written (fun _ _ _ _ _ _ us hl => match us, hl with | [_, _], _ => rfl) fun cdv A outer s H E en hr =>
  (q_cons (q_if (pt_w (pw_o (pt_no (pt_val' (po_V (pv_isi rfl (T.u.t.free 5) rfl (T.u.t.free 13) (by decide +kernel) (po_V (pv_var 0)))))) (pw_o1 (pt_c1 c_gt (po_V (pv_len rfl (T.u.t.free 3) (po_V (pv_var 0)))) (po_V (pv_var 1)) (by rfl)))))
  (q_one (q_ret pv_bl))
  q_nil)
  (q_one (q_ret (pv_all rfl rfl (T.u.t.free 8) (po_V (pv_lc rfl sc__law_is_written.nd (blkOk_by (own := [("sign", 2)]) (by rfl)) g_one (by decide) (pi_seq (pv_var 0)) (fun _ _ _ _ _ => (pg_one sc__law_is_written.nd rfl)) (fun _ _ _ _ _ => pts_0) (fun _ _ _ _ _ => (pv_and (pv_chain c_le c_le (po_V pv_int) (po_V (pv_ord rfl (T.u.t.free 22) (po_V (pv_var 2)))) (po_V pv_int)) (pv_b1 (pv_c1 (c_nin hr.u65) (po_V (pv_ord rfl (T.u.t.free 22) (po_V (pv_var 2)))) (po_V (pv_tup (pl_cons pv_int (pl_cons pv_int pl_nil)))) (by rfl)))))))))))
theorem f__law_is_lines (T : Tw K w mg base h fa fn exs ts tabs tf xs) : Df P w K mg base "_law_is_lines" 2 false 1 m__law_is_lines :=
  df_of (Ωe := []) (T.u.t.glo 50) (T.u.t.c.def_ 29 (d := d__law_is_lines) rfl) sc__law_is_lines (fun _ _ _ _ _ _ us hl => match us, hl with | [_], _ => rfl) fun cdv A outer s H E en hr =>
  (q_one (q_ret (pv_and (pv_isi rfl (T.u.t.free 5) rfl (T.u.t.free 1) (by decide +kernel) (po_V (pv_var 0))) (pv_and (pv_c1 c_lt (po_V (pv_len rfl (T.u.t.free 3) (po_V (pv_var 0)))) (po_V pv_int) (by rfl)) (pv_b1 (pv_all rfl rfl (T.u.t.free 8) (po_V (pv_lc rfl sc__law_is_lines.nd (blkOk_by (own := [("line", 1)]) (by rfl)) g_one (by decide) (pi_seq (pv_var 0)) (fun _ _ _ _ _ => (pg_one sc__law_is_lines.nd rfl)) (fun _ _ _ _ _ => pts_0) (fun _ _ _ _ _ => (p_callV (f__law_is_written T) hr takesN rfl (pl_cons (pv_var 1) (pl_cons pv_int pl_nil))))))))))))
theorem f__law_whole (T : Tw K w mg base h fa fn exs ts tabs tf xs) : Df P w K mg base "_law_whole" 1 false 1 m__law_whole :=
  df_of (Ωe := []) (T.u.t.glo 51) (T.u.t.c.def_ 26 (d := d__law_whole) rfl) sc__law_whole (fun _ _ _ _ _ _ us hl => match us, hl with | [_], _ => rfl) fun cdv A outer s H E en hr =>
  (q_one (q_ret (pv_and (pv_isi rfl (T.u.t.free 5) rfl (T.u.t.free 19) (by decide +kernel) (po_V (pv_var 0))) (pv_b1 (pv_not (po_V (pv_isi rfl (T.u.t.free 5) rfl (T.u.t.free 6) (by decide +kernel) (po_V (pv_var 0)))))))))
theorem f__law_is_worth (T : Tw K w mg base h fa fn exs ts tabs tf xs) : Df P w K mg base "_law_is_worth" 2 false 2 m__law_is_worth :=
  df_of (Ωe := []) (T.u.t.glo 52) (T.u.t.c.def_ 30 (d := d__law_is_worth) rfl) sc__law_is_worth (fun _ _ _ _ _ _ us hl => match us, hl with | [_, _], _ => rfl) fun cdv A outer s H E en hr =>
  (q_cons (q_if (pt_w (pw_o (pt_no (pt_val' (po_V (pv_isi rfl (T.u.t.free 5) rfl (T.u.t.free 13) (by decide +kernel) (po_V (pv_var 0)))))) (pw_o1 (pt_c1 (c_nin hr.u65) (po_V (pv_var 0)) (po_V (pv_tup (pl_cons (pv_str ['l', 'e', 'f', 't']) (pl_cons (pv_str ['t', 'o', 'p']) (pl_cons (pv_str ['w', 'i', 'd', 'e']) (pl_cons (pv_str ['h', 'i', 'g', 'h']) (pl_cons (pv_str ['s', 'i', 'z', 'e']) (pl_cons (pv_str ['i', 'n', 'k']) pl_nil)))))))) (by rfl)))))
  (q_one (q_ret pv_bl))
  q_nil)
  (q_cons (q_if (pt_c1 (c_eq hr.units) (po_V (pv_var 0)) (po_V (pv_str ['i', 'n', 'k'])) (by rfl))
  (q_one (q_ret (p_callV (f__law_is_name T) hr (L2N.takes_of rfl rfl rfl rfl) rfl (pl_cons (pv_var 1) pl_nil))))
  q_nil)
  (q_cons (q_if (pt_c1 (c_in hr.u65) (po_V (pv_var 0)) (po_V (pv_tup (pl_cons (pv_str ['l', 'e', 'f', 't']) (pl_cons (pv_str ['t', 'o', 'p']) pl_nil)))) (by rfl))
  (q_one (q_ret (pv_and (p_callV (f__law_whole T) hr (L2N.takes_of rfl rfl rfl rfl) rfl (pl_cons (pv_var 1) pl_nil)) (pv_b1 (pv_chain c_le c_le (po_V (pv_neg (po_V pv_int))) (po_V (pv_var 1)) (po_V pv_int))))))
  q_nil)
  (q_one (q_ret (pv_and (p_callV (f__law_whole T) hr (L2N.takes_of rfl rfl rfl rfl) rfl (pl_cons (pv_var 1) pl_nil)) (pv_b1 (pv_chain c_le c_le (po_V pv_int) (po_V (pv_var 1)) (po_V (pv_ix (po_V (pv_lst (pl_cons pv_int (pl_cons pv_int pl_nil)))) (po_V (pv_toint rfl (T.u.t.free 19) (po_V (pv_c1 (c_eq hr.units) (po_V (pv_var 0)) (po_V (pv_str ['s', 'i', 'z', 'e'])) (by rfl)))))))))))))))
theorem f__law_is_place (T : Tw K w mg base h fa fn exs ts tabs tf xs) : Df P w K mg base "_law_is_place" 3 false 1 m__law_is_place :=
  df_of (Ωe := []) (T.u.t.glo 53) (T.u.t.c.def_ 31 (d := d__law_is_place) rfl) sc__law_is_place (fun _ _ _ _ _ _ us hl => match us, hl with | [_], _ => rfl) fun cdv A outer s H E en hr =>
  (q_cons (q_if (pt_w (pw_o (pt_no (pt_val' (po_V (pv_isi rfl (T.u.t.free 5) rfl (T.u.t.free 1) (by decide +kernel) (po_V (pv_var 0)))))) (pw_o (pt_c1 (c_ne hr.units) (po_V (pv_len rfl (T.u.t.free 3) (po_V (pv_var 0)))) (po_V pv_int) (by rfl)) (pw_o1 (pt_no (pt_val' (po_V (p_callV (f__law_is_name T) hr (L2N.takes_of rfl rfl rfl rfl) rfl (pl_cons (pv_ix (po_V (pv_var 0)) (po_V pv_int)) pl_nil)))))))))
  (q_one (q_ret pv_bl))
  q_nil)
  (q_cons (q_if (pt_w (pw_o (pt_no (pt_val' (po_V (pv_isi rfl (T.u.t.free 5) rfl (T.u.t.free 1) (by decide +kernel) (po_V (pv_ix (po_V (pv_var 0)) (po_V pv_int))))))) (pw_o1 (pt_w (pw_a (pt_c1 c_isnot (po_V (pv_ix (po_V (pv_var 0)) (po_V pv_int))) (po_V pv_non) (by rfl)) (pw_a1 (pt_no (pt_val' (po_V (p_callV (f__law_is_lines T) hr (L2N.takes_of rfl rfl rfl rfl) rfl (pl_cons (pv_ix (po_V (pv_var 0)) (po_V pv_int)) pl_nil)))))))))))
  (q_one (q_ret pv_bl))
  q_nil)
  (q_cons (q_set sc__law_is_place.nd rfl (pv_neg (po_V pv_int)))
  (q_cons (q_for (sl := [2]) (passes_of rfl) rfl (pi_seq (pv_ix (po_V (pv_var 0)) (po_V pv_int))) (pg_one sc__law_is_place.nd rfl) g_one
  (q_cons (q_if (pt_w (pw_o (pt_no (pt_val' (po_V (pv_isi rfl (T.u.t.free 5) rfl (T.u.t.free 1) (by decide +kernel) (po_V (pv_var 2)))))) (pw_o (pt_c1 (c_ne hr.units) (po_V (pv_len rfl (T.u.t.free 3) (po_V (pv_var 2)))) (po_V pv_int) (by rfl)) (pw_o1 (pt_no (pt_val' (po_V (p_callV (f__law_is_worth T) hr (L2N.takes_of rfl rfl rfl rfl) rfl (pl_cons (pv_ix (po_V (pv_var 2)) (po_V pv_int)) (pl_cons (pv_ix (po_V (pv_var 2)) (po_V pv_int)) pl_nil))))))))))
  (q_one (q_ret pv_bl))
  q_nil)
  (q_cons (q_set sc__law_is_place.nd rfl (pv_index (po_V (pv_lst (pl_cons (pv_str ['l', 'e', 'f', 't']) (pl_cons (pv_str ['t', 'o', 'p']) (pl_cons (pv_str ['w', 'i', 'd', 'e']) (pl_cons (pv_str ['h', 'i', 'g', 'h']) (pl_cons (pv_str ['s', 'i', 'z', 'e']) (pl_cons (pv_str ['i', 'n', 'k']) pl_nil)))))))) (po_V (pv_ix (po_V (pv_var 2)) (po_V pv_int)))))
  (q_cons (q_if (pt_c1 c_le (po_V (pv_var 3)) (po_V (pv_var 1)) (by rfl))
  (q_one (q_ret pv_bl))
  q_nil)
  (q_one (q_set sc__law_is_place.nd rfl (pv_var 3)))))))
  (q_one (q_ret pv_bl))))))
theorem f__law_is_master (T : Tw K w mg base h fa fn exs ts tabs tf xs) : Df P w K mg base "_law_is_master" 4 false 1 m__law_is_master :=
  df_of (Ωe := []) (T.u.t.glo 54) (T.u.t.c.def_ 32 (d := d__law_is_master) rfl) sc__law_is_master (fun _ _ _ _ _ _ us hl => match us, hl with | [_], _ => rfl) fun cdv A outer s H E en hr =>
  (q_cons (q_if (pt_w (pw_o (pt_no (pt_val' (po_V (pv_isi rfl (T.u.t.free 5) rfl (T.u.t.free 1) (by decide +kernel) (po_V (pv_var 0)))))) (pw_o (pt_c1 (c_ne hr.units) (po_V (pv_len rfl (T.u.t.free 3) (po_V (pv_var 0)))) (po_V pv_int) (by rfl)) (pw_o1 (pt_no (pt_val' (po_V (p_callV (f__law_is_name T) hr (L2N.takes_of rfl rfl rfl rfl) rfl (pl_cons (pv_ix (po_V (pv_var 0)) (po_V pv_int)) pl_nil)))))))))
  (q_one (q_ret pv_bl))
  q_nil)
  (q_cons (q_if (pt_w (pw_a (pt_c1 c_isnot (po_V (pv_ix (po_V (pv_var 0)) (po_V pv_int))) (po_V pv_non) (by rfl)) (pw_a1 (pt_no (pt_val' (po_V (p_callV (f__law_is_name T) hr (L2N.takes_of rfl rfl rfl rfl) rfl (pl_cons (pv_ix (po_V (pv_var 0)) (po_V pv_int)) pl_nil))))))))
  (q_one (q_ret pv_bl))
  q_nil)
  (q_cons (q_if (pt_w (pw_o (pt_no (pt_val' (po_V (pv_isi rfl (T.u.t.free 5) rfl (T.u.t.free 1) (by decide +kernel) (po_V (pv_ix (po_V (pv_var 0)) (po_V pv_int))))))) (pw_o (pt_c1 c_gt (po_V (pv_len rfl (T.u.t.free 3) (po_V (pv_ix (po_V (pv_var 0)) (po_V pv_int))))) (po_V pv_int) (by rfl)) (pw_o1 (pt_no (pt_val' (po_V (pv_all rfl rfl (T.u.t.free 8) (po_V (pv_lc rfl sc__law_is_master.nd (blkOk_by (own := [("one", 2)]) (by rfl)) g_one (by decide) (pi_seq (pv_ix (po_V (pv_var 0)) (po_V pv_int))) (fun _ _ _ _ _ => (pg_one sc__law_is_master.nd rfl)) (fun _ _ _ _ _ => pts_0) (fun _ _ _ _ _ => (p_callV (f__law_is_place T) hr takesN rfl (pl_cons (pv_var 2) pl_nil)))))))))))))
  (q_one (q_ret pv_bl))
  q_nil)
  (q_cons (q_set sc__law_is_master.nd rfl (pv_lc rfl sc__law_is_master.nd (blkOk_by (own := [("one", 2)]) (by rfl)) g_one (by decide) (pi_seq (pv_ix (po_V (pv_var 0)) (po_V pv_int))) (fun _ _ _ _ _ => (pg_one sc__law_is_master.nd rfl)) (fun _ _ _ _ _ => pts_0) (fun _ _ _ _ _ => (pv_ix (po_V (pv_var 2)) (po_V pv_int)))))
  (q_one (q_ret (pv_c1 (c_eq hr.units) (po_V (pv_lc rfl sc__law_is_master.nd (blkOk_by (own := [("k", 3)]) (by rfl)) g_one (by decide) (pi_rng rfl (T.u.t.free 0) (po_V (pv_len rfl (T.u.t.free 3) (po_V (pv_var 1))))) (fun _ _ _ _ _ => (pg_one sc__law_is_master.nd rfl)) (fun _ _ _ _ _ => (pts_1 (pt_c1 (c_in hr.u65) (po_V (pv_ix (po_V (pv_var 1)) (po_V (pv_var 3)))) (po_V (pv_sl (po_V (pv_var 1)) pp_no (pp_some (po_V (pv_var 3))))) (by rfl)))) (fun _ _ _ _ _ => (pv_var 3)))) (po_V (pv_lst pl_nil)) (by rfl))))))))
theorem f__law_rounds (T : Tw K w mg base h fa fn exs ts tabs tf xs) : Df P w K mg base "_law_rounds" 1 false 2 m__law_rounds :=
  df_of (Ωe := []) (T.u.t.glo 55) (T.u.t.c.def_ 33 (d := d__law_rounds) rfl) sc__law_rounds (fun _ _ _ _ _ _ us hl => match us, hl with | [_, _], _ => rfl) fun cdv A outer s H E en hr =>
  (q_cons (q_own sc__law_rounds.nd rfl (pf_lst pl_nil) own_new)
  (q_cons (q_while 1000 (passes_of rfl) (pt_w (pw_a (pt_c1 c_isnot (po_V (pv_var 1)) (po_V pv_non) (by rfl)) (pw_a1 (pt_c1 (c_nin hr.u65) (po_V (pv_var 1)) (po_var 2) (by rfl)))))
  (q_cons (q_app (i := 2) (pv_var 1))
  (q_one (q_set sc__law_rounds.nd rfl (pv_ix (po_V (pv_ix (po_V (pv_lc rfl sc__law_rounds.nd (blkOk_by (own := [("one", 3)]) (by rfl)) g_one (by decide) (pi_seq (pv_var 0)) (fun _ _ _ _ _ => (pg_one sc__law_rounds.nd rfl)) (fun _ _ _ _ _ => (pts_1 (pt_c1 (c_eq hr.units) (po_V (pv_ix (po_V (pv_var 3)) (po_V pv_int))) (po_V (pv_var 1)) (by rfl)))) (fun _ _ _ _ _ => (pv_var 3)))) (po_V pv_int))) (po_V pv_int))))))
  (q_one (q_ret (pv_c1 c_isnot (po_V (pv_var 1)) (po_V pv_non) (by rfl))))))
theorem f__law_are (T : Tw K w mg base h fa fn exs ts tabs tf xs) : Df P w K mg base "_law_are" 5 false 1 m__law_are :=
  df_of (Ωe := []) (T.u.t.glo 56) (T.u.t.c.def_ 34 (d := d__law_are) rfl) sc__law_are (fun _ _ _ _ _ _ us hl => match us, hl with | [_], _ => rfl) fun cdv A outer s H E en hr =>
  (q_cons (q_if (pt_w (pw_o (pt_no (pt_val' (po_V (pv_isi rfl (T.u.t.free 5) rfl (T.u.t.free 1) (by decide +kernel) (po_V (pv_var 0)))))) (pw_o (pt_no (pt_chain' c_le c_le (po_V pv_int) (po_V (pv_len rfl (T.u.t.free 3) (po_V (pv_var 0)))) (po_V pv_int))) (pw_o1 (pt_no (pt_val' (po_V (pv_all rfl rfl (T.u.t.free 8) (po_V (pv_lc rfl sc__law_are.nd (blkOk_by (own := [("one", 2)]) (by rfl)) g_one (by decide) (pi_seq (pv_var 0)) (fun _ _ _ _ _ => (pg_one sc__law_are.nd rfl)) (fun _ _ _ _ _ => pts_0) (fun _ _ _ _ _ => (p_callV (f__law_is_master T) hr takesN rfl (pl_cons (pv_var 2) pl_nil)))))))))))))
  (q_one (q_ret pv_bl))
  q_nil)
  (q_cons (q_set sc__law_are.nd rfl (pv_lc rfl sc__law_are.nd (blkOk_by (own := [("one", 2)]) (by rfl)) g_one (by decide) (pi_seq (pv_var 0)) (fun _ _ _ _ _ => (pg_one sc__law_are.nd rfl)) (fun _ _ _ _ _ => pts_0) (fun _ _ _ _ _ => (pv_ix (po_V (pv_var 2)) (po_V pv_int)))))
  (q_cons (q_if (pt_c1 (c_neN hr.units) (po_V (pv_lc rfl sc__law_are.nd (blkOk_by (own := [("k", 3)]) (by rfl)) g_one (by decide) (pi_rng rfl (T.u.t.free 0) (po_V (pv_len rfl (T.u.t.free 3) (po_V (pv_var 1))))) (fun _ _ _ _ _ => (pg_one sc__law_are.nd rfl)) (fun _ _ _ _ _ => (pts_1 (pt_c1 (c_in hr.u65) (po_V (pv_ix (po_V (pv_var 1)) (po_V (pv_var 3)))) (po_V (pv_sl (po_V (pv_var 1)) pp_no (pp_some (po_V (pv_var 3))))) (by rfl)))) (fun _ _ _ _ _ => (pv_var 3)))) (po_V (pv_lst pl_nil)) (by rfl))
  (q_one (q_ret pv_bl))
  q_nil)
  (q_cons (q_if (pt_c1 (c_neN hr.units) (po_V (pv_lc rfl sc__law_are.nd (blkOk_by (own := [("one", 2)]) (by rfl)) g_one (by decide) (pi_seq (pv_var 0)) (fun _ _ _ _ _ => (pg_one sc__law_are.nd rfl)) (fun _ _ _ _ _ => (pts_1 (pt_w (pw_a (pt_c1 c_isnot (po_V (pv_ix (po_V (pv_var 2)) (po_V pv_int))) (po_V pv_non) (by rfl)) (pw_a1 (pt_c1 (c_nin hr.u65) (po_V (pv_ix (po_V (pv_var 2)) (po_V pv_int))) (po_V (pv_var 1)) (by rfl))))))) (fun _ _ _ _ _ => (pv_var 2)))) (po_V (pv_lst pl_nil)) (by rfl))
  (q_one (q_ret pv_bl))
  q_nil)
  (q_one (q_ret (pv_c1 (c_eqN hr.units) (po_V (pv_lc rfl sc__law_are.nd (blkOk_by (own := [("name", 4)]) (by rfl)) g_one (by decide) (pi_seq (pv_var 1)) (fun _ _ _ _ _ => (pg_one sc__law_are.nd rfl)) (fun _ _ _ _ _ => (pts_1 (pt_val' (po_V (p_callV (f__law_rounds T) hr takesN rfl (pl_cons (pv_var 0) (pl_cons (pv_var 4) pl_nil))))))) (fun _ _ _ _ _ => (pv_var 4)))) (po_V (pv_lst pl_nil)) (by rfl))))))))
theorem f__law_bent (T : Tw K w mg base h fa fn exs ts tabs tf xs) : ∀ n : Nat, Df P w K mg base "_law_bent" (2 + n) false 3 (m__law_bent n)
  | 0 => df_bad (ps := ["pen", "thing", "deep"]) (T.u.t.glo 57) (T.u.t.c.def_ 35 (d := d__law_bent) rfl) (fun _ _ _ _ _ _ us hl => match us, hl with | [_, _, _], _ => rfl)
  | n + 1 => by
    have ih : Df P w K mg base "_law_bent" (2 + n) false 3 (m__law_bent n) := f__law_bent T n
    exact df_of (Ωe := []) (T.u.t.glo 57) (T.u.t.c.def_ 35 (d := d__law_bent) rfl) sc__law_bent (fun _ _ _ _ _ _ us hl => match us, hl with | [_, _, _], _ => rfl) fun cdv A outer s H E en hr =>
      (q_cons (q_if (pt_w (pw_o (pt_no (pt_val' (po_V (pv_isi rfl (T.u.t.free 5) rfl (T.u.t.free 1) (by decide +kernel) (po_V (pv_var 1)))))) (pw_o (pt_c1 (c_eq hr.units) (po_V (pv_len rfl (T.u.t.free 3) (po_V (pv_var 1)))) (po_V pv_int) (by rfl)) (pw_o (pt_c1 (c_eq hr.units) (po_V (pv_var 2)) (po_V pv_int) (by rfl)) (pw_o1 (pt_c1 (c_eq hr.units) (po_V (p_callRV (f__law_draw T) (by first | omega | (simp only [Nat.add_eq]; omega)) hr (L2N.takes_of rfl rfl rfl rfl) rfl (pl_cons (pv_var 0) (pl_cons pv_int pl_nil)))) (po_V pv_int) (by rfl)))))))
  (q_cons (q_set sc__law_bent.nd rfl (pv_lst (pl_cons pv_non (pl_cons pv_bl (pl_cons pv_int (pl_cons pv_int (pl_cons pv_int (pl_cons pv_int (pl_cons (pv_neg (po_V pv_int)) (pl_cons (pv_neg (po_V pv_int)) (pl_cons pv_int (pl_cons pv_int (pl_cons (pv_str ['l', 'e', 'f', 't']) (pl_cons (pv_str ['i', 'n', 'k']) (pl_cons (pv_str ['a']) (pl_cons (pv_str ['z', 'z', '9']) (pl_cons (pv_str ['9', 'z']) (pl_cons (pv_str []) (pl_cons (pv_str ['A']) pl_nil)))))))))))))))))))
  (q_cons (q_set sc__law_bent.nd rfl (pv_add (po_V (pv_var 3)) (po_V (pv_lst (pl_cons (pv_tup pl_nil) (pl_cons (pv_lst pl_nil) (pl_cons pv_dic0 (pl_cons (pv_tup (pl_cons (pv_str ['l', 'e', 'f', 't']) (pl_cons pv_int pl_nil))) (pl_cons (pv_tup (pl_cons (pv_str ['s', 'i', 'z', 'e']) (pl_cons pv_int pl_nil))) (pl_cons (pv_tup (pl_cons (pv_str ['i', 'n', 'k']) (pl_cons (pv_str ['9']) pl_nil))) (pl_cons (pv_tup (pl_cons (pv_str ['w', 'i', 'd', 'e']) (pl_cons pv_bl pl_nil))) (pl_cons (pv_tup (pl_cons (pv_str ['x']) pl_nil)) (pl_cons (pv_tup (pl_cons (pv_str ['a']) (pl_cons (pv_tup pl_nil) (pl_cons pv_non pl_nil)))) pl_nil)))))))))))))
  (q_cons (q_set sc__law_bent.nd rfl (pv_add (po_V (pv_var 3)) (po_V (pv_lst (pl_cons (pv_lst (pl_cons (pv_var 1) pl_nil)) (pl_cons (pv_tup (pl_cons (pv_var 1) pl_nil)) pl_nil))))))
  (q_one (q_ret (pv_ix (po_V (pv_var 3)) (po_V (p_callRV (f__law_draw T) (by first | omega | (simp only [Nat.add_eq]; omega)) hr (L2N.takes_of rfl rfl rfl rfl) rfl (pl_cons (pv_var 0) (pl_cons (pv_len rfl (T.u.t.free 3) (po_V (pv_var 3))) pl_nil))))))))))
  q_nil)
  (q_cons (q_par2 (fs := [false, false]) sc__law_bent.nd rfl rfl (pm_v (p_callRV (f__law_draw T) (by first | omega | (simp only [Nat.add_eq]; omega)) hr (L2N.takes_of rfl rfl rfl rfl) rfl (pl_cons (pv_var 0) (pl_cons (pv_len rfl (T.u.t.free 3) (po_V (pv_var 1))) pl_nil))) (pm_v (p_callRV (f__law_draw T) (by first | omega | (simp only [Nat.add_eq]; omega)) hr (L2N.takes_of rfl rfl rfl rfl) rfl (pl_cons (pv_var 0) (pl_cons pv_int pl_nil))) pm_nil)))
  (q_cons (q_if (pt_c1 (c_eq hr.units) (po_V (pv_var 5)) (po_V pv_int) (by rfl))
  (q_one (q_ret (pv_add (po_V (pv_sl (po_V (pv_var 1)) pp_no (pp_some (po_V (pv_var 4))))) (po_V (pv_sl (po_V (pv_var 1)) (pp_some (po_V (pv_add (po_V (pv_var 4)) (po_V pv_int)))) pp_no)))))
  q_nil)
  (q_cons (q_if (pt_c1 (c_eq hr.units) (po_V (pv_var 5)) (po_V pv_int) (by rfl))
  (q_one (q_ret (pv_add (po_V (pv_add (po_V (pv_sl (po_V (pv_var 1)) pp_no (pp_some (po_V (pv_var 4))))) (po_V (pv_sl (po_V (pv_var 1)) (pp_some (po_V (pv_var 4))) (pp_some (po_V (pv_add (po_V (pv_var 4)) (po_V pv_int)))))))) (po_V (pv_sl (po_V (pv_var 1)) (pp_some (po_V (pv_var 4))) pp_no)))))
  q_nil)
  (q_cons (q_if (pt_c1 (c_eq hr.units) (po_V (pv_var 5)) (po_V pv_int) (by rfl))
  (q_one (q_ret (pv_F (pf_list rfl (T.u.t.free 2) (po_V (pv_var 1))))))
  q_nil)
  (q_cons (q_if (pt_w (pw_a (pt_c1 (c_eq hr.units) (po_V (pv_var 5)) (po_V pv_int) (by rfl)) (pw_a1 (pt_c1 c_gt (po_V (pv_var 4)) (po_V pv_int) (by rfl)))))
  (q_one (q_ret (pv_add (po_V (pv_add (po_V (pv_sl (po_V (pv_var 1)) pp_no (pp_some (po_V (pv_sub (po_V (pv_var 4)) (po_V pv_int)))))) (po_V (pv_tup (pl_cons (pv_ix (po_V (pv_var 1)) (po_V (pv_var 4))) (pl_cons (pv_ix (po_V (pv_var 1)) (po_V (pv_sub (po_V (pv_var 4)) (po_V pv_int)))) pl_nil)))))) (po_V (pv_sl (po_V (pv_var 1)) (pp_some (po_V (pv_add (po_V (pv_var 4)) (po_V pv_int)))) pp_no)))))
  q_nil)
  (q_one (q_ret (pv_add (po_V (pv_add (po_V (pv_sl (po_V (pv_var 1)) pp_no (pp_some (po_V (pv_var 4))))) (po_V (pv_tup (pl_cons (p_callRV ih (by first | omega | (simp only [Nat.add_eq]; omega)) hr (L2N.takes_of rfl rfl rfl rfl) rfl (pl_cons (pv_var 0) (pl_cons (pv_ix (po_V (pv_var 1)) (po_V (pv_var 4))) (pl_cons (pv_sub (po_V (pv_var 2)) (po_V pv_int)) pl_nil)))) pl_nil))))) (po_V (pv_sl (po_V (pv_var 1)) (pp_some (po_V (pv_add (po_V (pv_var 4)) (po_V pv_int)))) pp_no)))))))))))
theorem f__law_over (T : Tw K w mg base h fa fn exs ts tabs tf xs) : Df P w K mg base "_law_over" 2 false 2 m__law_over :=
  df_of (Ωe := []) (T.u.t.glo 58) (T.u.t.c.def_ 36 (d := d__law_over) rfl) sc__law_over (fun _ _ _ _ _ _ us hl => match us, hl with | [_, _], _ => rfl) fun cdv A outer s H E en hr =>
  (q_cons (q_set sc__law_over.nd rfl (p_callV (f__law_draw T) hr (L2N.takes_of rfl rfl rfl rfl) rfl (pl_cons (pv_var 0) (pl_cons (pv_len rfl (T.u.t.free 3) (po_V (pv_var 1))) pl_nil))))
  (q_cons (q_set sc__law_over.nd rfl (pv_ix (po_V (pv_lst (pl_cons (pv_ix (po_V (pv_ix (po_V (pv_var 1)) (po_V (p_callV (f__law_draw T) hr (L2N.takes_of rfl rfl rfl rfl) rfl (pl_cons (pv_var 0) (pl_cons (pv_len rfl (T.u.t.free 3) (po_V (pv_var 1))) pl_nil)))))) (po_V pv_int)) (pl_cons (pv_str ['n', 'o', 'b', 'o', 'd', 'y']) (pl_cons pv_non pl_nil))))) (po_V (p_callV (f__law_draw T) hr (L2N.takes_of rfl rfl rfl rfl) rfl (pl_cons (pv_var 0) (pl_cons pv_int pl_nil))))))
  (q_cons (q_unp (sl := [4, 5, 6]) (pv_ix (po_V (pv_var 1)) (po_V (pv_var 2))) (pg_many rfl (.cons (pg_name sc__law_over.nd rfl (by first | exact Or.inl rfl | exact Or.inr rfl)) (.cons (pg_name sc__law_over.nd rfl (by first | exact Or.inl rfl | exact Or.inr rfl)) (.cons (pg_name sc__law_over.nd rfl (by first | exact Or.inl rfl | exact Or.inr rfl)) .nil))) (pgs_cons (pg_name sc__law_over.nd rfl (by first | exact Or.inl rfl | exact Or.inr rfl)) (pgs_cons (pg_name sc__law_over.nd rfl (by first | exact Or.inl rfl | exact Or.inr rfl)) (pgs_cons (pg_name sc__law_over.nd rfl (by first | exact Or.inl rfl | exact Or.inr rfl)) pgs_nil)))) g_many)
  (q_one (q_ret (pv_add (po_V (pv_add (po_V (pv_sl (po_V (pv_var 1)) pp_no (pp_some (po_V (pv_var 2))))) (po_V (pv_tup (pl_cons (pv_tup (pl_cons (pv_var 4) (pl_cons (pv_var 3) (pl_cons (pv_var 6) pl_nil)))) pl_nil))))) (po_V (pv_sl (po_V (pv_var 1)) (pp_some (po_V (pv_add (po_V (pv_var 2)) (po_V pv_int)))) pp_no))))))))
theorem f_law {fd fdp : FuncData} (T : Tw K w mg base h fa fn exs ts tabs tf xs) (F : FunD K "law" "law" (defArgs (top 53)) (defBody (top 53)) (defScope (top 53)) [] [] (He.ga K "law") fd)
    (Fp : FunD K "_law_pen" "_law_pen" (defArgs (top 33)) (defBody (top 33)) (defScope (top 33)) [] [] (He.ga K "_law_pen") fdp)
    (main : ∀ ns : List Int, ns.length ≤ 63 → ∃ s, b_law (startL N_law 1) (pen0 ns) = .ret (.bl true) s) : RunC P w K mg base 23 (He.ga K "law") fd (spLaw K) := by
  refine law_okC (Ωe := []) F sc_law (by decide) (by decide) (fun cdv s H en hr hgd => pss_cons (ps_set (i := 1) sc_law.nd rfl (by first | exact Or.inl rfl | exact Or.inr rfl) (pe_callS (f__law_pen T Fp) (hr.mono (by decide)) rfl (T.u.t.glo 59) Fp.kp (Fp.bindsN fun _ _ _ _ _ _ us hl => match us, hl with | [_], _ => rfl) (L2N.passAt (L2N.takes_of rfl rfl rfl rfl)) (pa_cons (pv 0) pa_nil))) ?_) main
  exact (q_cons (q_for (sl := [2]) (passes_of rfl) rfl (pi_rng rfl (T.u.t.free 0) (po_V (pv_add (po_V pv_int) (po_V (p_callV (f__law_draw T) hr (L2N.takes_of rfl rfl rfl rfl) rfl (pl_cons (pv_var 1) (pl_cons pv_int pl_nil))))))) (pg_one sc_law.nd rfl) g_one
  (q_end [9, 5] (q_cons (q_set sc_law.nd rfl (p_callV (f__law_names T) hr (L2N.takes_of rfl rfl rfl rfl) rfl (pl_cons (pv_var 1) (pl_cons (pv_ix (po_V (pv_lst (pl_cons pv_int (pl_cons pv_int pl_nil)))) (po_V (p_callV (f__law_draw T) hr (L2N.takes_of rfl rfl rfl rfl) rfl (pl_cons (pv_var 1) (pl_cons pv_int pl_nil))))) pl_nil))))
  (q_cons (q_set sc_law.nd rfl (p_callV (f__law_masters T) hr (L2N.takes_of rfl rfl rfl rfl) rfl (pl_cons (pv_var 1) (pl_cons (pv_ix (po_V (pv_lst (pl_cons pv_int (pl_cons pv_int pl_nil)))) (po_V (p_callV (f__law_draw T) hr (L2N.takes_of rfl rfl rfl rfl) rfl (pl_cons (pv_var 1) (pl_cons pv_int pl_nil))))) (pl_cons (pv_var 3) pl_nil)))))
  (q_cons (q_own sc_law.nd rfl (pf_lst (pl_cons (pv_var 4) (pl_cons (p_callV (f__law_bent T 20) hr (L2N.takes_of rfl rfl rfl rfl) rfl (pl_cons (pv_var 1) (pl_cons (pv_var 4) (pl_cons pv_int pl_nil)))) (pl_cons (p_callV (f__law_bent T 20) hr (L2N.takes_of rfl rfl rfl rfl) rfl (pl_cons (pv_var 1) (pl_cons (pv_var 4) (pl_cons pv_int pl_nil)))) (pl_cons (p_callV (f__law_over T) hr (L2N.takes_of rfl rfl rfl rfl) rfl (pl_cons (pv_var 1) (pl_cons (pv_var 4) pl_nil))) pl_nil))))) own_new)
  (q_cons (q_app (i := 5) (p_callV (f__law_bent T 20) hr (L2N.takes_of rfl rfl rfl rfl) rfl (pl_cons (pv_var 1) (pl_cons (pv_var 4) (pl_cons pv_int pl_nil)))))
  (q_cons (q_set sc_law.nd rfl (pv_tuple rfl (T.u.t.free 1) (po_V (pv_lc rfl sc_law.nd (blkOk_by (own := [("name", 14)]) (by rfl)) g_one (by decide) (pi_seq (pv_sl (po_V (pv_add (po_V (p_callV (f__law_names T) hr (L2N.takes_of rfl rfl rfl rfl) rfl (pl_cons (pv_var 1) (pl_cons pv_int pl_nil)))) (po_V (pv_lst (pl_cons (pv_str ['q']) pl_nil))))) pp_no (pp_some (po_V (pv_add (po_V pv_int) (po_V (p_callV (f__law_draw T) hr (L2N.takes_of rfl rfl rfl rfl) rfl (pl_cons (pv_var 1) (pl_cons pv_int pl_nil))))))))) (fun _ _ _ _ _ => (pg_one sc_law.nd rfl)) (fun _ _ _ _ _ => pts_0) (fun _ _ _ _ _ => (pv_tup (pl_cons (pv_var 14) (pl_cons (pv_tup pl_nil) (pl_cons pv_non pl_nil)))))))))
  (q_cons (q_own sc_law.nd rfl (pf_add (po_var 5) (po_V (pv_lst (pl_cons (p_callV (f__law_over T) hr (L2N.takes_of rfl rfl rfl rfl) rfl (pl_cons (pv_var 1) (pl_cons (pv_ix (po_var 5) (po_V pv_int)) pl_nil))) (pl_cons (pv_mul (po_V (pv_sl (po_V (pv_var 4)) pp_no (pp_some (po_V pv_int)))) (po_V pv_int)) (pl_cons (pv_tup (pl_cons (pv_tup (pl_cons (pv_ix (po_V (pv_ix (po_V (pv_var 4)) (po_V pv_int))) (po_V pv_int)) (pl_cons pv_non (pl_cons (pv_var 6) pl_nil)))) pl_nil)) (pl_cons (pv_F (pf_list rfl (T.u.t.free 2) (po_V (pv_var 4)))) (pl_cons pv_non pl_nil)))))))) (own_old (by decide)))
  (q_cons (q_set sc_law.nd rfl (pv_tuple rfl (T.u.t.free 1) (po_V (pv_lc rfl sc_law.nd (blkOk_by (own := [("name", 14)]) (by rfl)) g_one (by decide) (pi_seq (p_callV (f__law_names T) hr (L2N.takes_of rfl rfl rfl rfl) rfl (pl_cons (pv_var 1) (pl_cons (pv_add (po_V pv_int) (po_V (p_callV (f__law_draw T) hr (L2N.takes_of rfl rfl rfl rfl) rfl (pl_cons (pv_var 1) (pl_cons pv_int pl_nil))))) pl_nil)))) (fun _ _ _ _ _ => (pg_one sc_law.nd rfl)) (fun _ _ _ _ _ => pts_0) (fun _ _ _ _ _ => (pv_tup (pl_cons (pv_var 14) (pl_cons pv_non (pl_cons (pv_tup pl_nil) pl_nil)))))))))
  (q_cons (q_set sc_law.nd rfl (p_callV (f__law_names T) hr (L2N.takes_of rfl rfl rfl rfl) rfl (pl_cons (pv_var 1) (pl_cons pv_int pl_nil))))
  (q_cons (q_own sc_law.nd rfl (pf_lst pl_nil) own_new)
  (q_cons (q_for (sl := [10]) (passes_of rfl) rfl (pi_rng rfl (T.u.t.free 0) (po_V (pv_len rfl (T.u.t.free 3) (po_V (pv_var 7))))) (pg_one sc_law.nd rfl) g_one
  (q_cons (q_set sc_law.nd rfl (pv_tuple rfl (T.u.t.free 1) (po_V (pv_lc rfl sc_law.nd (blkOk_by (own := [("name", 14)]) (by rfl)) g_one (by decide) (pi_seq (pv_sl (po_V (pv_var 8)) (pp_some (po_V (pv_mul (po_V pv_int) (po_V (pv_mod (po_V (pv_var 10)) (po_V pv_int)))))) (pp_some (po_V (pv_add (po_V (pv_mul (po_V pv_int) (po_V (pv_mod (po_V (pv_var 10)) (po_V pv_int))))) (po_V pv_int)))))) (fun _ _ _ _ _ => (pg_one sc_law.nd rfl)) (fun _ _ _ _ _ => pts_0) (fun _ _ _ _ _ => (pv_tup (pl_cons (pv_var 14) (pl_cons (pv_tup pl_nil) (pl_cons pv_non pl_nil)))))))))
  (q_one (q_app (i := 9) (pv_tup (pl_cons (pv_ix (po_V (pv_ix (po_V (pv_var 7)) (po_V (pv_var 10)))) (po_V pv_int)) (pl_cons (pv_if (pt_c1 (c_eq hr.units) (po_V (pv_var 10)) (po_V pv_int) (by rfl)) pv_non (pv_ix (po_V (pv_ix (po_V (pv_var 7)) (po_V (pv_sub (po_V (pv_var 10)) (po_V pv_int))))) (po_V pv_int))) (pl_cons (pv_var 6) pl_nil))))))))
  (q_one (q_for (sl := [11]) (passes_of rfl) rfl (pi_seq (pv_add (po_var 5) (po_V (pv_lst (pl_cons (pv_var 7) (pl_cons (pv_tup pl_nil) (pl_cons (pv_ix (po_V (pv_var 4)) (po_V pv_int)) (pl_cons (pv_tuple rfl (T.u.t.free 1) (po_var 9)) pl_nil)))))))) (pg_one sc_law.nd rfl) g_one
  (q_cons (q_set sc_law.nd rfl (pv_reprE T.sy hgd hr.u65 rfl (T.u.t.free 4) (po_V (pv_var 11))))
  (q_cons (q_set sc_law.nd rfl (p_callV (f_is_masters T) hr (L2N.takes_of rfl rfl rfl rfl) rfl (pl_cons (pv_var 11) pl_nil)))
  (q_one (q_if (pt_w (pw_o (pt_no (pt_val' (po_V (pv_isi rfl (T.u.t.free 5) rfl (T.u.t.free 6) (by decide +kernel) (po_V (pv_var 13)))))) (pw_o (pt_c1 (c_ne hr.units) (po_V (pv_var 13)) (po_V (p_callV (f__law_are T) hr (L2N.takes_of rfl rfl rfl rfl) rfl (pl_cons (pv_var 11) pl_nil))) (by rfl)) (pw_o1 (pt_c1 (c_ne hr.units) (po_V (pv_reprE T.sy hgd hr.u65 rfl (T.u.t.free 4) (po_V (pv_var 11)))) (po_V (pv_var 12)) (by rfl))))))
  (q_one (q_ret pv_bl))
  q_nil))))))))))))))))))
  (q_one (q_ret pv_bl)))
end
end Pf

namespace Mr
open PySem PySem.Spec PyProof.Rows L2
section
variable {s : Store} {Φ : D → Store → Prop} {Ξ : Xc → Store → Prop}
theorem wp_eq_int (a b : Int) : wp (opEq (.int a) (.int b)) s Φ Ξ = Φ (.bl (a == b)) s := by
  rw [wp_eq (by simp [D.okD, D.plain, D.depth]) (by simp [D.okD, D.plain, D.depth])]
  simp only [D.eqv]
theorem wp_eq_str (a b : Tx) : wp (opEq (.str a) (.str b)) s Φ Ξ = Φ (.bl (a == b)) s := by
  rw [wp_eq (by simp [D.okD, D.plain, D.depth]) (by simp [D.okD, D.plain, D.depth])]
  simp only [D.eqv]
theorem wp_eq_bl (a b : Bool) : wp (opEq (.bl a) (.bl b)) s Φ Ξ = Φ (.bl (a == b)) s := by
  rw [wp_eq (by simp [D.okD, D.plain, D.depth]) (by simp [D.okD, D.plain, D.depth])]
  simp only [D.eqv]
theorem wp_ne_bl (a b : Bool) : wp (opNe (.bl a) (.bl b)) s Φ Ξ = Φ (.bl (!(a == b))) s := by
  rw [wp_ne (by simp [D.okD, D.plain, D.depth]) (by simp [D.okD, D.plain, D.depth])]
  simp only [D.eqv]
theorem wp_ne_int (a b : Int) : wp (opNe (.int a) (.int b)) s Φ Ξ = Φ (.bl (!(a == b))) s := by
  rw [wp_ne (by simp [D.okD, D.plain, D.depth]) (by simp [D.okD, D.plain, D.depth])]
  simp only [D.eqv]
theorem ix_str_any {xs : Tx} {i : Int} (h0 : 0 ≤ i) (h1 : i < xs.length) (h : ∀ c ∈ xs, Φ (.str [c]) s) : wp (opIx (.str xs) (.int i)) s Φ Ξ := by
  have hl : i.toNat < xs.length := by omega
  rw [wp_ix_str (atI_some h0 hl)]
  exact h _ (List.getElem_mem hl)
theorem ix_lst_any {xs : List D} {i : Int} (h0 : 0 ≤ i) (h1 : i < xs.length) (h : ∀ c ∈ xs, Φ c s) : wp (opIx (.lst xs) (.int i)) s Φ Ξ := by
  have hl : i.toNat < xs.length := by omega
  rw [wp_ix_lst (atI_some h0 hl)]
  exact h _ (List.getElem_mem hl)
theorem wp_ix_lst0 (x : D) (xs : List D) : wp (opIx (.lst (x :: xs)) (.int 0)) s Φ Ξ = Φ x s := wp_ix_lst (atI_some (by omega) (by simp))
theorem wp_ix_tup0 (x : D) (xs : List D) : wp (opIx (.tup (x :: xs)) (.int 0)) s Φ Ξ = Φ x s := wp_ix_tup (atI_some (by omega) (by simp))
theorem wp_ix_tup1 (x y : D) (xs : List D) : wp (opIx (.tup (x :: y :: xs)) (.int 1)) s Φ Ξ = Φ y s := wp_ix_tup (atI_some (by omega) (by simp))
theorem wp_ix_tup2 (x y z : D) (xs : List D) : wp (opIx (.tup (x :: y :: z :: xs)) (.int 2)) s Φ Ξ = Φ z s := wp_ix_tup (atI_some (by omega) (by simp))
theorem texts_map : ∀ l : List Tx, textsOf (l.map D.str) = some l
  | [] => rfl
  | x :: l => by
    show (textsOf (l.map D.str)).map (x :: ·) = _
    rw [texts_map l]
    rfl
theorem wp_join {t : Tx} {xs : List D} {l : List Tx} (h : textsOf xs = some l) (hl : joinLen t l ≤ 1000000) : wp (fJoin (.str t) (.lst xs)) s Φ Ξ = Φ (.str (joinT t l)) s := by
  unfold fJoin
  simp only [h, if_pos hl, wp_pure]
end
def lets : Tx := ['a', 'b', 'c', 'd', 'e', 'f', 'g', 'h', 'i', 'j', 'k', 'l', 'm', 'n', 'o', 'p', 'q', 'r', 's', 't', 'u', 'v', 'w', 'x', 'y', 'z']
def figs : Tx := ['0', '1', '2', '3', '4', '5', '6', '7', '8', '9']
def isName : Tx → Bool
  | [] => false
  | c :: cs => decide (cs.length < 8) && decide (c ∈ lets) && (c :: cs).all fun c => decide (c ∈ lets) || decide (c ∈ figs)
theorem lets_len : lets.length = 26 := rfl
theorem nums_get {lo : Int} {n j : Nat} {d : D} (h : (nums lo n)[j]? = some d) : j < n ∧ d = .int (lo + (j : Nat)) := by
  have hj : j < n := by
    have := (List.getElem?_eq_some_iff.mp h).1
    rwa [nums_length] at this
  refine ⟨hj, ?_⟩
  unfold nums at h
  rw [List.getElem?_map, List.getElem?_range hj] at h
  exact (Option.some.inj h).symm
theorem isName_len {t : Tx} (h : isName t = true) : 1 ≤ t.length ∧ t.length ≤ 8 := by
  cases t with
  | nil => cases h
  | cons c cs =>
    have h1 := (Bool.and_eq_true_iff.mp (Bool.and_eq_true_iff.mp h).1).1
    have := of_decide_eq_true h1
    simp only [List.length_cons]
    omega
end Mr

namespace Mr
open PySem PySem.Spec PyProof.Rows L2
def Fx {α β : Type} (a : α) (b : β) : Type := Unit
def fx {α β : Type} {a : α} {b : β} : Fx a b := ()
def wz {α : Type} (m : M α) (s : Store) (Φ : α → Store → Prop) (Ξ : Xc → Store → Prop) (t : Fx Φ Ξ := fx) : Prop := wp m s Φ Ξ
def wzS (b : SM) (e : Ev) (s : Store) (k : Kt) (t : Fx k k := fx) : Prop := wpS b e s k
theorem z_bad {α : Type} {s : Store} {Φ : α → Store → Prop} {Ξ : Xc → Store → Prop} : wz (bad : M α) s Φ Ξ = False := by first | exact wp_bad .. | rfl | (apply wp_bad <;> assumption)
theorem z_raise {α : Type} {s : Store} {Φ : α → Store → Prop} {Ξ : Xc → Store → Prop} (x : Xc) : wz (raise x : M α) s Φ Ξ = Ξ x s := by first | exact wp_raise .. | rfl | (apply wp_raise <;> assumption)
theorem zS_seq {e : Ev} {s : Store} {k : Kt} {a b : SM} : wzS (sSeq a b) e s k = wzS a e s { k with nx := fun e' s' => wzS b e' s' k } := by first | exact wpS_seq .. | rfl | (apply wpS_seq <;> assumption)
theorem zS_nx {e : Ev} {s : Store} {k : Kt} : wzS sNext e s k = k.nx e s := by first | exact wpS_nx .. | rfl | (apply wpS_nx <;> assumption)
theorem zS_brk {e : Ev} {s : Store} {k : Kt} : wzS sBrk e s k = k.bk e s := by first | exact wpS_brk .. | rfl | (apply wpS_brk <;> assumption)
theorem zS_cnt {e : Ev} {s : Store} {k : Kt} : wzS sCnt e s k = k.ct e s := by first | exact wpS_cnt .. | rfl | (apply wpS_cnt <;> assumption)
theorem zS_drop {e : Ev} {s : Store} {k : Kt} {α : Type} (m : Ev → M α) : wzS (sDrop m) e s k = wz (m e) s (fun _ s' => k.nx e s') (fun x s' => k.ex x e s') := by first | exact wpS_drop .. | rfl | (apply wpS_drop <;> assumption)
theorem zS_set {e : Ev} {s : Store} {k : Kt} {m : EM} {i : Nat} : wzS (sSet i m) e s k = wz (m e) s (fun d s' => k.nx (e.set i (some d)) s') (fun x s' => k.ex x e s') := by first | exact wpS_set .. | rfl | (apply wpS_set <;> assumption)
theorem zS_ret {e : Ev} {s : Store} {k : Kt} {m : EM} : wzS (sRet m) e s k = wz (m e) s (fun d s' => k.rt d s') (fun x s' => k.ex x e s') := by first | exact wpS_ret .. | rfl | (apply wpS_ret <;> assumption)
theorem zS_retN {e : Ev} {s : Store} {k : Kt} : wzS sRetN e s k = k.rt .non s := by first | exact wpS_retN .. | rfl | (apply wpS_retN <;> assumption)
theorem zS_raise {e : Ev} {s : Store} {k : Kt} (c : Str) : wzS (sRaise c) e s k = k.ex ⟨c, []⟩ e s := by first | exact wpS_raise .. | rfl | (apply wpS_raise <;> assumption)
theorem zS_if {e : Ev} {s : Store} {k : Kt} {a b : SM} (c : TM) : wzS (sIf c a b) e s k = wz (c e) s (fun t s' => if t = true then wzS a e s' k else wzS b e s' k) (fun x s' => k.ex x e s') := by first | exact wpS_if .. | rfl | (apply wpS_if <;> assumption)
theorem zS_for {e : Ev} {s : Store} {k : Kt} {b : SM} (it : LM) (g : GM) : wzS (sFor it g b) e s k = wz (it e) s (fun ds s' => wzS (forL g b ds) e s' k) (fun x s' => k.ex x e s') := by first | exact wpS_for .. | rfl | (apply wpS_for <;> assumption)
theorem zS_forNil {e : Ev} {s : Store} {k : Kt} {b : SM} (g : GM) : wzS (forL g b []) e s k = k.nx e s := by first | exact wpS_forNil .. | rfl | (apply wpS_forNil <;> assumption)
theorem z_eC {e : Ev} {s : Store} {Φ : D → Store → Prop} {Ξ : Xc → Store → Prop} (d : D) : wz (eC d e) s Φ Ξ = Φ d s := by first | exact wp_eC .. | rfl | (apply wp_eC <;> assumption)
theorem z_eBin {e : Ev} {s : Store} {Φ : D → Store → Prop} {Ξ : Xc → Store → Prop} (op : D → D → M D) (a b : EM) : wz (eBin op a b e) s Φ Ξ = wz (a e) s (fun x s => wz (b e) s (fun y s => wz (op x y) s Φ Ξ) Ξ) Ξ := by first | exact wp_eBin .. | rfl | (apply wp_eBin <;> assumption)
theorem z_eUn {e : Ev} {s : Store} {Φ : D → Store → Prop} {Ξ : Xc → Store → Prop} (op : D → M D) (a : EM) : wz (eUn op a e) s Φ Ξ = wz (a e) s (fun x s => wz (op x) s Φ Ξ) Ξ := by first | exact wp_eUn .. | rfl | (apply wp_eUn <;> assumption)
theorem z_eFn {e : Ev} {s : Store} {Φ : D → Store → Prop} {Ξ : Xc → Store → Prop} (f : List D → M D) (l : LM) : wz (eFn f l e) s Φ Ξ = wz (l e) s (fun x s => wz (f x) s Φ Ξ) Ξ := by first | exact wp_eFn .. | rfl | (apply wp_eFn <;> assumption)
theorem z_lNil {e : Ev} {s : Store} {Ψ : List D → Store → Prop} {Ξ : Xc → Store → Prop} : wz (lNil e) s Ψ Ξ = Ψ [] s := by first | exact wp_lNil .. | rfl | (apply wp_lNil <;> assumption)
theorem z_lCons {e : Ev} {s : Store} {Ψ : List D → Store → Prop} {Ξ : Xc → Store → Prop} (a : EM) (r : LM) : wz (lCons a r e) s Ψ Ξ = wz (a e) s (fun x s => wz (r e) s (fun xs s => Ψ (x :: xs) s) Ξ) Ξ := by first | exact wp_lCons .. | rfl | (apply wp_lCons <;> assumption)
theorem z_eTup {e : Ev} {s : Store} {Φ : D → Store → Prop} {Ξ : Xc → Store → Prop} (l : LM) : wz (eTup l e) s Φ Ξ = wz (l e) s (fun x s => Φ (.tup x) s) Ξ := by first | exact wp_eTup .. | rfl | (apply wp_eTup <;> assumption)
theorem z_eLst {e : Ev} {s : Store} {Φ : D → Store → Prop} {Ξ : Xc → Store → Prop} (l : LM) : wz (eLst l e) s Φ Ξ = wz (l e) s (fun x s => Φ (.lst x) s) Ξ := by first | exact wp_eLst .. | rfl | (apply wp_eLst <;> assumption)
theorem z_eNew {e : Ev} {s : Store} {Φ : D → Store → Prop} {Ξ : Xc → Store → Prop} (l : LM) : wz (eNew l e) s Φ Ξ = wz (l e) s (fun x s => Φ (.ref s.length) (s ++ [.lst x])) Ξ := by first | exact wp_eNew .. | rfl | (apply wp_eNew <;> assumption)
theorem z_eSl {e : Ev} {s : Store} {Φ : D → Store → Prop} {Ξ : Xc → Store → Prop} (a : EM) (lo hi : PM) : wz (eSl a lo hi e) s Φ Ξ = wz (a e) s (fun x s => wz (lo e) s (fun l s => wz (hi e) s (fun h s => wz (opSl x l h) s Φ Ξ) Ξ) Ξ) Ξ := by first | exact wp_eSl .. | rfl | (apply wp_eSl <;> assumption)
theorem z_pNo {e : Ev} {s : Store} {Ξ : Xc → Store → Prop} {Φ : Option Int → Store → Prop} : wz (pNo e) s Φ Ξ = Φ none s := by first | exact wp_pNo .. | rfl | (apply wp_pNo <;> assumption)
theorem z_pSome {e : Ev} {s : Store} {Ξ : Xc → Store → Prop} (m : EM) {Φ : Option Int → Store → Prop} : wz (pSome m e) s Φ Ξ = wz (m e) s (fun d s => wz (asI d) s Φ Ξ) Ξ := by first | exact wp_pSome .. | rfl | (apply wp_pSome <;> assumption)
theorem z_tBin {e : Ev} {s : Store} {Θ : Bool → Store → Prop} {Ξ : Xc → Store → Prop} (op : D → D → M D) (a b : EM) : wz (tBin op a b e) s Θ Ξ = wz (a e) s (fun x s => wz (b e) s (fun y s => wz (op x y) s (fun d s => wz (unB d) s Θ Ξ) Ξ) Ξ) Ξ := by first | exact wp_tBin .. | rfl | (apply wp_tBin <;> assumption)
theorem z_tChn {e : Ev} {s : Store} {Θ : Bool → Store → Prop} {Ξ : Xc → Store → Prop} (op op' : D → D → M D) (a b c : EM) : wz (tChn op op' a b c e) s Θ Ξ = wz (a e) s (fun x s => wz (b e) s (fun y s => wz (op x y) s (fun d s => wz (unB d) s (fun k s => if k = true then wz (c e) s (fun z s => wz (op' y z) s (fun d s => wz (unB d) s Θ Ξ) Ξ) Ξ else Θ false s) Ξ) Ξ) Ξ) Ξ := by first | exact wp_tChn .. | rfl | (apply wp_tChn <;> assumption)
theorem z_eChain {e : Ev} {s : Store} {Φ : D → Store → Prop} {Ξ : Xc → Store → Prop} (op op' : D → D → M D) (a b c : EM) : wz (eChain op op' a b c e) s Φ Ξ = wz (a e) s (fun x s => wz (b e) s (fun y s => wz (op x y) s (fun d s => wz (unB d) s (fun k s => if k = true then wz (c e) s (fun z s => wz (op' y z) s Φ Ξ) Ξ else Φ (.bl false) s) Ξ) Ξ) Ξ) Ξ := by first | exact wp_eChain .. | rfl | (apply wp_eChain <;> assumption)
theorem z_tVal {e : Ev} {s : Store} {Θ : Bool → Store → Prop} {Ξ : Xc → Store → Prop} (m : EM) : wz (tVal m e) s Θ Ξ = wz (m e) s (fun d s => wz (tru d) s Θ Ξ) Ξ := by first | exact wp_tVal .. | rfl | (apply wp_tVal <;> assumption)
theorem z_tAnd {e : Ev} {s : Store} {Θ : Bool → Store → Prop} {Ξ : Xc → Store → Prop} (a b : TM) : wz (tAnd' a b e) s Θ Ξ = wz (a e) s (fun k s => if k = true then wz (b e) s Θ Ξ else Θ false s) Ξ := by first | exact wp_tAnd .. | rfl | (apply wp_tAnd <;> assumption)
theorem z_tOr {e : Ev} {s : Store} {Θ : Bool → Store → Prop} {Ξ : Xc → Store → Prop} (a b : TM) : wz (tOr' a b e) s Θ Ξ = wz (a e) s (fun k s => if k = true then Θ true s else wz (b e) s Θ Ξ) Ξ := by first | exact wp_tOr .. | rfl | (apply wp_tOr <;> assumption)
theorem z_tNot {e : Ev} {s : Store} {Θ : Bool → Store → Prop} {Ξ : Xc → Store → Prop} (a : TM) : wz (tNot' a e) s Θ Ξ = wz (a e) s (fun k s => Θ (!k) s) Ξ := by first | exact wp_tNot .. | rfl | (apply wp_tNot <;> assumption)
theorem z_eAnd {e : Ev} {s : Store} {Φ : D → Store → Prop} {Ξ : Xc → Store → Prop} (a b : EM) : wz (eAnd a b e) s Φ Ξ = wz (a e) s (fun x s => wz (tru x) s (fun k s => if k = true then wz (b e) s Φ Ξ else Φ x s) Ξ) Ξ := by first | exact wp_eAnd .. | rfl | (apply wp_eAnd <;> assumption)
theorem z_eOr {e : Ev} {s : Store} {Φ : D → Store → Prop} {Ξ : Xc → Store → Prop} (a b : EM) : wz (eOr a b e) s Φ Ξ = wz (a e) s (fun x s => wz (tru x) s (fun k s => if k = true then Φ x s else wz (b e) s Φ Ξ) Ξ) Ξ := by first | exact wp_eOr .. | rfl | (apply wp_eOr <;> assumption)
theorem z_eNot {e : Ev} {s : Store} {Φ : D → Store → Prop} {Ξ : Xc → Store → Prop} (a : EM) : wz (eNot a e) s Φ Ξ = wz (a e) s (fun x s => wz (tru x) s (fun k s => Φ (.bl (!k)) s) Ξ) Ξ := by first | exact wp_eNot .. | rfl | (apply wp_eNot <;> assumption)
theorem z_eIf {e : Ev} {s : Store} {Φ : D → Store → Prop} {Ξ : Xc → Store → Prop} (t : TM) (a b : EM) : wz (eIf t a b e) s Φ Ξ = wz (t e) s (fun k s => if k = true then wz (a e) s Φ Ξ else wz (b e) s Φ Ξ) Ξ := by first | exact wp_eIf .. | rfl | (apply wp_eIf <;> assumption)
theorem z_eMeth {e : Ev} {s : Store} {Φ : D → Store → Prop} {Ξ : Xc → Store → Prop} (g : D → D → M D) (a b : EM) : wz (eMeth g a b e) s Φ Ξ = wz (a e) s (fun x s => wz (asS x) s (fun x s => wz (b e) s (fun y s => wz (g x y) s Φ Ξ) Ξ) Ξ) Ξ := by first | exact wp_eMeth .. | rfl | (apply wp_eMeth <;> assumption)
theorem z_iSeq {e : Ev} {s : Store} {Ψ : List D → Store → Prop} {Ξ : Xc → Store → Prop} (m : EM) : wz (iSeq m e) s Ψ Ξ = wz (m e) s (fun d s => wz (seqOf d) s Ψ Ξ) Ξ := by first | exact wp_iSeq .. | rfl | (apply wp_iSeq <;> assumption)
theorem z_iRng {e : Ev} {s : Store} {Ψ : List D → Store → Prop} {Ξ : Xc → Store → Prop} (m : EM) : wz (iRng m e) s Ψ Ξ = wz (m e) s (fun d s => wz (rng1 d) s Ψ Ξ) Ξ := by first | exact wp_iRng .. | rfl | (apply wp_iRng <;> assumption)
theorem z_iRng2 {e : Ev} {s : Store} {Ψ : List D → Store → Prop} {Ξ : Xc → Store → Prop} (a b : EM) : wz (iRng2' a b e) s Ψ Ξ = wz (a e) s (fun x s => wz (b e) s (fun y s => wz (rng2 x y) s Ψ Ξ) Ξ) Ξ := by first | exact wp_iRng2 .. | rfl | (apply wp_iRng2 <;> assumption)
theorem z_iRevs {e : Ev} {s : Store} {Ψ : List D → Store → Prop} {Ξ : Xc → Store → Prop} (m : EM) : wz (iRevs m e) s Ψ Ξ = wz (m e) s (fun d s => wz (revOf d) s Ψ Ξ) Ξ := by first | exact wp_iRevs .. | rfl | (apply wp_iRevs <;> assumption)
theorem z_eComp {e : Ev} {s : Store} {Φ : D → Store → Prop} {Ξ : Xc → Store → Prop} (sl : List Nat) (it : LM) (g : GM) (c : TM) (t : EM) : wz (eComp sl it g c t e) s Φ Ξ = wz (it e) s (fun ds s => wz (compM sl g c t e ds) s (fun ys s => Φ (.lst ys) s) Ξ) Ξ := by first | exact wp_eComp .. | rfl | (apply wp_eComp <;> assumption)
theorem z_cYes {e : Ev} {s : Store} {Θ : Bool → Store → Prop} {Ξ : Xc → Store → Prop} : wz (cYes e) s Θ Ξ = Θ true s := by first | exact wp_cYes .. | rfl | (apply wp_cYes <;> assumption)
theorem z_unB {s : Store} {Θ : Bool → Store → Prop} {Ξ : Xc → Store → Prop} (b : Bool) : wz (unB (.bl b)) s Θ Ξ = Θ b s := by first | exact wp_unB .. | rfl | (apply wp_unB <;> assumption)
theorem z_asI {s : Store} {Ξ : Xc → Store → Prop} (i : Int) {Φ : Option Int → Store → Prop} : wz (asI (.int i)) s Φ Ξ = Φ (some i) s := by first | exact wp_asI .. | rfl | (apply wp_asI <;> assumption)
theorem z_asS {s : Store} {Φ : D → Store → Prop} {Ξ : Xc → Store → Prop} (x : Tx) : wz (asS (.str x)) s Φ Ξ = Φ (.str x) s := by first | exact wp_asS .. | rfl | (apply wp_asS <;> assumption)
theorem z_tru_bl {s : Store} {Θ : Bool → Store → Prop} {Ξ : Xc → Store → Prop} (b : Bool) : wz (tru (.bl b)) s Θ Ξ = Θ b s := by first | exact wp_tru_bl .. | rfl | (apply wp_tru_bl <;> assumption)
theorem z_tru_non {s : Store} {Θ : Bool → Store → Prop} {Ξ : Xc → Store → Prop} : wz (tru .non) s Θ Ξ = Θ false s := by first | exact wp_tru_non .. | rfl | (apply wp_tru_non <;> assumption)
theorem z_tru_int {s : Store} {Θ : Bool → Store → Prop} {Ξ : Xc → Store → Prop} (i : Int) : wz (tru (.int i)) s Θ Ξ = Θ (i != 0) s := by first | exact wp_tru_int .. | rfl | (apply wp_tru_int <;> assumption)
theorem z_tru_str {s : Store} {Θ : Bool → Store → Prop} {Ξ : Xc → Store → Prop} (x : Tx) : wz (tru (.str x)) s Θ Ξ = Θ (!x.isEmpty) s := by first | exact wp_tru_str .. | rfl | (apply wp_tru_str <;> assumption)
theorem z_tru_lst {s : Store} {Θ : Bool → Store → Prop} {Ξ : Xc → Store → Prop} (x : List D) : wz (tru (.lst x)) s Θ Ξ = Θ (!x.isEmpty) s := by first | exact wp_tru_lst .. | rfl | (apply wp_tru_lst <;> assumption)
theorem z_tru_tup {s : Store} {Θ : Bool → Store → Prop} {Ξ : Xc → Store → Prop} (x : List D) : wz (tru (.tup x)) s Θ Ξ = Θ (!x.isEmpty) s := by first | exact wp_tru_tup .. | rfl | (apply wp_tru_tup <;> assumption)
theorem z_add_int {s : Store} {Φ : D → Store → Prop} {Ξ : Xc → Store → Prop} (a b : Int) : wz (opAdd (.int a) (.int b)) s Φ Ξ = Φ (.int (a + b)) s := by first | exact wp_add_int .. | rfl | (apply wp_add_int <;> assumption)
theorem z_sub_int {s : Store} {Φ : D → Store → Prop} {Ξ : Xc → Store → Prop} (a b : Int) : wz (opSub (.int a) (.int b)) s Φ Ξ = Φ (.int (a - b)) s := by first | exact wp_sub_int .. | rfl | (apply wp_sub_int <;> assumption)
theorem z_neg_int {s : Store} {Φ : D → Store → Prop} {Ξ : Xc → Store → Prop} (a : Int) : wz (opNeg (.int a)) s Φ Ξ = Φ (.int (-a)) s := by first | exact wp_neg_int .. | rfl | (apply wp_neg_int <;> assumption)
theorem z_add_lst {s : Store} {Φ : D → Store → Prop} {Ξ : Xc → Store → Prop} (a b : List D) (h : a.length + b.length ≤ 16000000) : wz (opAdd (.lst a) (.lst b)) s Φ Ξ = Φ (.lst (a ++ b)) s := by first | exact wp_add_lst .. | rfl | (apply wp_add_lst <;> assumption)
theorem z_add_tup {s : Store} {Φ : D → Store → Prop} {Ξ : Xc → Store → Prop} (a b : List D) (h : a.length + b.length ≤ 16000000) : wz (opAdd (.tup a) (.tup b)) s Φ Ξ = Φ (.tup (a ++ b)) s := by first | exact wp_add_tup .. | rfl | (apply wp_add_tup <;> assumption)
theorem z_mul_int {s : Store} {Φ : D → Store → Prop} {Ξ : Xc → Store → Prop} (a b : Int) (h : (-(2 ^ 64) < a ∧ a < 2 ^ 64) ∨ (-(2 ^ 64) < b ∧ b < 2 ^ 64)) : wz (opMul (.int a) (.int b)) s Φ Ξ = Φ (.int (a * b)) s := by first | exact wp_mul_int .. | rfl | (apply wp_mul_int <;> assumption)
theorem z_mod_int {s : Store} {Φ : D → Store → Prop} {Ξ : Xc → Store → Prop} (a b : Int) (h : b ≠ 0) : wz (opMod (.int a) (.int b)) s Φ Ξ = Φ (.int (a.fmod b)) s := by first | exact wp_mod_int .. | rfl | (apply wp_mod_int <;> assumption)
theorem z_lt_int {s : Store} {Φ : D → Store → Prop} {Ξ : Xc → Store → Prop} (a b : Int) : wz (opLt (.int a) (.int b)) s Φ Ξ = Φ (.bl (decide (a < b))) s := by first | exact wp_lt_int .. | rfl | (apply wp_lt_int <;> assumption)
theorem z_le_int {s : Store} {Φ : D → Store → Prop} {Ξ : Xc → Store → Prop} (a b : Int) : wz (opLe (.int a) (.int b)) s Φ Ξ = Φ (.bl (decide (a ≤ b))) s := by first | exact wp_le_int .. | rfl | (apply wp_le_int <;> assumption)
theorem z_gt_int {s : Store} {Φ : D → Store → Prop} {Ξ : Xc → Store → Prop} (a b : Int) : wz (opGt (.int a) (.int b)) s Φ Ξ = Φ (.bl (decide (b < a))) s := by first | exact wp_gt_int .. | rfl | (apply wp_gt_int <;> assumption)
theorem z_ge_int {s : Store} {Φ : D → Store → Prop} {Ξ : Xc → Store → Prop} (a b : Int) : wz (opGe (.int a) (.int b)) s Φ Ξ = Φ (.bl (decide (b ≤ a))) s := by first | exact wp_ge_int .. | rfl | (apply wp_ge_int <;> assumption)
theorem z_eq {s : Store} {Φ : D → Store → Prop} {Ξ : Xc → Store → Prop} {d d' : D} (h1 : d.okD = true) (h2 : d'.okD = true) : wz (opEq d d') s Φ Ξ = Φ (.bl (D.eqv d d')) s := by first | exact wp_eq .. | rfl | (apply wp_eq <;> assumption)
theorem z_ne {s : Store} {Φ : D → Store → Prop} {Ξ : Xc → Store → Prop} {d d' : D} (h1 : d.okD = true) (h2 : d'.okD = true) : wz (opNe d d') s Φ Ξ = Φ (.bl (!D.eqv d d')) s := by first | exact wp_ne .. | rfl | (apply wp_ne <;> assumption)
theorem z_is_non {s : Store} {Φ : D → Store → Prop} {Ξ : Xc → Store → Prop} (d : D) : wz (opIs d .non) s Φ Ξ = Φ (.bl (isNon d)) s := by first | exact wp_is_non .. | rfl | (apply wp_is_non <;> assumption)
theorem z_is_bl {s : Store} {Φ : D → Store → Prop} {Ξ : Xc → Store → Prop} (a b : Bool) : wz (opIs (.bl a) (.bl b)) s Φ Ξ = Φ (.bl (decide (a = b))) s := by first | exact wp_is_bl .. | rfl | (apply wp_is_bl <;> assumption)
theorem z_isnot_non {s : Store} {Φ : D → Store → Prop} {Ξ : Xc → Store → Prop} (d : D) : wz (opIsNot d .non) s Φ Ξ = Φ (.bl (!isNon d)) s := by first | exact wp_isnot_non .. | rfl | (apply wp_isnot_non <;> assumption)
theorem z_isnot_bl {s : Store} {Φ : D → Store → Prop} {Ξ : Xc → Store → Prop} (a b : Bool) : wz (opIsNot (.bl a) (.bl b)) s Φ Ξ = Φ (.bl (!decide (a = b))) s := by first | exact wp_isnot_bl .. | rfl | (apply wp_isnot_bl <;> assumption)
theorem z_in_sign {s : Store} {Φ : D → Store → Prop} {Ξ : Xc → Store → Prop} (c : Char) (b : Tx) : wz (opIn (.str [c]) (.str b)) s Φ Ξ = Φ (.bl (decide (c ∈ b))) s := by first | exact wp_in_sign .. | rfl | (apply wp_in_sign <;> assumption)
theorem z_nin_sign {s : Store} {Φ : D → Store → Prop} {Ξ : Xc → Store → Prop} (c : Char) (b : Tx) : wz (opNotIn (.str [c]) (.str b)) s Φ Ξ = Φ (.bl (!decide (c ∈ b))) s := by first | exact wp_nin_sign .. | rfl | (apply wp_nin_sign <;> assumption)
theorem z_len_str {s : Store} {Φ : D → Store → Prop} {Ξ : Xc → Store → Prop} (x : Tx) : wz (fLen (.str x)) s Φ Ξ = Φ (.int x.length) s := by first | exact wp_len_str .. | rfl | (apply wp_len_str <;> assumption)
theorem z_len_lst {s : Store} {Φ : D → Store → Prop} {Ξ : Xc → Store → Prop} (x : List D) : wz (fLen (.lst x)) s Φ Ξ = Φ (.int x.length) s := by first | exact wp_len_lst .. | rfl | (apply wp_len_lst <;> assumption)
theorem z_len_tup {s : Store} {Φ : D → Store → Prop} {Ξ : Xc → Store → Prop} (x : List D) : wz (fLen (.tup x)) s Φ Ξ = Φ (.int x.length) s := by first | exact wp_len_tup .. | rfl | (apply wp_len_tup <;> assumption)
theorem z_ix_lst {s : Store} {Φ : D → Store → Prop} {Ξ : Xc → Store → Prop} {xs : List D} {i : Int} {d : D} (h : L2.atI xs i = some d) : wz (opIx (.lst xs) (.int i)) s Φ Ξ = Φ d s := by first | exact wp_ix_lst .. | rfl | (apply wp_ix_lst <;> assumption)
theorem z_ix_tup {s : Store} {Φ : D → Store → Prop} {Ξ : Xc → Store → Prop} {xs : List D} {i : Int} {d : D} (h : L2.atI xs i = some d) : wz (opIx (.tup xs) (.int i)) s Φ Ξ = Φ d s := by first | exact wp_ix_tup .. | rfl | (apply wp_ix_tup <;> assumption)
theorem z_sl_lst {s : Store} {Φ : D → Store → Prop} {Ξ : Xc → Store → Prop} (xs : List D) (l h : Option Int) : wz (opSl (.lst xs) l h) s Φ Ξ = Φ (.lst (cutL xs l h)) s := by first | exact wp_sl_lst .. | rfl | (apply wp_sl_lst <;> assumption)
theorem z_sl_tup {s : Store} {Φ : D → Store → Prop} {Ξ : Xc → Store → Prop} (xs : List D) (l h : Option Int) : wz (opSl (.tup xs) l h) s Φ Ξ = Φ (.tup (cutL xs l h)) s := by first | exact wp_sl_tup .. | rfl | (apply wp_sl_tup <;> assumption)
theorem z_sl_str {s : Store} {Φ : D → Store → Prop} {Ξ : Xc → Store → Prop} (xs : Tx) (l h : Option Int) : wz (opSl (.str xs) l h) s Φ Ξ = Φ (.str (cutL xs l h)) s := by first | exact wp_sl_str .. | rfl | (apply wp_sl_str <;> assumption)
theorem z_seq_lst {s : Store} {Ψ : List D → Store → Prop} {Ξ : Xc → Store → Prop} (xs : List D) : wz (seqOf (.lst xs)) s Ψ Ξ = Ψ xs s := by first | exact wp_seq_lst .. | rfl | (apply wp_seq_lst <;> assumption)
theorem z_seq_tup {s : Store} {Ψ : List D → Store → Prop} {Ξ : Xc → Store → Prop} (xs : List D) : wz (seqOf (.tup xs)) s Ψ Ξ = Ψ xs s := by first | exact wp_seq_tup .. | rfl | (apply wp_seq_tup <;> assumption)
theorem z_seq_str {s : Store} {Ψ : List D → Store → Prop} {Ξ : Xc → Store → Prop} (xs : Tx) : wz (seqOf (.str xs)) s Ψ Ξ = Ψ (signs xs) s := by first | exact wp_seq_str .. | rfl | (apply wp_seq_str <;> assumption)
theorem z_rng1 {s : Store} {Ψ : List D → Store → Prop} {Ξ : Xc → Store → Prop} {n : Int} (h : -1000000 ≤ n ∧ n ≤ 1000000) : wz (rng1 (.int n)) s Ψ Ξ = Ψ (nums 0 n.toNat) s := by first | exact wp_rng1 .. | rfl | (apply wp_rng1 <;> assumption)
theorem z_any {s : Store} {Φ : D → Store → Prop} {Ξ : Xc → Store → Prop} {ds : List D} {bs : List Bool} (h : boolsOf ds = some bs) : wz (fAny (.lst ds)) s Φ Ξ = Φ (.bl (bs.any id)) s := by first | exact wp_any .. | rfl | (apply wp_any <;> assumption)
theorem z_iZp  {e : Ev} {s : Store} {Ψ : List D → Store → Prop} {Ξ : Xc → Store → Prop} (a b : EM) : wz (iZp a b e) s Ψ Ξ = wz (a e) s (fun x s => wz (b e) s (fun y s => wz (zipL x y) s Ψ Ξ) Ξ) Ξ := by first | exact wp_iZp .. | rfl | (apply wp_iZp <;> assumption)
theorem z_zip_lst  {s : Store} {Ψ : List D → Store → Prop} {Ξ : Xc → Store → Prop} (a b : List D) : wz (zipL (.lst a) (.lst b)) s Ψ Ξ = Ψ (pairs a b) s := by first | exact wp_zip_lst .. | rfl | (apply wp_zip_lst <;> assumption)
theorem z_zip_tup  {s : Store} {Ψ : List D → Store → Prop} {Ξ : Xc → Store → Prop} (a b : List D) : wz (zipL (.tup a) (.tup b)) s Ψ Ξ = Ψ (pairs a b) s := by first | exact wp_zip_tup .. | rfl | (apply wp_zip_tup <;> assumption)
theorem z_eMthL  {e : Ev} {s : Store} {Φ : D → Store → Prop} {Ξ : Xc → Store → Prop} (g : D → D → M D) (a b : EM) : wz (eMthL g a b e) s Φ Ξ = wz (a e) s (fun x s => wz (asLs x) s (fun x s => wz (b e) s (fun y s => wz (g x y) s Φ Ξ) Ξ) Ξ) Ξ := by first | exact wp_eMthL .. | rfl | (apply wp_eMthL <;> assumption)
theorem z_iRngD  {e : Ev} {s : Store} {Ψ : List D → Store → Prop} {Ξ : Xc → Store → Prop} (a b : EM) : wz (iRngD a b e) s Ψ Ξ = wz (a e) s (fun x s => wz (b e) s (fun y s => wz (rngD x y) s Ψ Ξ) Ξ) Ξ := by first | exact wp_iRngD .. | rfl | (apply wp_iRngD <;> assumption)
theorem z_kNil  {e : Ev} {s : Store} {Ψ : List (Tx × D) → Store → Prop} {Ξ : Xc → Store → Prop} : wz (kNil e) s Ψ Ξ = Ψ [] s := by first | exact wp_kNil .. | rfl | (apply wp_kNil <;> assumption)
theorem z_asT  {x : Tx} {s : Store} {Ψ : Tx → Store → Prop} {Ξ : Xc → Store → Prop} : wz (asT (.str x)) s Ψ Ξ = Ψ x s := by first | exact wp_asT .. | rfl | (apply wp_asT <;> assumption)
theorem z_kCons  {e : Ev} {s : Store} {Ψ : List (Tx × D) → Store → Prop} {Ξ : Xc → Store → Prop} (a b : EM) (r : KM) : wz (kCons a b r e) s Ψ Ξ = wz (a e) s (fun x s => wz (asT x) s (fun x s => wz (b e) s (fun y s => wz (r e) s (fun l s => Ψ ((x, y) :: l) s) Ξ) Ξ) Ξ) Ξ := by first | exact wp_kCons .. | rfl | (apply wp_kCons <;> assumption)
theorem z_eDisp  {e : Ev} {s : Store} {Φ : D → Store → Prop} {Ξ : Xc → Store → Prop} (k : KM) : wz (eDisp k e) s Φ Ξ = wz (k e) s (fun l s => wz (mkDic l) s Φ Ξ) Ξ := by first | exact wp_eDisp .. | rfl | (apply wp_eDisp <;> assumption)
theorem z_eGet  {e : Ev} {s : Store} {Φ : D → Store → Prop} {Ξ : Xc → Store → Prop} (o a b : EM) : wz (eGet o a b e) s Φ Ξ = wz (o e) s (fun x s => wz (a e) s (fun y s => wz (b e) s (fun z s => wz (fGet x y z) s Φ Ξ) Ξ) Ξ) Ξ := by first | exact wp_eGet .. | rfl | (apply wp_eGet <;> assumption)
theorem z_asD1  {ks vs : List D} {s : Store} {Φ : D → Store → Prop} {Ξ : Xc → Store → Prop} : wz (asD1 (.dic ks vs)) s Φ Ξ = Φ (.dic ks vs) s := by first | exact wp_asD1 .. | rfl | (apply wp_asD1 <;> assumption)
theorem z_iRngS  {e : Ev} {s : Store} {Ψ : List D → Store → Prop} {Ξ : Xc → Store → Prop} (a b c : EM) : wz (iRngS a b c e) s Ψ Ξ = wz (a e) s (fun x s => wz (b e) s (fun y s => wz (c e) s (fun z s => wz (rngS x y z) s Ψ Ξ) Ξ) Ξ) Ξ := by first | exact wp_iRngS .. | rfl | (apply wp_iRngS <;> assumption)
theorem z_eMth0  {e : Ev} {s : Store} {Φ : D → Store → Prop} {Ξ : Xc → Store → Prop} (f : D → M D) (a : EM) : wz (eMth0 f a e) s Φ Ξ = wz (a e) s (fun x s => wz (asS x) s (fun x s => wz (f x) s Φ Ξ) Ξ) Ξ := by first | exact wp_eMth0 .. | rfl | (apply wp_eMth0 <;> assumption)
theorem z_addL  {a b : List D} {s : Store} {Φ : D → Store → Prop} {Ξ : Xc → Store → Prop} (h : a.length + b.length ≤ 16000000) : wz (opAddL (.lst a) (.lst b)) s Φ Ξ = Φ (.lst (a ++ b)) s := by first | exact wp_addL .. | rfl | (apply wp_addL <;> assumption)
theorem z_eq_int {s : Store} {Φ : D → Store → Prop} {Ξ : Xc → Store → Prop} (a b : Int) : wz (opEq (.int a) (.int b)) s Φ Ξ = Φ (.bl (a == b)) s := by first | exact wp_eq_int .. | rfl | (apply wp_eq_int <;> assumption)
theorem z_eq_str {s : Store} {Φ : D → Store → Prop} {Ξ : Xc → Store → Prop} (a b : Tx) : wz (opEq (.str a) (.str b)) s Φ Ξ = Φ (.bl (a == b)) s := by first | exact wp_eq_str .. | rfl | (apply wp_eq_str <;> assumption)
theorem z_eq_bl {s : Store} {Φ : D → Store → Prop} {Ξ : Xc → Store → Prop} (a b : Bool) : wz (opEq (.bl a) (.bl b)) s Φ Ξ = Φ (.bl (a == b)) s := by first | exact wp_eq_bl .. | rfl | (apply wp_eq_bl <;> assumption)
theorem z_ne_bl {s : Store} {Φ : D → Store → Prop} {Ξ : Xc → Store → Prop} (a b : Bool) : wz (opNe (.bl a) (.bl b)) s Φ Ξ = Φ (.bl (!(a == b))) s := by first | exact wp_ne_bl .. | rfl | (apply wp_ne_bl <;> assumption)
theorem z_ne_int {s : Store} {Φ : D → Store → Prop} {Ξ : Xc → Store → Prop} (a b : Int) : wz (opNe (.int a) (.int b)) s Φ Ξ = Φ (.bl (!(a == b))) s := by first | exact wp_ne_int .. | rfl | (apply wp_ne_int <;> assumption)
theorem z_ix_lst0 {s : Store} {Φ : D → Store → Prop} {Ξ : Xc → Store → Prop} (x : D) (xs : List D) : wz (opIx (.lst (x :: xs)) (.int 0)) s Φ Ξ = Φ x s := by first | exact wp_ix_lst0 .. | rfl | (apply wp_ix_lst0 <;> assumption)
theorem z_ix_tup0 {s : Store} {Φ : D → Store → Prop} {Ξ : Xc → Store → Prop} (x : D) (xs : List D) : wz (opIx (.tup (x :: xs)) (.int 0)) s Φ Ξ = Φ x s := by first | exact wp_ix_tup0 .. | rfl | (apply wp_ix_tup0 <;> assumption)
theorem z_ix_tup1 {s : Store} {Φ : D → Store → Prop} {Ξ : Xc → Store → Prop} (x y : D) (xs : List D) : wz (opIx (.tup (x :: y :: xs)) (.int 1)) s Φ Ξ = Φ y s := by first | exact wp_ix_tup1 .. | rfl | (apply wp_ix_tup1 <;> assumption)
theorem z_ix_tup2 {s : Store} {Φ : D → Store → Prop} {Ξ : Xc → Store → Prop} (x y z : D) (xs : List D) : wz (opIx (.tup (x :: y :: z :: xs)) (.int 2)) s Φ Ξ = Φ z s := by first | exact wp_ix_tup2 .. | rfl | (apply wp_ix_tup2 <;> assumption)
theorem z_is_str_non {s : Store} {Φ : D → Store → Prop} {Ξ : Xc → Store → Prop}  : wz (fIs "str" (.non )) s Φ Ξ = Φ (.bl false) s := rfl
theorem z_is_str_bl {s : Store} {Φ : D → Store → Prop} {Ξ : Xc → Store → Prop} (x : Bool) : wz (fIs "str" (.bl x)) s Φ Ξ = Φ (.bl false) s := rfl
theorem z_is_str_int {s : Store} {Φ : D → Store → Prop} {Ξ : Xc → Store → Prop} (x : Int) : wz (fIs "str" (.int x)) s Φ Ξ = Φ (.bl false) s := rfl
theorem z_is_str_str {s : Store} {Φ : D → Store → Prop} {Ξ : Xc → Store → Prop} (x : Tx) : wz (fIs "str" (.str x)) s Φ Ξ = Φ (.bl true) s := rfl
theorem z_is_str_tup {s : Store} {Φ : D → Store → Prop} {Ξ : Xc → Store → Prop} (x : List D) : wz (fIs "str" (.tup x)) s Φ Ξ = Φ (.bl false) s := rfl
theorem z_is_str_lst {s : Store} {Φ : D → Store → Prop} {Ξ : Xc → Store → Prop} (x : List D) : wz (fIs "str" (.lst x)) s Φ Ξ = Φ (.bl false) s := rfl
theorem z_is_str_dic {s : Store} {Φ : D → Store → Prop} {Ξ : Xc → Store → Prop} (x y : List D) : wz (fIs "str" (.dic x y)) s Φ Ξ = Φ (.bl false) s := rfl
theorem z_is_int_non {s : Store} {Φ : D → Store → Prop} {Ξ : Xc → Store → Prop}  : wz (fIs "int" (.non )) s Φ Ξ = Φ (.bl false) s := rfl
theorem z_is_int_bl {s : Store} {Φ : D → Store → Prop} {Ξ : Xc → Store → Prop} (x : Bool) : wz (fIs "int" (.bl x)) s Φ Ξ = Φ (.bl true) s := rfl
theorem z_is_int_int {s : Store} {Φ : D → Store → Prop} {Ξ : Xc → Store → Prop} (x : Int) : wz (fIs "int" (.int x)) s Φ Ξ = Φ (.bl true) s := rfl
theorem z_is_int_str {s : Store} {Φ : D → Store → Prop} {Ξ : Xc → Store → Prop} (x : Tx) : wz (fIs "int" (.str x)) s Φ Ξ = Φ (.bl false) s := rfl
theorem z_is_int_tup {s : Store} {Φ : D → Store → Prop} {Ξ : Xc → Store → Prop} (x : List D) : wz (fIs "int" (.tup x)) s Φ Ξ = Φ (.bl false) s := rfl
theorem z_is_int_lst {s : Store} {Φ : D → Store → Prop} {Ξ : Xc → Store → Prop} (x : List D) : wz (fIs "int" (.lst x)) s Φ Ξ = Φ (.bl false) s := rfl
theorem z_is_int_dic {s : Store} {Φ : D → Store → Prop} {Ξ : Xc → Store → Prop} (x y : List D) : wz (fIs "int" (.dic x y)) s Φ Ξ = Φ (.bl false) s := rfl
theorem z_is_bool_non {s : Store} {Φ : D → Store → Prop} {Ξ : Xc → Store → Prop}  : wz (fIs "bool" (.non )) s Φ Ξ = Φ (.bl false) s := rfl
theorem z_is_bool_bl {s : Store} {Φ : D → Store → Prop} {Ξ : Xc → Store → Prop} (x : Bool) : wz (fIs "bool" (.bl x)) s Φ Ξ = Φ (.bl true) s := rfl
theorem z_is_bool_int {s : Store} {Φ : D → Store → Prop} {Ξ : Xc → Store → Prop} (x : Int) : wz (fIs "bool" (.int x)) s Φ Ξ = Φ (.bl false) s := rfl
theorem z_is_bool_str {s : Store} {Φ : D → Store → Prop} {Ξ : Xc → Store → Prop} (x : Tx) : wz (fIs "bool" (.str x)) s Φ Ξ = Φ (.bl false) s := rfl
theorem z_is_bool_tup {s : Store} {Φ : D → Store → Prop} {Ξ : Xc → Store → Prop} (x : List D) : wz (fIs "bool" (.tup x)) s Φ Ξ = Φ (.bl false) s := rfl
theorem z_is_bool_lst {s : Store} {Φ : D → Store → Prop} {Ξ : Xc → Store → Prop} (x : List D) : wz (fIs "bool" (.lst x)) s Φ Ξ = Φ (.bl false) s := rfl
theorem z_is_bool_dic {s : Store} {Φ : D → Store → Prop} {Ξ : Xc → Store → Prop} (x y : List D) : wz (fIs "bool" (.dic x y)) s Φ Ξ = Φ (.bl false) s := rfl
theorem z_is_tuple_non {s : Store} {Φ : D → Store → Prop} {Ξ : Xc → Store → Prop}  : wz (fIs "tuple" (.non )) s Φ Ξ = Φ (.bl false) s := rfl
theorem z_is_tuple_bl {s : Store} {Φ : D → Store → Prop} {Ξ : Xc → Store → Prop} (x : Bool) : wz (fIs "tuple" (.bl x)) s Φ Ξ = Φ (.bl false) s := rfl
theorem z_is_tuple_int {s : Store} {Φ : D → Store → Prop} {Ξ : Xc → Store → Prop} (x : Int) : wz (fIs "tuple" (.int x)) s Φ Ξ = Φ (.bl false) s := rfl
theorem z_is_tuple_str {s : Store} {Φ : D → Store → Prop} {Ξ : Xc → Store → Prop} (x : Tx) : wz (fIs "tuple" (.str x)) s Φ Ξ = Φ (.bl false) s := rfl
theorem z_is_tuple_tup {s : Store} {Φ : D → Store → Prop} {Ξ : Xc → Store → Prop} (x : List D) : wz (fIs "tuple" (.tup x)) s Φ Ξ = Φ (.bl true) s := rfl
theorem z_is_tuple_lst {s : Store} {Φ : D → Store → Prop} {Ξ : Xc → Store → Prop} (x : List D) : wz (fIs "tuple" (.lst x)) s Φ Ξ = Φ (.bl false) s := rfl
theorem z_is_tuple_dic {s : Store} {Φ : D → Store → Prop} {Ξ : Xc → Store → Prop} (x y : List D) : wz (fIs "tuple" (.dic x y)) s Φ Ξ = Φ (.bl false) s := rfl
theorem z_is_list_non {s : Store} {Φ : D → Store → Prop} {Ξ : Xc → Store → Prop}  : wz (fIs "list" (.non )) s Φ Ξ = Φ (.bl false) s := rfl
theorem z_is_list_bl {s : Store} {Φ : D → Store → Prop} {Ξ : Xc → Store → Prop} (x : Bool) : wz (fIs "list" (.bl x)) s Φ Ξ = Φ (.bl false) s := rfl
theorem z_is_list_int {s : Store} {Φ : D → Store → Prop} {Ξ : Xc → Store → Prop} (x : Int) : wz (fIs "list" (.int x)) s Φ Ξ = Φ (.bl false) s := rfl
theorem z_is_list_str {s : Store} {Φ : D → Store → Prop} {Ξ : Xc → Store → Prop} (x : Tx) : wz (fIs "list" (.str x)) s Φ Ξ = Φ (.bl false) s := rfl
theorem z_is_list_tup {s : Store} {Φ : D → Store → Prop} {Ξ : Xc → Store → Prop} (x : List D) : wz (fIs "list" (.tup x)) s Φ Ξ = Φ (.bl false) s := rfl
theorem z_is_list_lst {s : Store} {Φ : D → Store → Prop} {Ξ : Xc → Store → Prop} (x : List D) : wz (fIs "list" (.lst x)) s Φ Ξ = Φ (.bl true) s := rfl
theorem z_is_list_dic {s : Store} {Φ : D → Store → Prop} {Ξ : Xc → Store → Prop} (x y : List D) : wz (fIs "list" (.dic x y)) s Φ Ξ = Φ (.bl false) s := rfl
theorem z_is2_tuplelist_non {s : Store} {Φ : D → Store → Prop} {Ξ : Xc → Store → Prop}  : wz (fIs2 "tuple" "list" (.non )) s Φ Ξ = Φ (.bl false) s := rfl
theorem z_is2_strbool_non {s : Store} {Φ : D → Store → Prop} {Ξ : Xc → Store → Prop}  : wz (fIs2 "str" "bool" (.non )) s Φ Ξ = Φ (.bl false) s := rfl
theorem z_is2_tuplelist_bl {s : Store} {Φ : D → Store → Prop} {Ξ : Xc → Store → Prop} (x : Bool) : wz (fIs2 "tuple" "list" (.bl x)) s Φ Ξ = Φ (.bl false) s := rfl
theorem z_is2_strbool_bl {s : Store} {Φ : D → Store → Prop} {Ξ : Xc → Store → Prop} (x : Bool) : wz (fIs2 "str" "bool" (.bl x)) s Φ Ξ = Φ (.bl true) s := rfl
theorem z_is2_tuplelist_int {s : Store} {Φ : D → Store → Prop} {Ξ : Xc → Store → Prop} (x : Int) : wz (fIs2 "tuple" "list" (.int x)) s Φ Ξ = Φ (.bl false) s := rfl
theorem z_is2_strbool_int {s : Store} {Φ : D → Store → Prop} {Ξ : Xc → Store → Prop} (x : Int) : wz (fIs2 "str" "bool" (.int x)) s Φ Ξ = Φ (.bl false) s := rfl
theorem z_is2_tuplelist_str {s : Store} {Φ : D → Store → Prop} {Ξ : Xc → Store → Prop} (x : Tx) : wz (fIs2 "tuple" "list" (.str x)) s Φ Ξ = Φ (.bl false) s := rfl
theorem z_is2_strbool_str {s : Store} {Φ : D → Store → Prop} {Ξ : Xc → Store → Prop} (x : Tx) : wz (fIs2 "str" "bool" (.str x)) s Φ Ξ = Φ (.bl true) s := rfl
theorem z_is2_tuplelist_tup {s : Store} {Φ : D → Store → Prop} {Ξ : Xc → Store → Prop} (x : List D) : wz (fIs2 "tuple" "list" (.tup x)) s Φ Ξ = Φ (.bl true) s := rfl
theorem z_is2_strbool_tup {s : Store} {Φ : D → Store → Prop} {Ξ : Xc → Store → Prop} (x : List D) : wz (fIs2 "str" "bool" (.tup x)) s Φ Ξ = Φ (.bl false) s := rfl
theorem z_is2_tuplelist_lst {s : Store} {Φ : D → Store → Prop} {Ξ : Xc → Store → Prop} (x : List D) : wz (fIs2 "tuple" "list" (.lst x)) s Φ Ξ = Φ (.bl true) s := rfl
theorem z_is2_strbool_lst {s : Store} {Φ : D → Store → Prop} {Ξ : Xc → Store → Prop} (x : List D) : wz (fIs2 "str" "bool" (.lst x)) s Φ Ξ = Φ (.bl false) s := rfl
theorem z_is2_tuplelist_dic {s : Store} {Φ : D → Store → Prop} {Ξ : Xc → Store → Prop} (x y : List D) : wz (fIs2 "tuple" "list" (.dic x y)) s Φ Ξ = Φ (.bl false) s := rfl
theorem z_is2_strbool_dic {s : Store} {Φ : D → Store → Prop} {Ξ : Xc → Store → Prop} (x y : List D) : wz (fIs2 "str" "bool" (.dic x y)) s Φ Ξ = Φ (.bl false) s := rfl
theorem z_pure {α : Type} {s : Store} {Φ : α → Store → Prop} {Ξ : Xc → Store → Prop} (a : α) : wz (pure a) s Φ Ξ = Φ a s := rfl
theorem z_bind {α β : Type} {m : M α} {k : α → M β} {s : Store} {Ψ : β → Store → Prop} {Ξ : Xc → Store → Prop} : wz (m >>= k) s Ψ Ξ = wz m s (fun a s' => wz (k a) s' Ψ Ξ) Ξ := wp_bind k
theorem z_le_str (a b : Tx) {s : Store} {Φ : D → Store → Prop} {Ξ : Xc → Store → Prop} : wz (opLe (.str a) (.str b)) s Φ Ξ = Φ (.bl (!ltT b a)) s := rfl
theorem z_lt_str (a b : Tx) {s : Store} {Φ : D → Store → Prop} {Ξ : Xc → Store → Prop} : wz (opLt (.str a) (.str b)) s Φ Ξ = Φ (.bl (ltT a b)) s := rfl
theorem z_eVar {e : Ev} {s : Store} {Φ : D → Store → Prop} {Ξ : Xc → Store → Prop} (i : Nat) : wz (eVar i e) s Φ Ξ = wz (match e[i]? with
  | some (some d) => pure d
  | _ => bad) s Φ Ξ := rfl
theorem z_run {b : SM} {s : Store} (fr : Bool) (N : List Str) (ds : List D) (Φ : D → Store → Prop) (Ξ : Xc → Store → Prop) : wz (runB fr N b ds) s Φ Ξ = wzS b (startE N ds) s { nx := fun _ s' => if fr = true then False else Φ .non s', rt := Φ, ex := fun x _ s' => Ξ x s' } := wp_run ..
def lsZ (o : Option (Option D)) (Ψ : List D → Prop) (t : Fx Ψ Ψ := fx) : Prop := match o with
  | some (some (.lst xs)) => Ψ xs
  | _ => False
theorem lsZ_some {xs : List D} {Ψ : List D → Prop} : lsZ (some (some (.lst xs))) Ψ = Ψ xs := rfl
theorem lsZ_of {o : Option (Option D)} {Ψ : List D → Prop} {P : Prop} (h : ∀ xs, o = some (some (.lst xs)) → (Ψ xs = P)) (h2 : (∀ xs, o ≠ some (some (.lst xs))) → P = False) : lsZ o Ψ = P := by
  unfold lsZ
  rcases o with _ | _ | d
  · exact (h2 (fun xs z => by cases z)).symm
  · exact (h2 (fun xs z => by cases z)).symm
  · cases d <;> first
      | exact h _ rfl
      | exact (h2 (fun xs z => by cases z)).symm
theorem gd_out {i : Nat} {b : SM} {e : Ev} {s : Store} {k : Kt} (h : ∀ xs, e[i]? ≠ some (some (.lst xs))) : wpS (gd i b) e s k = False := by
  rw [wpS_gd]
  generalize e[i]? = o at h
  rcases o with _ | _ | d
  · rfl
  · rfl
  · cases d <;> first
      | rfl
      | exact (h _ rfl).elim
def ltZ (n : Nat) : Prop := n ≤ sizeLine
theorem chK_ck {i : Nat} {f : List D → List D} {e : Ev} {s : Store} {k : Kt} {xs : List D} (h : e[i]? = some (some (.lst xs))) : chK i (fun xs => ckLen (f xs)) e s k = (ltZ (f xs).length ∧ k.nx (e.set i (some (.lst (f xs)))) s) := by
  unfold chK ckLen ltZ
  simp only [h]
  by_cases hz : (f xs).length ≤ sizeLine
  · simp only [hz, if_true, true_and]
  · simp only [hz, if_false, false_and]
theorem z_app {i : Nat} {m : EM} {e : Ev} {s : Store} {k : Kt} : wzS (gd i (sApp i m)) e s k = lsZ e[i]? (fun xs => wz (m e) s (fun d s' => ltZ (xs ++ [d]).length ∧ k.nx (e.set i (some (.lst (xs ++ [d])))) s') (fun x s' => k.ex x e s')) :=
  (lsZ_of (fun xs h => by
    show wp (m e) s (fun d s' => ltZ (xs ++ [d]).length ∧ k.nx (e.set i (some (.lst (xs ++ [d])))) s') (fun x s' => k.ex x e s') = wpS (gd i (sApp i m)) e s k
    rw [wpS_gd_of h, wpS_app]
    congr 1
    funext d s'
    exact (chK_ck (f := fun xs => xs ++ [d]) h).symm) fun h => gd_out h).symm
theorem z_ext {i : Nat} {m : EM} {e : Ev} {s : Store} {k : Kt} : wzS (gd i (sExt i m)) e s k = lsZ e[i]? (fun xs => wz (m e) s (fun d s' => lsZ (some (some d)) fun ys => ltZ (xs ++ ys).length ∧ k.nx (e.set i (some (.lst (xs ++ ys)))) s') (fun x s' => k.ex x e s')) :=
  (lsZ_of (fun xs h => by
    show wp (m e) s (fun d s' => lsZ (some (some d)) fun ys => ltZ (xs ++ ys).length ∧ k.nx (e.set i (some (.lst (xs ++ ys)))) s') (fun x s' => k.ex x e s') = wpS (gd i (sExt i m)) e s k
    rw [wpS_gd_of h, wpS_ext]
    congr 1
    funext d s'
    cases d <;> first
      | rfl
      | exact (chK_ck (f := fun xs => xs ++ _) h).symm) fun h => gd_out h).symm
def inZ (j : D) (Ψ : Int → Prop) (t : Fx Ψ Ψ := fx) : Prop := match j with
  | .int i => Ψ i
  | _ => False
theorem inZ_some {i : Int} {Ψ : Int → Prop} : inZ (.int i) Ψ = Ψ i := rfl
theorem z_ins {i : Nat} {mj m : EM} {e : Ev} {s : Store} {k : Kt} : wzS (gd i (sIns i mj m)) e s k = lsZ e[i]? (fun xs => wz (mj e) s (fun j s => wz (m e) s (fun d s => inZ j fun j => (0 ≤ j ∧ j < 2 ^ 63 ∧ ltZ (xs.take j.toNat ++ d :: xs.drop j.toNat).length) ∧ k.nx (e.set i (some (.lst (xs.take j.toNat ++ d :: xs.drop j.toNat)))) s) (fun x s' => k.ex x e s')) (fun x s' => k.ex x e s')) :=
  (lsZ_of (fun xs h => by
    show wp (mj e) s (fun j s => wp (m e) s (fun d s => inZ j fun j => (0 ≤ j ∧ j < 2 ^ 63 ∧ ltZ (xs.take j.toNat ++ d :: xs.drop j.toNat).length) ∧ k.nx (e.set i (some (.lst (xs.take j.toNat ++ d :: xs.drop j.toNat)))) s) (fun x s' => k.ex x e s')) (fun x s' => k.ex x e s') = wpS (gd i (sIns i mj m)) e s k
    rw [wpS_gd_of h, wpS_ins]
    congr 1
    funext j s'
    congr 1
    funext d s'
    cases j <;> first
      | rfl
      | skip
    rename_i j
    show _ = chK i (insAt j d) e s' k
    unfold chK insAt ckLen inZ ltZ
    simp only [h]
    by_cases h1 : 0 ≤ j ∧ j < 2 ^ 63
    · by_cases h2 : (xs.take j.toNat ++ d :: xs.drop j.toNat).length ≤ sizeLine
      · simp only [h1, h2, if_true, true_and, and_true, and_self]
      · simp only [h1, h2, if_true, if_false, and_false, false_and, and_self]
    · simp only [h1, if_false]
      exact propext ⟨fun z => (h1 ⟨z.1.1, z.1.2.1⟩).elim, fun z => z.elim⟩) fun h => gd_out h).symm
def opZ {α : Type} (o : Option α) (Ψ : α → Prop) (t : Fx Ψ Ψ := fx) : Prop := match o with
  | some x => Ψ x
  | none => False
theorem opZ_some {α : Type} {x : α} {Ψ : α → Prop} : opZ (some x) Ψ = Ψ x := rfl
theorem z_seti {i : Nat} {mj m : EM} {e : Ev} {s : Store} {k : Kt} : wzS (gd i (sSetI i m mj)) e s k = lsZ e[i]? (fun xs => wz (m e) s (fun d s => wz (mj e) s (fun j s => inZ j fun j => opZ (setI j d xs) fun ys => k.nx (e.set i (some (.lst ys))) s) (fun x s' => k.ex x e s')) (fun x s' => k.ex x e s')) :=
  (lsZ_of (fun xs h => by
    show wp (m e) s (fun d s => wp (mj e) s (fun j s => inZ j fun j => opZ (setI j d xs) fun ys => k.nx (e.set i (some (.lst ys))) s) (fun x s' => k.ex x e s')) (fun x s' => k.ex x e s') = wpS (gd i (sSetI i m mj)) e s k
    rw [wpS_gd_of h, wpS_seti]
    congr 1
    funext d s'
    congr 1
    funext j s'
    cases j <;> first
      | rfl
      | skip
    rename_i j
    show _ = chK i (setI j d) e s' k
    unfold chK inZ opZ
    simp only [h]
    cases setI j d xs <;> rfl) fun h => gd_out h).symm
theorem z_rev {i : Nat} {e : Ev} {s : Store} {k : Kt} : wzS (sRevI i) e s k = lsZ e[i]? (fun xs => k.nx (e.set i (some (.lst xs.reverse))) s) :=
  (lsZ_of (fun xs h => by
    show _ = wpS (sRevI i) e s k
    rw [wpS_rev]
    exact (chK_of (f := fun xs => some xs.reverse) h rfl).symm) fun h => by
    show wpS (sRevI i) e s k = False
    rw [wpS_rev]
    unfold chK
    generalize e[i]? = o at h
    rcases o with _ | _ | d
    · rfl
    · rfl
    · cases d <;> first
        | rfl
        | exact (h _ rfl).elim).symm
theorem z_unp {m : EM} {e : Ev} {s : Store} {k : Kt} (g : GM) : wzS (sUnp g m) e s k = wz (m e) s (fun d s' => opZ (g d) fun l => k.nx (setAll l e) s') (fun x s' => k.ex x e s') := by
  show wpS (sUnp g m) e s k = _
  rw [wpS_unp]
  show _ = wp (m e) s (fun d s' => opZ (g d) fun l => k.nx (setAll l e) s') (fun x s' => k.ex x e s')
  congr 1
  funext d s'
  cases g d <;> rfl
theorem gMany_par {is : List Nat} {ds : List D} {Ψ : List (Nat × D) → Prop} : opZ (gMany is (.tup ds)) Ψ = (ds.length = is.length ∧ Ψ (is.zip ds)) := by
  unfold gMany opZ
  by_cases h : ds.length = is.length
  · simp only [h, if_true, true_and]
  · simp only [h, if_false, false_and]
theorem z_par {e : Ev} {s : Store} {k : Kt} (is : List Nat) (m : LM) : wzS (sPar is m) e s k = wz (m e) s (fun ds s' => opZ (gMany is (.tup ds)) fun l => k.nx (setAll l e) s') (fun x s' => k.ex x e s') := by
  show wpS (sPar is m) e s k = _
  rw [wpS_par]
  show _ = wp (m e) s (fun ds s' => opZ (gMany is (.tup ds)) fun l => k.nx (setAll l e) s') (fun x s' => k.ex x e s')
  congr 1
  funext d s'
  rw [gMany_par]
  by_cases h : d.length = is.length
  · simp only [h, if_true, true_and]
  · simp only [h, if_false, false_and]
def omC (p : Nat × D) : Option (List (Nat × D)) → Option (List (Nat × D))
  | some l => some (p :: l)
  | none => none
theorem omC_some (p : Nat × D) (l : List (Nat × D)) : omC p (some l) = some (p :: l) := rfl
theorem gm_nn : gMany [] (.tup []) = some [] := rfl
theorem gm_cc (i : Nat) (is : List Nat) (x : D) (xs : List D) : gMany (i :: is) (.tup (x :: xs)) = omC (i, x) (gMany is (.tup xs)) := by
  unfold gMany
  by_cases h : xs.length = is.length
  · simp only [List.length_cons, h, if_true, List.zip_cons_cons, omC]
  · have h2 : ¬ (xs.length + 1 = is.length + 1) := by omega
    simp only [List.length_cons, h, h2, if_false, omC]
theorem gOne_z (i : Nat) (d : D) : gOne i d = some [(i, d)] := rfl
theorem wipe_n (e : Ev) : wipeE e [] = e := rfl
theorem wipe_c (e : Ev) (i : Nat) (is : List Nat) : wipeE e (i :: is) = (wipeE e is).set i none := rfl
def fill (e : Ev) (sl : List Nat) (v : Nat → Option D) : Ev := sl.foldl (fun e i => e.set i (v i)) e
def Fi (e : Ev) (sl : List Nat) (e' : Ev) : Prop := ∃ v, e' = fill e sl v
theorem fl {e e' : Ev} {sl : List Nat} (h : fill e sl (fun i => (e'[i]?).getD none) = e') : Fi e sl e' := ⟨_, h.symm⟩
theorem fill_nil {e : Ev} {v : Nat → Option D} : fill e [] v = e := rfl
theorem fill_cons {e : Ev} {i : Nat} {sl : List Nat} {v : Nat → Option D} : fill e (i :: sl) v = fill (e.set i (v i)) sl v := rfl
theorem z_try {C : Str} {i : Nat} {b k : SM} {e : Ev} {s : Store} {κ : Kt} : wzS (sTry C i b k) e s κ = wzS b e s { κ with ex := tryK C i k κ } := wpS_try
theorem z_try0 {C : Str} {b k : SM} {e : Ev} {s : Store} {κ : Kt} : wzS (sTry0 C b k) e s κ = wzS b e s { κ with ex := tryK0 C k κ } := wpS_try0
theorem tt_eq : (true = true) = True := eq_self _
theorem ft_eq : (false = true) = False := by simp
theorem setAll_nil (l : List (Option D)) : setAll [] l = l := rfl
theorem setAll_cons (i : Nat) (a : D) (r : List (Nat × D)) (l : List (Option D)) : setAll ((i, a) :: r) l = setAll r (l.set i (some a)) := rfl
theorem z_eFnB {e : Ev} {s : Store} {Φ : D → Store → Prop} {Ξ : Xc → Store → Prop} (f : List D → M D) (l : LM) : wz (eFnB f l e) s Φ Ξ = wz (l e) s (fun x s => wz (lendM f x) s Φ Ξ) Ξ := wp_eFnB ..
theorem startE_cc (n : Str) (N : List Str) (d : D) (ds : List D) : startE (n :: N) (d :: ds) = some d :: startE N ds := by
  unfold startE
  simp only [List.map_cons, List.cons_append, List.length_cons, Nat.add_sub_add_right]
theorem startE_cn (n : Str) (N : List Str) : startE (n :: N) [] = none :: startE N [] := by
  unfold startE
  simp only [List.map_nil, List.nil_append, List.length_cons, List.length_nil, Nat.sub_zero, List.replicate_succ]
theorem startE_nn : startE [] [] = [] := rfl
theorem evg0 (o : Option D) (r : List (Option D)) : (o :: r)[0]? = some o := rfl
theorem evgS (o : Option D) (r : List (Option D)) (n : Nat) : (o :: r)[n + 1]? = r[n]? := rfl
theorem evs0 (o p : Option D) (r : List (Option D)) : (o :: r).set 0 p = p :: r := rfl
theorem evsS (o p : Option D) (r : List (Option D)) (n : Nat) : (o :: r).set (n + 1) p = o :: r.set n p := rfl
theorem itet {d : Decidable True} (a b : Prop) : (@ite Prop True d a b) = a := if_pos trivial
theorem itef {d : Decidable False} (a b : Prop) : (@ite Prop False d a b) = b := if_neg id
theorem stp : type_of% @z_bad ∧ type_of% @z_raise ∧ type_of% @zS_seq ∧ type_of% @zS_nx ∧ type_of% @zS_brk ∧ type_of% @zS_cnt ∧ type_of% @zS_drop ∧ type_of% @zS_set ∧ type_of% @zS_ret ∧ type_of% @zS_retN ∧ type_of% @zS_raise ∧ type_of% @zS_if ∧ type_of% @zS_for ∧ type_of% @zS_forNil ∧ type_of% @z_eC ∧ type_of% @z_eBin ∧ type_of% @z_eUn ∧ type_of% @z_eFn ∧ type_of% @z_lNil ∧ type_of% @z_lCons ∧ type_of% @z_eTup ∧ type_of% @z_eLst ∧ type_of% @z_eNew ∧ type_of% @z_eSl ∧ type_of% @z_pNo ∧ type_of% @z_pSome ∧ type_of% @z_tBin ∧ type_of% @z_tChn ∧ type_of% @z_eChain ∧ type_of% @z_tVal ∧ type_of% @z_tAnd ∧ type_of% @z_tOr ∧ type_of% @z_tNot ∧ type_of% @z_eAnd ∧ type_of% @z_eOr ∧ type_of% @z_eNot ∧ type_of% @z_eIf ∧ type_of% @z_eMeth ∧ type_of% @z_iSeq ∧ type_of% @z_iRng ∧ type_of% @z_iRng2 ∧ type_of% @z_iRevs ∧ type_of% @z_eComp ∧ type_of% @z_cYes ∧ type_of% @z_unB ∧ type_of% @z_asI ∧ type_of% @z_asS ∧ type_of% @z_tru_bl ∧ type_of% @z_tru_non ∧ type_of% @z_tru_int ∧ type_of% @z_tru_str ∧ type_of% @z_tru_lst ∧ type_of% @z_tru_tup ∧ type_of% @z_add_int ∧ type_of% @z_sub_int ∧ type_of% @z_neg_int ∧ type_of% @z_lt_int ∧ type_of% @z_le_int ∧ type_of% @z_gt_int ∧ type_of% @z_ge_int ∧ type_of% @z_is_non ∧ type_of% @z_is_bl ∧ type_of% @z_isnot_non ∧ type_of% @z_isnot_bl ∧ type_of% @z_in_sign ∧ type_of% @z_nin_sign ∧ type_of% @z_len_str ∧ type_of% @z_len_lst ∧ type_of% @z_len_tup ∧ type_of% @z_sl_lst ∧ type_of% @z_sl_tup ∧ type_of% @z_sl_str ∧ type_of% @z_seq_lst ∧ type_of% @z_seq_tup ∧ type_of% @z_seq_str ∧ type_of% @z_iZp ∧ type_of% @z_zip_lst ∧ type_of% @z_zip_tup ∧ type_of% @z_eMthL ∧ type_of% @z_iRngD ∧ type_of% @z_kNil ∧ type_of% @z_asT ∧ type_of% @z_kCons ∧ type_of% @z_eDisp ∧ type_of% @z_eGet ∧ type_of% @z_asD1 ∧ type_of% @z_iRngS ∧ type_of% @z_eMth0 ∧ type_of% @z_eq_int ∧ type_of% @z_eq_str ∧ type_of% @z_eq_bl ∧ type_of% @z_ne_bl ∧ type_of% @z_ne_int ∧ type_of% @z_ix_lst0 ∧ type_of% @z_ix_tup0 ∧ type_of% @z_ix_tup1 ∧ type_of% @z_ix_tup2 ∧ type_of% @z_is_str_non ∧ type_of% @z_is_str_bl ∧ type_of% @z_is_str_int ∧ type_of% @z_is_str_str ∧ type_of% @z_is_str_tup ∧ type_of% @z_is_str_lst ∧ type_of% @z_is_str_dic ∧ type_of% @z_is_int_non ∧ type_of% @z_is_int_bl ∧ type_of% @z_is_int_int ∧ type_of% @z_is_int_str ∧ type_of% @z_is_int_tup ∧ type_of% @z_is_int_lst ∧ type_of% @z_is_int_dic ∧ type_of% @z_is_bool_non ∧ type_of% @z_is_bool_bl ∧ type_of% @z_is_bool_int ∧ type_of% @z_is_bool_str ∧ type_of% @z_is_bool_tup ∧ type_of% @z_is_bool_lst ∧ type_of% @z_is_bool_dic ∧ type_of% @z_is_tuple_non ∧ type_of% @z_is_tuple_bl ∧ type_of% @z_is_tuple_int ∧ type_of% @z_is_tuple_str ∧ type_of% @z_is_tuple_tup ∧ type_of% @z_is_tuple_lst ∧ type_of% @z_is_tuple_dic ∧ type_of% @z_is_list_non ∧ type_of% @z_is_list_bl ∧ type_of% @z_is_list_int ∧ type_of% @z_is_list_str ∧ type_of% @z_is_list_tup ∧ type_of% @z_is_list_lst ∧ type_of% @z_is_list_dic ∧ type_of% @z_is2_tuplelist_non ∧ type_of% @z_is2_strbool_non ∧ type_of% @z_is2_tuplelist_bl ∧ type_of% @z_is2_strbool_bl ∧ type_of% @z_is2_tuplelist_int ∧ type_of% @z_is2_strbool_int ∧ type_of% @z_is2_tuplelist_str ∧ type_of% @z_is2_strbool_str ∧ type_of% @z_is2_tuplelist_tup ∧ type_of% @z_is2_strbool_tup ∧ type_of% @z_is2_tuplelist_lst ∧ type_of% @z_is2_strbool_lst ∧ type_of% @z_is2_tuplelist_dic ∧ type_of% @z_is2_strbool_dic ∧ type_of% @omC_some ∧ type_of% @gm_nn ∧ type_of% @gm_cc ∧ type_of% @gOne_z ∧ type_of% @wipe_n ∧ type_of% @wipe_c ∧ type_of% @fill_nil ∧ type_of% @fill_cons ∧ type_of% @z_eVar ∧ type_of% @z_le_str ∧ type_of% @z_lt_str ∧ type_of% @z_bind ∧ type_of% @z_run ∧ type_of% @lsZ_some ∧ type_of% @z_app ∧ type_of% @z_ext ∧ type_of% @inZ_some ∧ type_of% @z_ins ∧ type_of% @opZ_some ∧ type_of% @z_seti ∧ type_of% @z_rev ∧ type_of% @z_unp ∧ type_of% @z_par ∧ type_of% @z_try ∧ type_of% @z_try0 ∧ type_of% @z_pure ∧ type_of% @setAll_nil ∧ type_of% @setAll_cons ∧ type_of% @z_eFnB ∧ type_of% @startE_cc ∧ type_of% @startE_cn ∧ type_of% @startE_nn ∧ type_of% @evg0 ∧ type_of% @evgS ∧ type_of% @evs0 ∧ type_of% @evsS ∧ type_of% @tt_eq ∧ type_of% @ft_eq ∧ type_of% @itet ∧ type_of% @itef ∧ type_of% @Bool.not_true ∧ type_of% @Bool.not_false ∧ type_of% @true_and ∧ type_of% @and_true :=
  ⟨@z_bad, @z_raise, @zS_seq, @zS_nx, @zS_brk, @zS_cnt, @zS_drop, @zS_set, @zS_ret, @zS_retN, @zS_raise, @zS_if, @zS_for, @zS_forNil, @z_eC, @z_eBin, @z_eUn, @z_eFn, @z_lNil, @z_lCons, @z_eTup, @z_eLst, @z_eNew, @z_eSl, @z_pNo, @z_pSome, @z_tBin, @z_tChn, @z_eChain, @z_tVal, @z_tAnd, @z_tOr, @z_tNot, @z_eAnd, @z_eOr, @z_eNot, @z_eIf, @z_eMeth, @z_iSeq, @z_iRng, @z_iRng2, @z_iRevs, @z_eComp, @z_cYes, @z_unB, @z_asI, @z_asS, @z_tru_bl, @z_tru_non, @z_tru_int, @z_tru_str, @z_tru_lst, @z_tru_tup, @z_add_int, @z_sub_int, @z_neg_int, @z_lt_int, @z_le_int, @z_gt_int, @z_ge_int, @z_is_non, @z_is_bl, @z_isnot_non, @z_isnot_bl, @z_in_sign, @z_nin_sign, @z_len_str, @z_len_lst, @z_len_tup, @z_sl_lst, @z_sl_tup, @z_sl_str, @z_seq_lst, @z_seq_tup, @z_seq_str, @z_iZp, @z_zip_lst, @z_zip_tup, @z_eMthL, @z_iRngD, @z_kNil, @z_asT, @z_kCons, @z_eDisp, @z_eGet, @z_asD1, @z_iRngS, @z_eMth0, @z_eq_int, @z_eq_str, @z_eq_bl, @z_ne_bl, @z_ne_int, @z_ix_lst0, @z_ix_tup0, @z_ix_tup1, @z_ix_tup2, @z_is_str_non, @z_is_str_bl, @z_is_str_int, @z_is_str_str, @z_is_str_tup, @z_is_str_lst, @z_is_str_dic, @z_is_int_non, @z_is_int_bl, @z_is_int_int, @z_is_int_str, @z_is_int_tup, @z_is_int_lst, @z_is_int_dic, @z_is_bool_non, @z_is_bool_bl, @z_is_bool_int, @z_is_bool_str, @z_is_bool_tup, @z_is_bool_lst, @z_is_bool_dic, @z_is_tuple_non, @z_is_tuple_bl, @z_is_tuple_int, @z_is_tuple_str, @z_is_tuple_tup, @z_is_tuple_lst, @z_is_tuple_dic, @z_is_list_non, @z_is_list_bl, @z_is_list_int, @z_is_list_str, @z_is_list_tup, @z_is_list_lst, @z_is_list_dic, @z_is2_tuplelist_non, @z_is2_strbool_non, @z_is2_tuplelist_bl, @z_is2_strbool_bl, @z_is2_tuplelist_int, @z_is2_strbool_int, @z_is2_tuplelist_str, @z_is2_strbool_str, @z_is2_tuplelist_tup, @z_is2_strbool_tup, @z_is2_tuplelist_lst, @z_is2_strbool_lst, @z_is2_tuplelist_dic, @z_is2_strbool_dic, @omC_some, @gm_nn, @gm_cc, @gOne_z, @wipe_n, @wipe_c, @fill_nil, @fill_cons, @z_eVar, @z_le_str, @z_lt_str, @z_bind, @z_run, @lsZ_some, @z_app, @z_ext, @inZ_some, @z_ins, @opZ_some, @z_seti, @z_rev, @z_unp, @z_par, @z_try, @z_try0, @z_pure, @setAll_nil, @setAll_cons, @z_eFnB, @startE_cc, @startE_cn, @startE_nn, @evg0, @evgS, @evs0, @evsS, @tt_eq, @ft_eq, @itet, @itef, @Bool.not_true, @Bool.not_false, @true_and, @and_true⟩
end Mr

namespace Mr
open PySem PySem.Spec PyProof.Rows L2
theorem Fi.refl (e : Ev) : ∀ sl : List Nat, (∀ i ∈ sl, i < e.length) → Fi e sl e := fun sl h => by
  refine ⟨fun i => (e[i]?).getD none, ?_⟩
  induction sl with
  | nil => rfl
  | cons i sl ih =>
    rw [fill_cons]
    have hi := h i (List.mem_cons_self ..)
    have e1 : e.set i ((e[i]?).getD none) = e := by
      rw [List.getElem?_eq_getElem hi]
      exact List.set_getElem_self hi
    rw [e1]
    exact ih fun j hj => h j (List.mem_cons_of_mem _ hj)
section
variable {b : SM} {e : Ev} {s : Store} {k : Kt} {i : Nat} {ds : List D} {g : GM}
theorem for_st {σ : Type} (put : σ → Ev) (sl : List Nat) (I : Nat → σ → Store → Prop) (x0 : σ) (he : Fi (put x0) sl e) (h0 : I 0 x0 s)
    (step : ∀ (j : Nat) (d : D) (x : σ) (v : Nat → Option D) (s : Store), ds[j]? = some d → I j x s → opZ (g d) fun l => wzS b (setAll l (fill (put x) sl v)) s { k with nx := fun e' s' => ∃ x', Fi (put x') sl e' ∧ I (j + 1) x' s', ct := fun e' s' => ∃ x', Fi (put x') sl e' ∧ I (j + 1) x' s', bk := k.nx })
    (fin : ∀ (x : σ) (v : Nat → Option D) (s : Store), I ds.length x s → k.nx (fill (put x) sl v) s) : wzS (forL g b ds) e s k :=
  for_inv (fun j e s => ∃ x, Fi (put x) sl e ∧ I j x s) ⟨x0, he, h0⟩ (fun j d e s hd ⟨x, ⟨v, hv⟩, hI⟩ => by
    subst hv
    have q := step j d x v s hd hI
    unfold opZ at q
    cases hg : g d with
    | none => rw [hg] at q; exact q.elim
    | some l => rw [hg] at q; exact ⟨l, rfl, q⟩) fun e s ⟨x, ⟨v, hv⟩, hI⟩ => by subst hv; exact fin x v s hI
theorem for_fr (sl : List Nat) (I : Nat → Store → Prop) (hsl : ∀ i ∈ sl, i < e.length) (h0 : I 0 s)
    (step : ∀ (j : Nat) (d : D) (v : Nat → Option D) (s : Store), ds[j]? = some d → I j s → opZ (g d) fun l => wzS b (setAll l (fill e sl v)) s { k with nx := fun e' s' => Fi e sl e' ∧ I (j + 1) s', ct := fun e' s' => Fi e sl e' ∧ I (j + 1) s', bk := k.nx })
    (fin : ∀ (v : Nat → Option D) (s : Store), I ds.length s → k.nx (fill e sl v) s) : wzS (forL g b ds) e s k :=
  for_st (fun _ : Unit => e) sl (fun j _ s => I j s) () (Fi.refl e sl hsl) h0 (fun j d _ v s hd hI => by
    have q := step j d v s hd hI
    unfold opZ at q ⊢
    cases hg : g d with
    | none => rw [hg] at q; exact q
    | some l =>
      rw [hg] at q
      exact wpS_mono q (fun e s h => ⟨(), h⟩) (fun _ _ z => z) (fun _ _ z => z) (fun e s h => ⟨(), h⟩) (fun _ _ _ z => z)) fun _ v s hI => fin v s hI
theorem whilez {c : TM} (I : Nat → Ev → Store → Prop) {n fuel : Nat} (hf : n < fuel) (h0 : I n e s) (step : ∀ (n : Nat) (e : Ev) (s : Store), I n e s → wz (c e) s (fun t s' => if t = true then 0 < n ∧ wzS b e s' { k with nx := I (n - 1), ct := I (n - 1), bk := k.nx } else k.nx e s') (fun x s' => k.ex x e s')) :
    wzS (sWhile c b fuel) e s k := while_inv I step fuel hf h0
end
section
variable {e : Ev} {s : Store} {Φ : D → Store → Prop} {Ψ : List D → Store → Prop} {Ξ : Xc → Store → Prop} {sl : List Nat} {g : GM} {c : TM} {t : EM} {ds : List D}
theorem comp_iz (I : Nat → List D → Store → Prop) (h0 : I 0 [] s) (step : ∀ (j : Nat) (d : D) (acc : List D) (s : Store), ds[j]? = some d → I j acc s →
    opZ (g d) fun l => wz (c (setAll l (wipeE e sl))) s (fun k s => if k = true then wz (t (setAll l (wipeE e sl))) s (fun y s => I (j + 1) (acc ++ [y]) s) (fun _ _ => False) else I (j + 1) acc s) (fun _ _ => False)) (fin : ∀ ys s, I ds.length ys s → Ψ ys s) : wz (compM sl g c t e ds) s Ψ Ξ :=
  comp_inv I h0 (fun j d acc s hd hI => by
    have q := step j d acc s hd hI
    unfold opZ at q
    cases hg : g d with
    | none => rw [hg] at q; exact q.elim
    | some l => rw [hg] at q; exact ⟨l, rfl, q⟩) fin
theorem comp_fm {α : Type} {f : α → D} {l : List α} (p : α → Option D) (h : ∀ a ∈ l, opZ (g (f a)) fun q => wz (c (setAll q (wipeE e sl))) s (fun k s' => s' = s ∧ if k = true then wz (t (setAll q (wipeE e sl))) s (fun y s' => s' = s ∧ p a = some y) (fun _ _ => False) else p a = none) (fun _ _ => False)) (fin : Ψ (l.filterMap p) s) : wz (compM sl g c t e (l.map f)) s Ψ Ξ := by
  refine comp_iz (fun j acc s' => s' = s ∧ acc = (l.take j).filterMap p) ⟨rfl, rfl⟩ (fun j d acc s' hd hI => ?_) fun ys s' hI => ?_
  · obtain ⟨rfl, rfl⟩ := hI
    rw [List.getElem?_map] at hd
    cases ha : l[j]? with
    | none => rw [ha] at hd; cases hd
    | some a =>
      rw [ha] at hd
      cases hd
      have hj : j < l.length := (List.getElem?_eq_some_iff.mp ha).1
      have ht : l.take (j + 1) = l.take j ++ [a] := by rw [List.take_add_one, ha]; rfl
      have q := h a (List.mem_of_getElem? ha)
      unfold opZ at q ⊢
      cases hg : g (f a) with
      | none => rw [hg] at q; exact q
      | some lst =>
        rw [hg] at q
        refine wp_mono q (fun k s2 h2 => ?_) (fun _ _ z => z)
        obtain ⟨rfl, h2⟩ := h2
        rw [ht, List.filterMap_append]
        cases k with
        | true =>
          simp only [if_true] at h2 ⊢
          refine wp_mono h2 (fun y s3 h3 => ?_) (fun _ _ z => z)
          obtain ⟨rfl, h3⟩ := h3
          exact ⟨by first | rfl | trivial, by simp [h3]⟩
        | false =>
          simp only [Bool.false_eq_true, if_false] at h2 ⊢
          exact ⟨by first | rfl | trivial, by simp [h2]⟩
  · obtain ⟨rfl, rfl⟩ := hI
    rw [List.length_map, List.take_length]
    exact fin
theorem drawz {k : Nat} {n : Int} (hp : PenOk k s) (h : ∀ (r : Int) (s' : Store), 0 ≤ r → r < n → PenOk (k + 1) s' → Φ (.int r) s') (hk : k ≤ 1000000000 := by omega) (h0 : 0 < n := by omega) (h1 : n < 1000000000 := by omega) : wz (m__law_draw [.ref 0, .int n]) s Φ Ξ := draw_ok hp h hk h0 h1
theorem ixz_any {xs : List D} {i : Int} (h0 : 0 ≤ i) (h1 : i < xs.length) (h : ∀ c ∈ xs, Φ c s) : wz (opIx (.lst xs) (.int i)) s Φ Ξ := ix_lst_any h0 h1 h
end
theorem law_z {b : SM} {e : Ev} {s : Store} (h : wzS b e s { nx := fun _ _ => False, rt := fun d _ => d = .bl true }) : ∃ s', b e s = .ret (.bl true) s' := law_of h
end Mr

namespace Mr
open PySem PySem.Spec PyProof.Rows L2
def letAt (i : Nat) : Char := lets.getD i 'a'
def suf (c : Int) : Tx := [letAt (c.fdiv 26).toNat, letAt (c.fmod 26).toNat]
theorem letAt_mem (i : Nat) : letAt i ∈ lets := by
  unfold letAt
  by_cases h : i < lets.length
  · rw [List.getD_eq_getElem?_getD, List.getElem?_eq_getElem h]
    exact List.getElem_mem h
  · rw [List.getD_eq_getElem?_getD, List.getElem?_eq_none (by omega)]
    decide
theorem letAt_inj {i j : Nat} (hi : i < 26) (hj : j < 26) (h : letAt i = letAt j) : i = j := by
  have key : ∀ i : Fin 26, ∀ j : Fin 26, letAt i.val = letAt j.val → i = j := by decide +kernel
  have := key ⟨i, hi⟩ ⟨j, hj⟩ h
  exact congrArg Fin.val this
theorem suf_inj {a b : Int} (a0 : 0 ≤ a) (a1 : a < 676) (b0 : 0 ≤ b) (b1 : b < 676) (h : suf a = suf b) : a = b := by
  unfold suf at h
  injection h with h1 h2
  injection h2 with h2 _
  rw [Int.fdiv_eq_ediv_of_nonneg _ (by omega), Int.fdiv_eq_ediv_of_nonneg _ (by omega)] at h1
  rw [Int.fmod_eq_emod_of_nonneg _ (by omega), Int.fmod_eq_emod_of_nonneg _ (by omega)] at h2
  have e1 := letAt_inj (by omega) (by omega) h1
  have e2 := letAt_inj (by omega) (by omega) h2
  omega
def begins : List Tx := [[], [], ['a'], ['z', '9'], ['t', 'i', 't', 'l', 'e'], ['m', '0', 'm', '0', 'm', '0'], ['b']]
theorem name_suf {b : Tx} (hb : b ∈ begins) (c : Int) : isName (b ++ suf c) = true := by
  unfold suf
  have h1 := letAt_mem (c.fdiv 26).toNat
  have h2 := letAt_mem (c.fmod 26).toNat
  generalize letAt (c.fdiv 26).toNat = x at h1
  generalize letAt (c.fmod 26).toNat = y at h2
  have fx : ∀ z ∈ lets, (decide (z ∈ lets) || decide (z ∈ figs)) = true := fun z hz => by simp [hz]
  have ax := fx x h1
  have ay := fx y h2
  unfold begins at hb
  simp only [List.mem_cons, List.not_mem_nil, or_false] at hb
  have rest : ∀ (p : Tx) (q : Char) (_ : b = q :: p), q ∈ lets → p.length < 6 → (∀ z ∈ p, (decide (z ∈ lets) || decide (z ∈ figs)) = true) → isName (b ++ [x, y]) = true := by
    intro p q e hq hp hz
    subst e
    show (decide ((p ++ [x, y]).length < 8) && decide (q ∈ lets) && (q :: (p ++ [x, y])).all fun c => decide (c ∈ lets) || decide (c ∈ figs)) = true
    have l8 : (p ++ [x, y]).length < 8 := by simp; omega
    rw [decide_eq_true l8, decide_eq_true hq]
    simp only [Bool.true_and]
    rw [List.all_eq_true]
    intro z hzm
    rcases List.mem_cons.mp hzm with rfl | hzm
    · exact fx _ hq
    · rcases List.mem_append.mp hzm with hzm | hzm
      · exact hz z hzm
      · simp only [List.mem_cons, List.not_mem_nil, or_false] at hzm
        rcases hzm with rfl | rfl
        · exact ax
        · exact ay
  have none_ : b = [] → isName (b ++ [x, y]) = true := by
    intro e
    subst e
    show (decide ([y].length < 8) && decide (x ∈ lets) && [x, y].all fun c => decide (c ∈ lets) || decide (c ∈ figs)) = true
    rw [decide_eq_true h1]
    simp only [List.all_cons, ax, ay, List.all_nil]
    rfl
  rcases hb with h | h | h | h | h | h | h
  · exact none_ h
  · exact none_ h
  · exact rest [] 'a' h (by decide) (by decide) (by decide)
  · exact rest ['9'] 'z' h (by decide) (by decide) (by decide)
  · exact rest ['i', 't', 'l', 'e'] 't' h (by decide) (by decide) (by decide)
  · exact rest ['0', 'm', '0', 'm', '0'] 'm' h (by decide) (by decide) (by decide)
  · exact rest [] 'b' h (by decide) (by decide) (by decide)
def stepOk (st : Int) : Prop := ∃ a b : Int, a ∈ [(1 : Int), 3, 5, 7, 9, 11, 15, 17] ∧ 0 ≤ b ∧ b < 13 ∧ st = a + 26 * b
theorem step_far {st c : Int} {i j : Nat} (hs : stepOk st) (hi : i < j) (hj : j < 676) (h : (c + i * st).emod 676 = (c + j * st).emod 676) : False := by
  obtain ⟨a, b, ha, b0, b1, rfl⟩ := hs
  have h1 : ((j : Int) - i) * (a + 26 * b) % 676 = 0 := by
    have e1 : ((j : Int) - i) * (a + 26 * b) = (c + j * (a + 26 * b)) - (c + i * (a + 26 * b)) := by
      rw [Int.sub_mul]; omega
    rw [e1]
    have := Int.emod_emod_of_dvd
    have h' : (c + (i : Int) * (a + 26 * b)) % 676 = (c + (j : Int) * (a + 26 * b)) % 676 := h
    omega
  have ap : 0 ≤ a := by
    simp only [List.mem_cons, List.not_mem_nil, or_false] at ha
    omega
  have hdv : 676 ∣ (j - i) * (a + 26 * b).toNat := by
    have e1 : (((j - i) * (a + 26 * b).toNat : Nat) : Int) = ((j : Int) - i) * (a + 26 * b) := by
      rw [Int.natCast_mul, Int.toNat_of_nonneg (by omega), Int.natCast_sub (by omega)]
    have e2 : ((676 : Nat) : Int) ∣ (((j - i) * (a + 26 * b).toNat : Nat) : Int) := by
      rw [e1]
      exact Int.dvd_of_emod_eq_zero h1
    exact Int.natCast_dvd_natCast.mp e2
  have cop : Nat.Coprime 676 (a + 26 * b).toNat := by
    have key : ∀ a ∈ [(1 : Int), 3, 5, 7, 9, 11, 15, 17], ∀ b : Fin 13, Nat.gcd 676 (a + 26 * (b.val : Int)).toNat = 1 := by decide +kernel
    have := key a ha ⟨b.toNat, by omega⟩
    have e : ((b.toNat : Nat) : Int) = b := Int.toNat_of_nonneg b0
    rw [← e]
    exact this
  have := Nat.le_of_dvd (by omega) (cop.dvd_of_dvd_mul_right hdv)
  omega
theorem nodup_of {α : Type} {l : List α} (h : ∀ i j : Nat, i < j → j < l.length → l[i]? ≠ l[j]?) : l.Nodup := by
  refine List.pairwise_iff_getElem.mpr fun i j hi hj hij e => h i j hij hj ?_
  rw [List.getElem?_eq_getElem hi, List.getElem?_eq_getElem hj, e]
theorem nodup_at {α : Type} {l : List α} (h : l.Nodup) (i j : Nat) (hij : i < j) (hj : j < l.length) : l[i]? ≠ l[j]? := fun e => by
  have hi : i < l.length := by omega
  rw [List.getElem?_eq_getElem hi, List.getElem?_eq_getElem hj] at e
  exact List.pairwise_iff_getElem.mp h i j hi hj hij (Option.some.inj e)
def drawnB (x : Tx) : Bool := (x.length == 1 && x.all fun c => decide (c ∈ lets)) || begins.any fun b => (x.length == b.length + 2) && (x.take b.length == b) && ((x.drop b.length).all fun c => decide (c ∈ lets))
theorem drawn_suf {b : Tx} (hb : b ∈ begins) (c : Int) : drawnB (b ++ suf c) = true := by
  unfold drawnB
  refine Bool.or_eq_true_iff.mpr (.inr (List.any_eq_true.mpr ⟨b, hb, ?_⟩))
  rw [List.take_left, List.drop_left]
  have h1 := letAt_mem (c.fdiv 26).toNat
  have h2 := letAt_mem (c.fmod 26).toNat
  simp [suf, h1, h2]
theorem drawn_one {c : Char} (h : c ∈ lets) : drawnB [c] = true := by simp [drawnB, h]
structure NamesOk (l : List Tx) : Prop where
  nd : l.Nodup
  ok : ∀ x ∈ l, isName x = true
  dr : ∀ x ∈ l, drawnB x = true
theorem last2 {b b' : Tx} {c c' : Int} (h : b ++ suf c = b' ++ suf c') : suf c = suf c' := by
  have h1 := congrArg List.reverse h
  rw [List.reverse_append, List.reverse_append] at h1
  unfold suf at h1 ⊢
  simp only [List.reverse_cons, List.reverse_nil, List.nil_append, List.cons_append] at h1
  injection h1 with h2 h3
  injection h3 with h3 _
  rw [h2, h3]
def run (c st : Int) (l : List Tx) : Prop := ∀ (i : Nat) (x : Tx), l[i]? = some x → ∃ b ∈ begins, x = b ++ suf ((c + i * st).fmod 676)
theorem run_nd {c st : Int} {l : List Tx} (hs : stepOk st) (hl : l.length ≤ 676) (h : run c st l) : l.Nodup := by
  refine nodup_of fun i j hij hj e => ?_
  have hi : i < l.length := by omega
  obtain ⟨b, _, h1⟩ := h i _ (List.getElem?_eq_getElem hi)
  obtain ⟨b', _, h2⟩ := h j _ (List.getElem?_eq_getElem hj)
  rw [List.getElem?_eq_getElem hi, List.getElem?_eq_getElem hj] at e
  have e := Option.some.inj e
  rw [h1, h2] at e
  have e2 := last2 e
  have k : ∀ z : Int, 0 ≤ z.fmod 676 ∧ z.fmod 676 < 676 := fun z => ⟨fmod_lo z (by omega), fmod_hi z (by omega)⟩
  have e3 := suf_inj (k _).1 (k _).2 (k _).1 (k _).2 e2
  rw [Int.fmod_eq_emod_of_nonneg _ (by omega), Int.fmod_eq_emod_of_nonneg _ (by omega)] at e3
  exact step_far hs hij (by omega) e3
theorem names_ok {k : Nat} {s : Store} {n : Int} {Φ : D → Store → Prop} {Ξ : Xc → Store → Prop} (hp : PenOk k s) (hk : k ≤ 900000000) (n0 : 0 ≤ n) (n1 : n ≤ 676) (h : ∀ (l : List Tx) (s' : Store), l.length = n.toNat → NamesOk l → PenOk (k + n.toNat + 6) s' → Φ (.lst (l.map .str)) s') : wp (m__law_names [.ref 0, .int n]) s Φ Ξ := by
  have ev : startE N__law_names [.ref 0, .int n] = [some (.ref 0), some (.int n), none, none, none, none, none, none] := rfl
  unfold m__law_names
  rw [wp_run, ev]
  unfold b__law_names
  rw [wpS_seq, wpS_par]
  simp only [wp_lCons, wp_lNil, wp_eC, wp_eLst, List.length_cons, List.length_nil, if_true]
  have e1 : setAll ([3, 4].zip [D.str ['a', 'b', 'c', 'd', 'e', 'f', 'g', 'h', 'i', 'j', 'k', 'l', 'm', 'n', 'o', 'p', 'q', 'r', 's', 't', 'u', 'v', 'w', 'x', 'y', 'z'], .lst []]) [some (.ref 0), some (.int n), none, none, none, none, none, none] = [some (.ref 0), some (.int n), none, some (.str lets), some (.lst []), none, none, none] := rfl
  rw [e1, wpS_seq, wpS_par]
  simp only [wp_lCons, wp_lNil, wp_eC, wp_eLst, wp_eBin, wp_eFn, eVar_def, List.getElem?_cons_zero, wp_pure]
  refine draw_ok hp fun r1 s1 a1 b1 hp1 => ?_
  refine ix_lst_any a1 (by simpa using b1) fun st0 hst => ?_
  have hst : ∃ a : Int, a ∈ [(1 : Int), 3, 5, 7, 9, 11, 15, 17] ∧ st0 = .int a := by
    simp only [List.mem_cons, List.not_mem_nil, or_false] at hst
    rcases hst with rfl | rfl | rfl | rfl | rfl | rfl | rfl | rfl <;> exact ⟨_, by decide, rfl⟩
  obtain ⟨a, ha, rfl⟩ := hst
  refine draw_ok hp1 fun r2 s2 a2 b2 hp2 => ?_
  rw [wp_mul_int 26 r2 (.inl ⟨by omega, by omega⟩), wp_add_int]
  refine draw_ok hp2 fun c0 s3 a3 b3 hp3 => ?_
  have hs : stepOk (a + 26 * r2) := ⟨a, r2, ha, a2, b2, rfl⟩
  have hpos : 0 ≤ a + 26 * r2 := by
    simp only [List.mem_cons, List.not_mem_nil, or_false] at ha
    omega
  have hsm : a + 26 * r2 < 1000 := by
    simp only [List.mem_cons, List.not_mem_nil, or_false] at ha
    omega
  generalize a + 26 * r2 = st at hs hpos hsm ⊢
  simp only [List.length_cons, List.length_nil, if_true]
  have e2 : setAll ([5, 6].zip [D.int st, D.int c0]) [some (.ref 0), some (.int n), none, some (.str lets), some (.lst []), none, none, none] = [some (.ref 0), some (.int n), none, some (.str lets), some (.lst []), some (.int st), some (.int c0), none] := rfl
  rw [e2, wpS_seq, wpS_for]
  simp only [wp_iRng, eVar_def, List.getElem?_cons_zero, List.getElem?_cons_succ, wp_pure]
  rw [wp_rng1 ⟨by omega, by omega⟩]
  refine for_one (fun j e s => ∃ (l : List Tx) (c : Int) (x2 x7 : Option D), e = [some (.ref 0), some (.int n), x2, some (.str lets), some (.lst (l.map .str)), some (.int st), some (.int c), x7] ∧ l.length = j ∧ c = (c0 + j * st).fmod 676 ∧ run c0 st l ∧ PenOk (k + 3 + j) s)
    ⟨[], c0, none, none, rfl, rfl, ?_, fun i x e => by simp at e, hp3⟩ (fun j d e s hj hI => ?_) fun e s hI => ?_
  · simp only [Int.natCast_zero, Int.zero_mul, Int.add_zero]
    rw [Int.fmod_eq_emod_of_nonneg _ (by omega), Int.emod_eq_of_lt a3 b3]
  · obtain ⟨l, c, x2, x7, rfl, hl, hc, hr, hp4⟩ := hI
    obtain ⟨hjn, rfl⟩ := nums_get hj
    have c0' : 0 ≤ c := hc ▸ fmod_lo _ (by omega)
    have c1' : c < 676 := hc ▸ fmod_hi _ (by omega)
    simp only [List.set_cons_zero, List.set_cons_succ]
    rw [wpS_seq, wpS_set]
    simp only [wp_lCons, wp_lNil, wp_eC, wp_eLst, wp_eBin, wp_eFn, eVar_def, List.getElem?_cons_zero, wp_pure]
    refine draw_ok hp4 fun r5 s5 a5 b5 hp5 => ?_
    refine ix_lst_any a5 (by simpa using b5) fun bg hbg => ?_
    have hbg : ∃ b ∈ begins, bg = .str b := by
      unfold begins
      simp only [List.mem_cons, List.not_mem_nil, or_false] at hbg ⊢
      rcases hbg with rfl | rfl | rfl | rfl | rfl | rfl | rfl <;> exact ⟨_, by simp, rfl⟩
    obtain ⟨b, hb, rfl⟩ := hbg
    have hbl : b.length ≤ 6 := by
      unfold begins at hb
      simp only [List.mem_cons, List.not_mem_nil, or_false] at hb
      rcases hb with rfl | rfl | rfl | rfl | rfl | rfl | rfl <;> decide
    simp only [List.set_cons_zero, List.set_cons_succ]
    rw [wpS_seq, wpS_gd_of (xs := l.map .str) rfl, wpS_app]
    simp only [wp_eBin, eVar_def, List.getElem?_cons_zero, List.getElem?_cons_succ, wp_pure, wp_eC]
    rw [wp_div_int c 26 (by omega) (by omega)]
    have q1 : 0 ≤ c.fdiv 26 ∧ (c.fdiv 26).toNat < lets.length := by
      rw [Int.fdiv_eq_ediv_of_nonneg _ (by omega), lets_len]; omega
    have q2 : 0 ≤ c.fmod 26 ∧ (c.fmod 26).toNat < lets.length := by
      rw [Int.fmod_eq_emod_of_nonneg _ (by omega), lets_len]; omega
    have lt : ∀ {i : Nat} (h : i < lets.length), lets[i] = letAt i := fun {i} h => by
      unfold letAt
      rw [List.getD_eq_getElem?_getD, List.getElem?_eq_getElem h]
      rfl
    rw [wp_ix_str (atI_some q1.1 q1.2), wp_add_str _ _ (by simp; omega), wp_mod_int c 26 (by omega), wp_ix_str (atI_some q2.1 q2.2), wp_add_str _ _ (by simp; omega), lt q1.2, lt q2.2]
    have hlen : ((l.map D.str) ++ [D.str (b ++ [letAt (c.fdiv 26).toNat] ++ [letAt (c.fmod 26).toNat])]).length ≤ sizeLine := by
      simp only [List.length_append, List.length_map, List.length_cons, List.length_nil]
      exact Nat.le_trans (show l.length + (0 + 1) ≤ 1000 by omega) (by decide)
    rw [chK_of (xs := l.map .str) (ys := (l ++ [b ++ suf c]).map .str) rfl (by
      unfold ckLen
      rw [if_pos hlen, List.map_append]
      congr 2
      simp [suf])]
    simp only [List.set_cons_zero, List.set_cons_succ]
    rw [wpS_set]
    simp only [wp_eBin, eVar_def, List.getElem?_cons_zero, List.getElem?_cons_succ, wp_pure, wp_eC, wp_add_int]
    rw [wp_mod_int _ 676 (by omega)]
    simp only [List.set_cons_zero, List.set_cons_succ]
    refine ⟨l ++ [b ++ suf c], _, _, _, rfl, by rw [List.length_append, hl]; rfl, ?_, fun i x e => ?_, hp5⟩
    · subst hc
      rw [Int.fmod_eq_emod_of_nonneg _ (by omega), Int.fmod_eq_emod_of_nonneg _ (by omega), Int.fmod_eq_emod_of_nonneg _ (by omega), Int.emod_add_emod]
      congr 1
      rw [Int.natCast_add, Int.add_mul]
      simp only [Int.natCast_one, Int.one_mul]
      omega
    · by_cases hi : i < l.length
      · rw [List.getElem?_append_left hi] at e
        exact hr i x e
      · rw [List.getElem?_append_right (by omega)] at e
        have hi2 : i = l.length := by
          have := (List.getElem?_eq_some_iff.mp e).1
          simp at this
          omega
        subst hi2
        simp at e
        subst e
        exact ⟨b, hb, by rw [hl, ← hc]⟩
  · obtain ⟨l, c, x2, x7, rfl, hl, hc, hr, hp4⟩ := hI
    rw [nums_length] at hl hp4
    have nd := run_nd hs (by omega) hr
    have ok : NamesOk l := ⟨nd, fun x hx => by
      obtain ⟨i, e⟩ := List.getElem?_of_mem hx
      obtain ⟨b, hb, rfl⟩ := hr i x e
      exact name_suf hb _, fun x hx => by
      obtain ⟨i, e⟩ := List.getElem?_of_mem hx
      obtain ⟨b, hb, rfl⟩ := hr i x e
      exact drawn_suf hb _⟩
    dsimp only
    rw [wpS_seq, wpS_if]
    simp only [wp_tAnd, wp_tBin, eVar_def, List.getElem?_cons_zero, List.getElem?_cons_succ, wp_pure, wp_eC, wp_gt_int, wp_unB]
    by_cases hn : 0 < n
    · simp only [decide_eq_true hn, if_true, wp_tBin, wp_eFn, wp_lCons, wp_lNil, wp_eC, eVar_def, List.getElem?_cons_zero, wp_pure]
      refine draw_ok hp4 fun r6 s6 a6 b6 hp6 => ?_
      rw [wp_eq_int, wp_unB]
      split
      · rw [wpS_gd_of (xs := l.map .str) rfl, wpS_seti]
        simp only [wp_eBin, wp_eFn, wp_lCons, wp_lNil, wp_eC, eVar_def, List.getElem?_cons_zero, List.getElem?_cons_succ, wp_pure]
        refine draw_ok hp6 fun r7 s7 a7 b7 hp7 => ?_
        refine ix_str_any a7 (by rw [lets_len]; omega) fun ch hch => ?_
        refine draw_ok hp7 (fun r8 s8 a8 b8 hp8 => ?_) (by omega) hn (by omega)
        have hlt : r8.toNat < l.length := by omega
        have hix : L2.ixN (l.map D.str).length r8 = some r8.toNat := by
          unfold L2.ixN
          rw [List.length_map, if_pos a8, if_pos (by omega)]
        dsimp only
        rw [chK_of (xs := l.map .str) (ys := (l.set r8.toNat [ch]).map .str) rfl (by
          unfold setI
          rw [hix, List.map_set]
          rfl)]
        simp only [List.set_cons_zero, List.set_cons_succ]
        rw [wpS_ret]
        simp only [eVar_def, List.getElem?_cons_zero, List.getElem?_cons_succ, wp_pure]
        have long : ∀ x ∈ l, 2 ≤ x.length := fun x hx => by
          obtain ⟨i, e⟩ := List.getElem?_of_mem hx
          obtain ⟨b, hb, rfl⟩ := hr i x e
          unfold suf
          simp
        have fresh : [ch] ∉ l := fun hm => by
          have := long _ hm
          simp at this
        refine h _ _ (by rw [List.length_set, hl]) ⟨?_, fun x hx => ?_, fun x hx => ?_⟩ (hp8.mono (by omega))
        · refine nodup_of fun i j hij hj e => ?_
          rw [List.length_set] at hj
          have base := nodup_at nd i j hij hj
          by_cases h1 : r8.toNat = i
          · subst h1
            rw [List.getElem?_set_self hlt, List.getElem?_set_ne (by omega)] at e
            exact fresh (List.mem_of_getElem? e.symm)
          · by_cases h2 : r8.toNat = j
            · subst h2
              rw [List.getElem?_set_self hlt, List.getElem?_set_ne (by omega)] at e
              exact fresh (List.mem_of_getElem? e)
            · rw [List.getElem?_set_ne h1, List.getElem?_set_ne h2] at e
              exact base e
        · rcases List.mem_or_eq_of_mem_set hx with hx | rfl
          · exact ok.ok x hx
          · show (decide (([] : Tx).length < 8) && decide (ch ∈ lets) && [ch].all fun c => decide (c ∈ lets) || decide (c ∈ figs)) = true
            simp [hch]
        · rcases List.mem_or_eq_of_mem_set hx with hx | rfl
          · exact ok.dr x hx
          · exact drawn_one hch
      · rw [wpS_nx]
        dsimp only
        rw [wpS_ret]
        simp only [eVar_def, List.getElem?_cons_zero, List.getElem?_cons_succ, wp_pure]
        exact h l _ hl ok (hp6.mono (by omega))
    · simp only [decide_eq_false hn, Bool.false_eq_true, if_false, wpS_nx]
      rw [wpS_ret]
      simp only [eVar_def, List.getElem?_cons_zero, List.getElem?_cons_succ, wp_pure]
      exact h l _ hl ok (hp4.mono (by omega))
end Mr

namespace Mr
open PySem PySem.Spec PyProof.Rows L2
section
variable {s : Store} {Φ : D → Store → Prop} {Ξ : Xc → Store → Prop}
@[simp] theorem wp_tuple_lst (x : List D) : wp (fTuple (.lst x)) s Φ Ξ = Φ (.tup x) s := rfl
@[simp] theorem wp_tuple_tup (x : List D) : wp (fTuple (.tup x)) s Φ Ξ = Φ (.tup x) s := rfl
@[simp] theorem wp_list_lst (x : List D) : wp (fList (.lst x)) s Φ Ξ = Φ (.lst x) s := rfl
@[simp] theorem wp_list_tup (x : List D) : wp (fList (.tup x)) s Φ Ξ = Φ (.lst x) s := rfl
@[simp] theorem wp_int_bl (b : Bool) : wp (fInt (.bl b)) s Φ Ξ = Φ (.int (if b then 1 else 0)) s := rfl
@[simp] theorem wp_int_int (b : Int) : wp (fInt (.int b)) s Φ Ξ = Φ (.int b) s := rfl
theorem wp_in_tup (d : D) (xs : List D) (h : (d.flat && xs.all D.flat) = true) (hd : ∀ c b, ¬ (d = .str [c] ∧ D.tup xs = .str b) := by intro _ _ h; cases h.2) : wp (opIn d (.tup xs)) s Φ Ξ = Φ (.bl (dIn d xs)) s := by
  have e : opIn d (.tup xs) = (if d.flat && xs.all D.flat then pure (.bl (dIn d xs)) else bad) := by
    cases d with
    | str cs => cases cs with
      | nil => rfl
      | cons c cs => cases cs <;> rfl
    | _ => rfl
  rw [e, h]
  rfl
theorem wp_in_lst (d : D) (xs : List D) (h : (d.okD && D.okD (.lst xs)) = true) : wp (opIn d (.lst xs)) s Φ Ξ = Φ (.bl (dIn d xs)) s := by
  have e : opIn d (.lst xs) = (if d.okD && D.okD (.lst xs) then pure (.bl (dIn d xs)) else bad) := by
    cases d with
    | str cs => cases cs with
      | nil => rfl
      | cons c cs => cases cs <;> rfl
    | _ => rfl
  rw [e, h]
  rfl
theorem wp_nin_lst (d : D) (xs : List D) (h : (d.okD && D.okD (.lst xs)) = true) : wp (opNotIn d (.lst xs)) s Φ Ξ = Φ (.bl (!dIn d xs)) s := by
  have e : opNotIn d (.lst xs) = (if d.okD && D.okD (.lst xs) then pure (.bl (!dIn d xs)) else bad) := by
    cases d with
    | str cs => cases cs with
      | nil => rfl
      | cons c cs => cases cs <;> rfl
    | _ => rfl
  rw [e, h]
  rfl
end
theorem cut_take {α : Type} (xs : List α) {n : Int} (h : 0 ≤ n) : cutL xs none (some n) = xs.take n.toNat := by
  unfold cutL
  have e1 : HT.sIx xs.length 0 none = 0 := rfl
  have e2 : HT.sIx xs.length xs.length (some n) = min n.toNat xs.length := by
    unfold HT.sIx
    have h1 : ¬ n < 0 := by omega
    simp [h1]
  rw [e1, e2]
  simp
def okSigns : Tx := [' ', '!', '"', '#', '$', '&', '\'', '(', ')', '*', '+', ',', '-', '.', '/', ':', ';', '<', '=', '>', '?', '@', '[', ']', '^', '_', '`', '{', '|', '}', '~', '0', '1', '2', '3', '4', '5', '6', '7', '8', '9', 'a', 'b', 'c', 'd', 'e', 'f', 'g', 'h', 'i', 'j', 'k', 'l', 'm', 'n', 'o', 'p', 'q', 'r', 's', 't', 'u', 'v', 'w', 'x', 'y', 'z', 'A', 'B', 'C', 'D', 'E', 'F', 'G', 'H', 'I', 'J', 'K', 'L', 'M', 'N', 'O', 'P', 'Q', 'R', 'S', 'T', 'U', 'V', 'W', 'X', 'Y', 'Z']
structure LineOk (t : Tx) : Prop where
  len : t.length ≤ 60
  ok : ∀ c ∈ t, c ∈ okSigns
theorem LineOk.take {t : Tx} (h : LineOk t) (n : Nat) : LineOk (t.take n) := ⟨by rw [List.length_take]; have := h.len; omega, fun c hc => h.ok c (List.mem_of_mem_take hc)⟩
theorem joinT_mem {s : Tx} {P : Char → Prop} (hs : ∀ c ∈ s, P c) : ∀ {l : List Tx}, (∀ t ∈ l, ∀ c ∈ t, P c) → ∀ c ∈ joinT s l, P c
  | [], _, c, hc => by cases hc
  | [x], h, c, hc => h x (List.mem_cons_self ..) c hc
  | x :: y :: r, h, c, hc => by
    unfold joinT at hc
    rcases List.mem_append.mp hc with hc | hc
    · rcases List.mem_append.mp hc with hc | hc
      · exact h x (List.mem_cons_self ..) c hc
      · exact hs c hc
    · exact joinT_mem hs (fun t ht => h t (List.mem_cons_of_mem _ ht)) c hc
def wordsL : List D := [.str ['a'], .str ['W', 'o', 'r', 'd'], .str ['e', 'n', 'd', '.'], .str ['{', 'n', '}'], .str ['{', 'a', 'l', 'l', '}'], .str ['{', 'n', 'a', 'm', 'e', '}'], .str ['d', 'o', 'n', '\'', 't', ';'], .str [], .str [], .str (repL (23 : Int).toNat ['x']), .str ['{', 'n'], .str ['{', '{', 'n', '}', '}'], .str ['{', 'N', '}', ' ', '~', '!'], .str ['w', 'o', 'r', 'd']]
theorem wordsL_ok : ∀ d ∈ wordsL, ∃ t : Tx, d = .str t ∧ t.length ≤ 23 ∧ ∀ c ∈ t, c ∈ okSigns := by
  intro d hd
  unfold wordsL at hd
  simp only [List.mem_cons, List.not_mem_nil, or_false] at hd
  rcases hd with rfl | rfl | rfl | rfl | rfl | rfl | rfl | rfl | rfl | rfl | rfl | rfl | rfl | rfl <;> exact ⟨_, rfl, by decide +kernel, by decide +kernel⟩
theorem sum_le {l : List Tx} {n : Nat} (h : ∀ t ∈ l, t.length ≤ n) : (l.map List.length).sum ≤ l.length * n := by
  induction l with
  | nil => simp
  | cons x l ih =>
    have h1 := h x (List.mem_cons_self ..)
    have h2 := ih fun t ht => h t (List.mem_cons_of_mem _ ht)
    rw [List.map_cons, List.sum_cons, List.length_cons, Nat.succ_mul]
    omega
theorem line_ok {k : Nat} {s : Store} {Φ : D → Store → Prop} {Ξ : Xc → Store → Prop} (hp : PenOk k s) (hk : k ≤ 900000000) (h : ∀ (t : Tx) (s' : Store), LineOk t → PenOk (k + 7) s' → Φ (.str t) s') : wp (m__law_line [.ref 0]) s Φ Ξ := by
  have ev : startE N__law_line [.ref 0] = [some (.ref 0), none, none, none] := rfl
  unfold m__law_line
  rw [wp_run, ev]
  unfold b__law_line
  rw [wpS_seq, wpS_set]
  simp only [wp_eLst, wp_lCons, wp_lNil, wp_eC, wp_eBin]
  rw [wp_mul_str _ _ ⟨by omega, by omega, by decide⟩]
  show wpS _ [some (.ref 0), some (.lst wordsL), none, none] _ _
  rw [wpS_seq, wpS_set]
  simp only [wp_eMeth, wp_eC, wp_asS, wp_eComp, wp_iRng, wp_eFn, wp_lCons, wp_lNil, eVar_def, List.getElem?_cons_zero, wp_pure]
  refine draw_ok hp fun r1 s1 a1 b1 hp1 => ?_
  rw [wp_rng1 ⟨by omega, by omega⟩]
  refine comp_inv (fun j acc s => ∃ l : List Tx, acc = l.map D.str ∧ l.length = j ∧ (∀ x ∈ l, x.length ≤ 23 ∧ ∀ c ∈ x, c ∈ okSigns) ∧ PenOk (k + 1 + j) s) ⟨[], rfl, rfl, fun _ z => (by cases z), hp1⟩ (fun j d acc s' hj hI => ?_) fun ys s' hI => ?_
  · obtain ⟨l, rfl, hl, h1, hp2⟩ := hI
    obtain ⟨hjn, rfl⟩ := nums_get hj
    refine ⟨_, rfl, ?_⟩
    show wp _ s' (fun k s => if k = true then wp (eBin opIx (eVar 1) (eFn m__law_draw (lCons (eVar 0) (lCons (eC (.int (14))) lNil))) [some (.ref 0), some (.lst wordsL), none, some (.int (0 + (j : Nat)))]) s _ _ else _) _
    simp only [wp_cYes, if_true, wp_eBin, wp_eFn, wp_lCons, wp_lNil, eVar_def, List.getElem?_cons_zero, List.getElem?_cons_succ, wp_pure, wp_eC]
    refine draw_ok hp2 fun r3 s3 a3 b3 hp3 => ?_
    refine ix_lst_any a3 (by show r3 < 14; omega) fun d hd => ?_
    obtain ⟨t, rfl, t1, t2⟩ := wordsL_ok d hd
    refine ⟨l ++ [t], by rw [List.map_append]; rfl, by rw [List.length_append, hl]; rfl, fun x hx => ?_, hp3⟩
    rcases List.mem_append.mp hx with hx | hx
    · exact h1 x hx
    · rw [List.mem_singleton.mp hx]; exact ⟨t1, t2⟩
  · obtain ⟨l, rfl, hl, h1, hp2⟩ := hI
    rw [nums_length] at hl hp2
    have hsum := sum_le fun t ht => (h1 t ht).1
    have hj : joinLen [' '] l ≤ 1000000 := by
      unfold joinLen
      simp only [List.length_cons, List.length_nil]
      omega
    rw [wp_join (texts_map l) hj]
    have hc := joinT_mem (s := [' ']) (P := fun c => c ∈ okSigns) (by decide) fun t ht => (h1 t ht).2
    generalize joinT [' '] l = jt at hc ⊢
    simp only [List.set_cons_zero, List.set_cons_succ]
    rw [wpS_ret]
    simp only [wp_eSl, wp_pNo, wp_pSome, wp_eBin, wp_eLst, wp_lCons, wp_lNil, wp_eC, wp_eFn, eVar_def, List.getElem?_cons_zero, List.getElem?_cons_succ, wp_pure]
    refine draw_ok hp2 fun r4 s4 a4 b4 hp4 => ?_
    refine ix_lst_any a4 (by simpa using b4) fun d hd => ?_
    have hd2 : ∃ n : Int, d = .int n ∧ 0 ≤ n ∧ n ≤ 60 := by
      simp only [List.mem_cons, List.not_mem_nil, or_false] at hd
      rcases hd with rfl | rfl | rfl <;> exact ⟨_, rfl, by omega, by omega⟩
    obtain ⟨n, rfl, n0, n1⟩ := hd2
    simp only [wp_asI, wp_sl_str]
    rw [cut_take _ n0]
    exact h _ _ ⟨by rw [List.length_take]; omega, fun c hc' => hc c (List.mem_of_mem_take hc')⟩ (hp4.mono (by omega))
theorem lines_ok {k : Nat} {s : Store} {Φ : D → Store → Prop} {Ξ : Xc → Store → Prop} (hp : PenOk k s) (hk : k ≤ 800000000) (h : ∀ (l : List Tx) (s' : Store), l.length ≤ 12 → (∀ t ∈ l, LineOk t) → PenOk (k + 100) s' → Φ (.tup (l.map .str)) s') : wp (m__law_lines [.ref 0]) s Φ Ξ := by
  have ev : startE N__law_lines [.ref 0] = [some (.ref 0), none, none] := rfl
  unfold m__law_lines
  rw [wp_run, ev]
  unfold b__law_lines
  rw [wpS_seq, wpS_set]
  simp only [wp_eBin, wp_eLst, wp_lCons, wp_lNil, wp_eC, wp_eFn, eVar_def, List.getElem?_cons_zero, wp_pure]
  refine draw_ok hp fun r1 s1 a1 b1 hp1 => ?_
  refine draw_ok hp1 fun r2 s2 a2 b2 hp2 => ?_
  refine draw_ok hp2 fun r3 s3 a3 b3 hp3 => ?_
  refine ix_lst_any a3 (by simpa using b3) fun d hd => ?_
  have hd2 : ∃ n : Int, d = .int n ∧ 0 ≤ n ∧ n ≤ 12 := by
    simp only [List.mem_cons, List.not_mem_nil, or_false] at hd
    rcases hd with rfl | rfl | rfl <;> exact ⟨_, rfl, by omega, by omega⟩
  obtain ⟨n, rfl, n0, n1⟩ := hd2
  simp only [List.set_cons_zero, List.set_cons_succ]
  rw [wpS_ret]
  simp only [wp_eUn, wp_eComp, wp_iRng, eVar_def, List.getElem?_cons_zero, List.getElem?_cons_succ, wp_pure]
  rw [wp_rng1 ⟨by omega, by omega⟩]
  refine comp_inv (fun j acc s => ∃ l : List Tx, acc = l.map D.str ∧ l.length = j ∧ (∀ x ∈ l, LineOk x) ∧ PenOk (k + 3 + j * 7) s) ⟨[], rfl, rfl, fun _ z => (by cases z), by simpa using hp3⟩ (fun j d acc s' hj hI => ?_) fun ys s' hI => ?_
  · obtain ⟨l, rfl, hl, h1, hp4⟩ := hI
    obtain ⟨hjn, rfl⟩ := nums_get hj
    refine ⟨_, rfl, ?_⟩
    have e2 : setAll [(2, D.int (0 + (j : Nat)))] (wipeE [some (.ref 0), some (.int n), none] [2]) = [some (.ref 0), some (.int n), some (.int (0 + (j : Nat)))] := rfl
    rw [e2]
    simp only [wp_cYes, if_true, wp_eSl, wp_pNo, wp_pSome, wp_eBin, wp_eUn, wp_eLst, wp_eFn, wp_lCons, wp_lNil, eVar_def, List.getElem?_cons_zero, List.getElem?_cons_succ, wp_pure, wp_eC, wp_gt_int, wp_int_bl]
    refine line_ok hp4 (by omega) fun t s5 ht hp5 => ?_
    have fin : ∀ m : Int, 0 ≤ m → ∃ l' : List Tx, l.map D.str ++ [D.str (cutL t none (some m))] = l'.map D.str ∧ l'.length = j + 1 ∧ (∀ x ∈ l', LineOk x) ∧ PenOk (k + 3 + (j + 1) * 7) s5 := fun m hm => by
      rw [cut_take _ hm]
      refine ⟨l ++ [t.take m.toNat], by rw [List.map_append]; rfl, by rw [List.length_append, hl]; rfl, fun x hx => ?_, hp5.mono (by omega)⟩
      rcases List.mem_append.mp hx with hx | hx
      · exact h1 x hx
      · rw [List.mem_singleton.mp hx]; exact ht.take _
    by_cases h3 : 3 < n
    · simp only [decide_eq_true h3, if_true]
      rw [wp_ix_lst (d := .int 12) rfl]
      simp only [wp_asI, wp_sl_str]
      exact fin 12 (by omega)
    · simp only [decide_eq_false h3, Bool.false_eq_true, if_false]
      rw [wp_ix_lst (d := .int 60) rfl]
      simp only [wp_asI, wp_sl_str]
      exact fin 60 (by omega)
  · obtain ⟨l, rfl, hl, h1, hp4⟩ := hI
    rw [nums_length] at hl hp4
    simp only [wp_tuple_lst]
    exact h l _ (by omega) h1 (hp4.mono (by omega))
def tLeft : Tx := ['l', 'e', 'f', 't']
def tTop : Tx := ['t', 'o', 'p']
def tWide : Tx := ['w', 'i', 'd', 'e']
def tHigh : Tx := ['h', 'i', 'g', 'h']
def tSize : Tx := ['s', 'i', 'z', 'e']
def tInk : Tx := ['i', 'n', 'k']
def traits : List Tx := [tLeft, tTop, tWide, tHigh, tSize, tInk]
def WorthOk (t : Tx) (d : D) : Prop := (t = tInk ∧ ∃ x, d = .str x ∧ isName x = true) ∨ ((t = tLeft ∨ t = tTop) ∧ ∃ i, d = .int i ∧ -999 ≤ i ∧ i ≤ 999) ∨ (t = tSize ∧ ∃ i, d = .int i ∧ 1 ≤ i ∧ i ≤ 99) ∨ ((t = tWide ∨ t = tHigh) ∧ ∃ i, d = .int i ∧ 1 ≤ i ∧ i ≤ 999)
theorem traits_run {s : Store} {Φ : D → Store → Prop} {Ξ : Xc → Store → Prop} : wp (m__law_traits []) s Φ Ξ = Φ (.lst (traits.map .str)) s := rfl
theorem worth_ok {k : Nat} {s : Store} {t : Tx} {Φ : D → Store → Prop} {Ξ : Xc → Store → Prop} (hp : PenOk k s) (hk : k ≤ 900000000) (ht : t ∈ traits) (h : ∀ (d : D) (s' : Store), WorthOk t d → PenOk (k + 6) s' → Φ d s') : wp (m__law_worth [.ref 0, .str t]) s Φ Ξ := by
  have ev : startE N__law_worth [.ref 0, .str t] = [some (.ref 0), some (.str t)] := rfl
  unfold m__law_worth
  rw [wp_run, ev]
  unfold b__law_worth
  rw [wpS_seq, wpS_if]
  simp only [wp_tBin, wp_eC, eVar_def, List.getElem?_cons_zero, List.getElem?_cons_succ, wp_pure, wp_eq_str, wp_unB]
  by_cases hi : t = tInk
  · subst hi
    simp only [show (tInk == ['i', 'n', 'k']) = true from rfl, if_true, wpS_ret, wp_eBin, wp_eLst, wp_lCons, wp_lNil, wp_eC, wp_eFn, eVar_def, List.getElem?_cons_zero, wp_pure]
    refine draw_ok hp fun r1 s1 a1 b1 hp1 => ?_
    refine ix_lst_any a1 (by simpa using b1) fun d hd => h d _ (.inl ⟨rfl, ?_⟩) (hp1.mono (by omega))
    simp only [List.mem_cons, List.not_mem_nil, or_false] at hd
    rcases hd with rfl | rfl | rfl | rfl | rfl <;> exact ⟨_, rfl, by decide +kernel⟩
  have hi' : (t == ['i', 'n', 'k']) = false := by
    cases q : t == ['i', 'n', 'k'] with
    | false => rfl
    | true => exact absurd (beq_iff_eq.mp q) hi
  simp only [hi', Bool.false_eq_true, if_false, wpS_nx]
  rw [wpS_seq, wpS_if]
  simp only [wp_tBin, wp_eTup, wp_lCons, wp_lNil, wp_eC, eVar_def, List.getElem?_cons_zero, List.getElem?_cons_succ, wp_pure]
  rw [wp_in_tup _ _ (by rfl), wp_unB]
  by_cases hl : t = tLeft ∨ t = tTop
  · have e : dIn (.str t) [D.str ['l', 'e', 'f', 't'], .str ['t', 'o', 'p']] = true := by
      rcases hl with rfl | rfl <;> rfl
    simp only [e, if_true, wpS_ret, wp_eBin, wp_eUn, wp_eLst, wp_lCons, wp_lNil, wp_eC, wp_eFn, eVar_def, List.getElem?_cons_zero, wp_pure, wp_neg_int]
    refine draw_ok hp fun r1 s1 a1 b1 hp1 => ?_
    refine draw_ok hp1 fun r2 s2 a2 b2 hp2 => ?_
    rw [wp_add_int]
    refine draw_ok hp2 fun r3 s3 a3 b3 hp3 => ?_
    refine ix_lst_any a3 (by simpa using b3) fun d hd => h d _ (.inr (.inl ⟨hl, ?_⟩)) (hp3.mono (by omega))
    simp only [List.mem_cons, List.not_mem_nil, or_false] at hd
    rcases hd with rfl | rfl | rfl | rfl <;> exact ⟨_, rfl, by omega, by omega⟩
  have e : dIn (.str t) [D.str ['l', 'e', 'f', 't'], .str ['t', 'o', 'p']] = false := by
    have n1 : (tLeft == t) = false := by
      cases q : tLeft == t with
      | false => rfl
      | true => exact absurd (.inl (beq_iff_eq.mp q).symm) hl
    have n2 : (tTop == t) = false := by
      cases q : tTop == t with
      | false => rfl
      | true => exact absurd (.inr (beq_iff_eq.mp q).symm) hl
    show (D.eqv (.str tLeft) (.str t) || (D.eqv (.str tTop) (.str t) || false)) = false
    simp only [D.eqv, n1, n2]
    rfl
  simp only [e, Bool.false_eq_true, if_false, wpS_nx]
  rw [wpS_seq, wpS_if]
  simp only [wp_tBin, wp_eC, eVar_def, List.getElem?_cons_zero, List.getElem?_cons_succ, wp_pure, wp_eq_str, wp_unB]
  by_cases hs : t = tSize
  · subst hs
    simp only [show (tSize == ['s', 'i', 'z', 'e']) = true from rfl, if_true, wpS_ret, wp_eBin, wp_eLst, wp_lCons, wp_lNil, wp_eC, wp_eFn, eVar_def, List.getElem?_cons_zero, wp_pure]
    refine draw_ok hp fun r1 s1 a1 b1 hp1 => ?_
    rw [wp_add_int]
    refine draw_ok hp1 fun r3 s3 a3 b3 hp3 => ?_
    refine ix_lst_any a3 (by simpa using b3) fun d hd => h d _ (.inr (.inr (.inl ⟨rfl, ?_⟩))) (hp3.mono (by omega))
    simp only [List.mem_cons, List.not_mem_nil, or_false] at hd
    rcases hd with rfl | rfl | rfl | rfl | rfl <;> exact ⟨_, rfl, by omega, by omega⟩
  have hs' : (t == ['s', 'i', 'z', 'e']) = false := by
    cases q : t == ['s', 'i', 'z', 'e'] with
    | false => rfl
    | true => exact absurd (beq_iff_eq.mp q) hs
  have hw : t = tWide ∨ t = tHigh := by
    unfold traits at ht
    simp only [List.mem_cons, List.not_mem_nil, or_false] at ht
    rcases ht with e | e | e | e | e | e
    · exact absurd (.inl e) hl
    · exact absurd (.inr e) hl
    · exact .inl e
    · exact .inr e
    · exact absurd e hs
    · exact absurd e hi
  simp only [hs', Bool.false_eq_true, if_false, wpS_nx, wpS_ret, wp_eBin, wp_eLst, wp_lCons, wp_lNil, wp_eC, wp_eFn, eVar_def, List.getElem?_cons_zero, wp_pure]
  refine draw_ok hp fun r1 s1 a1 b1 hp1 => ?_
  rw [wp_add_int]
  refine draw_ok hp1 fun r2 s2 a2 b2 hp2 => ?_
  rw [wp_add_int]
  refine draw_ok hp2 fun r3 s3 a3 b3 hp3 => ?_
  rw [wp_add_int]
  refine draw_ok hp3 fun r4 s4 a4 b4 hp4 => ?_
  refine ix_lst_any a4 (by simpa using b4) fun d hd => h d _ (.inr (.inr (.inr ⟨hw, ?_⟩))) (hp4.mono (by omega))
  simp only [List.mem_cons, List.not_mem_nil, or_false] at hd
  rcases hd with rfl | rfl | rfl | rfl | rfl <;> exact ⟨_, rfl, by omega, by omega⟩
end Mr

namespace Mr
open PySem PySem.Spec PyProof.Rows L2
theorem okz {α : Type} {m : M α} {s s' : Store} {a : α} {Φ : α → Store → Prop} {Ξ : Xc → Store → Prop} (h : m s = .ok a s') : wz m s Φ Ξ = Φ a s' := wp_ok h
def wordL : List (Str × Tx) := [("NoDeck", ['d', 'e', 'c', 'k']), ("NoDeed", ['d', 'e', 'e', 'd']), ("NoLink", ['l', 'i', 'n', 'k']), ("NoMaster", ['m', 'a', 's', 't', 'e', 'r']), ("NoName", ['n', 'a', 'm', 'e']), ("NoNumber", ['n', 'u', 'm', 'b', 'e', 'r']), ("NoPlace", ['p', 'l', 'a', 'c', 'e']), ("NoPress", ['p', 'r', 'e', 's', 's']), ("NoRoom", ['r', 'o', 'o', 'm']), ("NoRow", ['r', 'o', 'w']), ("NoSetting", ['s', 'e', 't', 't', 'i', 'n', 'g']), ("NoShow", ['s', 'h', 'o', 'w']),
  ("NoSlide", ['s', 'l', 'i', 'd', 'e']), ("NoSteps", ['s', 't', 'e', 'p', 's']), ("NoText", ['t', 'e', 'x', 't']), ("NoTime", ['t', 'i', 'm', 'e']), ("NoTrait", ['t', 'r', 'a', 'i', 't']), ("NoWord", ['w', 'o', 'r', 'd']), ("NoWorth", ['w', 'o', 'r', 't', 'h']), ("Ring", ['r', 'i', 'n', 'g']), ("Taken", ['t', 'a', 'k', 'e', 'n']), ("TooMany", ['m', 'a', 'n', 'y']), ("Used", ['u', 's', 'e', 'd'])]
def kindD (d : D) : Bool := (tyD d).isSome
def wholeD : D → Bool
  | .int _ => true
  | _ => false
theorem is_whole_run {d : D} (h : kindD d = true) (s : Store) : m_is_whole [d] s = .ok (.bl (wholeD d)) s := by
  cases d <;> first
    | rfl
    | (cases h; done)
def fromD (d : D) (lo hi : Int) : Bool := match d with
  | .int i => decide (lo ≤ i) && decide (i ≤ hi)
  | _ => false
theorem is_whole_z {d : D} {s : Store} {Φ : D → Store → Prop} {Ξ : Xc → Store → Prop} (h : kindD d = true) : wz (m_is_whole [d]) s Φ Ξ = Φ (.bl (wholeD d)) s := okz (is_whole_run h s)
theorem is_from_z {d : D} {lo hi : Int} {s : Store} {Φ : D → Store → Prop} {Ξ : Xc → Store → Prop} (h : kindD d = true) : wz (m_is_from [d, .int lo, .int hi]) s Φ Ξ = Φ (.bl (fromD d lo hi)) s := by
  simp only [m_is_from, N_is_from, b_is_from, stp, is_whole_z h]
  cases d <;> first
    | (cases h; done)
    | rfl
    | skip
  rename_i i
  simp only [wholeD, fromD, stp]
  cases decide (lo ≤ i) <;> simp only [stp, Bool.true_and, Bool.false_and]
theorem boolsOf_fm {α : Type} (f : α → Bool) (l : List α) : boolsOf (l.filterMap fun x => some (D.bl (f x))) = some (l.map f) := by
  rw [show (l.filterMap fun x => some (D.bl (f x))) = l.map fun x => D.bl (f x) from List.filterMap_eq_map ▸ rfl]
  exact bools_map f l
theorem allz {ds : List D} {bs : List Bool} {s : Store} {Φ : D → Store → Prop} {Ξ : Xc → Store → Prop} (h : boolsOf ds = some bs) (q : Φ (.bl (bs.all id)) s) : wz (fAll (.lst ds)) s Φ Ξ := (wp_all h).mpr q
theorem sign_at0 (c : Char) (cs : Tx) {s : Store} {Φ : D → Store → Prop} {Ξ : Xc → Store → Prop} : wz (opIx (.str (c :: cs)) (.int 0)) s Φ Ξ = Φ (.str [c]) s := wp_ix_str (atI_some (by omega) (by simp))
theorem all_fm {α : Type} {f : α → Bool} {l : List α} {s : Store} {Φ : D → Store → Prop} {Ξ : Xc → Store → Prop} (q : Φ (.bl (l.all f)) s) : wz (fAll (.lst (l.filterMap fun x => some (D.bl (f x))))) s Φ Ξ := by
  refine allz (boolsOf_fm f l) ?_
  rw [List.all_map]
  exact q
theorem is_name_z {t : Tx} {s : Store} {Φ : D → Store → Prop} {Ξ : Xc → Store → Prop} (q : Φ (.bl (isName t)) s) : wz (m_is_name [.str t]) s Φ Ξ := by
  simp only [m_is_name, N_is_name, b_is_name, stp]
  cases t with
  | nil => exact q
  | cons c cs =>
    have h1 : (1 : Int) ≤ ((c :: cs).length : Nat) := by simp only [List.length_cons]; omega
    have h2 : decide ((((c :: cs).length : Nat) : Int) ≤ 8) = decide (cs.length < 8) := by simp only [List.length_cons]; congr 1; exact propext ⟨fun _ => by omega, fun _ => by omega⟩
    unfold isName at q
    simp only [decide_eq_true h1, h2, sign_at0, stp]
    cases h8 : decide (cs.length < 8) with
    | false =>
      simp only [h8, Bool.false_and] at q
      simp only [stp]
      exact q
    | true =>
      simp only [h8, Bool.true_and] at q
      cases hc : decide (c ∈ lets) with
      | false =>
        have hc' : (decide (c ∈ ['a', 'b', 'c', 'd', 'e', 'f', 'g', 'h', 'i', 'j', 'k', 'l', 'm', 'n', 'o', 'p', 'q', 'r', 's', 't', 'u', 'v', 'w', 'x', 'y', 'z'])) = false := hc
        simp only [hc, Bool.false_and] at q
        simp only [hc', stp]
        exact q
      | true =>
        have hc' : (decide (c ∈ ['a', 'b', 'c', 'd', 'e', 'f', 'g', 'h', 'i', 'j', 'k', 'l', 'm', 'n', 'o', 'p', 'q', 'r', 's', 't', 'u', 'v', 'w', 'x', 'y', 'z'])) = true := hc
        simp only [hc, Bool.true_and] at q
        simp only [hc', stp]
        refine comp_fm (l := c :: cs) (fun x => some (D.bl (decide (x ∈ lets) || decide (x ∈ figs)))) (fun x _ => ?_) (all_fm q)
        simp only [gOne, wipeE, stp]
        have e : (decide (x ∈ lets) || decide (x ∈ figs)) = (decide (x ∈ ['a', 'b', 'c', 'd', 'e', 'f', 'g', 'h', 'i', 'j', 'k', 'l', 'm', 'n', 'o', 'p', 'q', 'r', 's', 't', 'u', 'v', 'w', 'x', 'y', 'z']) || decide (x ∈ ['0', '1', '2', '3', '4', '5', '6', '7', '8', '9'])) := rfl
        rw [e]
        cases hx : decide (x ∈ ['a', 'b', 'c', 'd', 'e', 'f', 'g', 'h', 'i', 'j', 'k', 'l', 'm', 'n', 'o', 'p', 'q', 'r', 's', 't', 'u', 'v', 'w', 'x', 'y', 'z'])
        · simp only [stp, Bool.false_or]
        · simp only [stp, Bool.true_or]
def nameD : D → Bool
  | .str t => isName t
  | _ => false
theorem is_name_d {d : D} {s : Store} {Φ : D → Store → Prop} {Ξ : Xc → Store → Prop} (h : kindD d = true) (q : Φ (.bl (nameD d)) s) : wz (m_is_name [d]) s Φ Ξ := by
  cases d <;> first
    | exact is_name_z q
    | (cases h; done)
    | exact q
theorem z_in_lst (d : D) (xs : List D) {s : Store} {Φ : D → Store → Prop} {Ξ : Xc → Store → Prop} (h : (d.okD && D.okD (.lst xs)) = true) : wz (opIn d (.lst xs)) s Φ Ξ = Φ (.bl (dIn d xs)) s := wp_in_lst d xs h
theorem z_nin_lst (d : D) (xs : List D) {s : Store} {Φ : D → Store → Prop} {Ξ : Xc → Store → Prop} (h : (d.okD && D.okD (.lst xs)) = true) : wz (opNotIn d (.lst xs)) s Φ Ξ = Φ (.bl (!dIn d xs)) s := wp_nin_lst d xs h
def isWorthD (t : Tx) (d : D) : Bool := if t = tInk then nameD d else if t = tLeft ∨ t = tTop then fromD d (-999) 999 else if t = tSize then fromD d 1 99 else fromD d 1 999
theorem is_worth_z {t : Tx} {d : D} {s : Store} {Φ : D → Store → Prop} {Ξ : Xc → Store → Prop} (ht : t ∈ traits) (h : kindD d = true) (q : Φ (.bl (isWorthD t d)) s) : wz (m_is_worth [.str t, d]) s Φ Ξ := by
  unfold traits at ht
  simp only [List.mem_cons, List.not_mem_nil, or_false] at ht
  have must : ∀ t ∈ traits, m_must_be_trait [.str t] s = .ok .non s := by
    intro t ht
    unfold traits at ht
    simp only [List.mem_cons, List.not_mem_nil, or_false] at ht
    rcases ht with rfl | rfl | rfl | rfl | rfl | rfl <;> kernel_rfl
  simp only [m_is_worth, N_is_worth, b_is_worth, stp]
  rcases ht with rfl | rfl | rfl | rfl | rfl | rfl
  all_goals
    rw [okz (must _ (by decide))]
    simp only [stp]
  · have e : (opInK "BOUNDS" tv_BOUNDS) (.str tLeft) (.glo "BOUNDS") s = .ok (.bl true) s := by kernel_rfl
    have e2 : (opIxK "BOUNDS" tv_BOUNDS) (.glo "BOUNDS") (.str tLeft) s = .ok (.tup [.int (-999), .int 999]) s := by kernel_rfl
    simp only [okz e, okz e2, z_ix_tup0, z_ix_tup1, is_from_z h, stp]
    exact q
  · have e : (opInK "BOUNDS" tv_BOUNDS) (.str tTop) (.glo "BOUNDS") s = .ok (.bl true) s := by kernel_rfl
    have e2 : (opIxK "BOUNDS" tv_BOUNDS) (.glo "BOUNDS") (.str tTop) s = .ok (.tup [.int (-999), .int 999]) s := by kernel_rfl
    simp only [okz e, okz e2, z_ix_tup0, z_ix_tup1, is_from_z h, stp]
    exact q
  · have e : (opInK "BOUNDS" tv_BOUNDS) (.str tWide) (.glo "BOUNDS") s = .ok (.bl true) s := by kernel_rfl
    have e2 : (opIxK "BOUNDS" tv_BOUNDS) (.glo "BOUNDS") (.str tWide) s = .ok (.tup [.int 1, .int 999]) s := by kernel_rfl
    simp only [okz e, okz e2, z_ix_tup0, z_ix_tup1, is_from_z h, stp]
    exact q
  · have e : (opInK "BOUNDS" tv_BOUNDS) (.str tHigh) (.glo "BOUNDS") s = .ok (.bl true) s := by kernel_rfl
    have e2 : (opIxK "BOUNDS" tv_BOUNDS) (.glo "BOUNDS") (.str tHigh) s = .ok (.tup [.int 1, .int 999]) s := by kernel_rfl
    simp only [okz e, okz e2, z_ix_tup0, z_ix_tup1, is_from_z h, stp]
    exact q
  · have e : (opInK "BOUNDS" tv_BOUNDS) (.str tSize) (.glo "BOUNDS") s = .ok (.bl true) s := by kernel_rfl
    have e2 : (opIxK "BOUNDS" tv_BOUNDS) (.glo "BOUNDS") (.str tSize) s = .ok (.tup [.int 1, .int 99]) s := by kernel_rfl
    simp only [okz e, okz e2, z_ix_tup0, z_ix_tup1, is_from_z h, stp]
    exact q
  · have e : (opInK "BOUNDS" tv_BOUNDS) (.str tInk) (.glo "BOUNDS") s = .ok (.bl false) s := by kernel_rfl
    simp only [okz e, stp]
    exact is_name_d h q
theorem let_code (c : Char) : (!ltT ['z'] [c] && !ltT [c] ['a']) = decide (c ∈ lets) := by
  have e1 : ltT ['z'] [c] = decide (122 < c.toNat) := by
    unfold ltT
    congr 1
    simp [List.cons_lt_cons_iff]
  have e2 : ltT [c] ['a'] = decide (c.toNat < 97) := by
    unfold ltT
    congr 1
    simp [List.cons_lt_cons_iff]
  rw [e1, e2]
  have key : ∀ n : Fin 26, Char.ofNat (97 + n.val) ∈ lets := by decide +kernel
  have back : ∀ c ∈ lets, 97 ≤ c.toNat ∧ c.toNat ≤ 122 := by decide +kernel
  by_cases h : 97 ≤ c.toNat ∧ c.toNat ≤ 122
  · have hc : c ∈ lets := by
      have := key ⟨c.toNat - 97, by omega⟩
      have e : 97 + (c.toNat - 97) = c.toNat := by omega
      simp only [e] at this
      rwa [Char.ofNat_toNat] at this
    rw [decide_eq_true hc, decide_eq_false (by omega), decide_eq_false (by omega)]
    rfl
  · have hc : c ∉ lets := fun z => h (back c z)
    rw [decide_eq_false hc]
    by_cases h1 : 97 ≤ c.toNat
    · rw [decide_eq_true (show 122 < c.toNat by omega)]
      rfl
    · rw [decide_eq_true (show c.toNat < 97 by omega)]
      simp
end Mr

namespace Mr
open PySem PySem.Spec PyProof.Rows L2
structure Plc where
  name : Tx
  sets : List (Tx × D)
  lines : Option (List Tx)
def setD (p : Tx × D) : D := .tup [.str p.1, p.2]
def linesD : Option (List Tx) → D
  | none => .non
  | some l => .tup (l.map .str)
def Plc.d (p : Plc) : D := .tup [.str p.name, .tup (p.sets.map setD), linesD p.lines]
structure PlcOk (p : Plc) : Prop where
  sub : (p.sets.map (·.1)).Sublist traits
  ws : ∀ q ∈ p.sets, WorthOk q.1 q.2
  ls : ∀ l, p.lines = some l → l.length ≤ 12 ∧ ∀ t ∈ l, LineOk t
theorem traits_len : traits.length = 6 := rfl
theorem place_ok {k : Nat} {s : Store} {n : Tx} {Φ : D → Store → Prop} {Ξ : Xc → Store → Prop} (hp : PenOk k s) (hk : k ≤ 700000000) (h : ∀ (p : Plc) (s' : Store), p.name = n → PlcOk p → PenOk (k + 200) s' → Φ p.d s') : wp (m__law_place [.ref 0, .str n]) s Φ Ξ := by
  have ev : startE N__law_place [.ref 0, .str n] = [some (.ref 0), some (.str n), none, none] := rfl
  unfold m__law_place
  rw [wp_run, ev]
  unfold b__law_place
  rw [wpS_seq, wpS_set]
  simp only [wp_eUn, wp_eComp, wp_iSeq, wp_eFn, wp_lNil, traits_run, wp_seq_lst]
  refine comp_inv (fun j acc s => ∃ l : List (Tx × D), acc = l.map setD ∧ (l.map (·.1)).Sublist (traits.take j) ∧ (∀ q ∈ l, WorthOk q.1 q.2) ∧ PenOk (k + j * 8) s) ⟨[], rfl, List.Sublist.slnil, fun _ z => (by cases z), by simpa using hp⟩ (fun j d acc s' hj hI => ?_) fun ys s' hI => ?_
  · obtain ⟨l, rfl, hl, h1, hp4⟩ := hI
    have hjt : j < traits.length := by
      have := (List.getElem?_eq_some_iff.mp hj).1
      rwa [List.length_map] at this
    rw [List.getElem?_map, List.getElem?_eq_getElem hjt] at hj
    have hd : D.str traits[j] = d := Option.some.inj hj
    have hmem : traits[j] ∈ traits := List.getElem_mem hjt
    have htk : traits.take (j + 1) = traits.take j ++ [traits[j]] := List.take_succ_eq_append_getElem hjt
    rw [traits_len] at hjt
    generalize traits[j] = t at hd hmem htk
    subst hd
    refine ⟨_, rfl, ?_⟩
    have e2 : setAll [(3, D.str t)] (wipeE [some (.ref 0), some (.str n), none, none] [3]) = [some (.ref 0), some (.str n), none, some (.str t)] := rfl
    rw [e2]
    simp only [wp_tBin, wp_eFn, wp_lCons, wp_lNil, wp_eC, eVar_def, List.getElem?_cons_zero, wp_pure]
    refine draw_ok hp4 fun r1 s1 a1 b1 hp1 => ?_
    rw [wp_eq_int, wp_unB]
    split
    · simp only [wp_eTup, wp_lCons, wp_lNil, wp_eFn, eVar_def, List.getElem?_cons_zero, List.getElem?_cons_succ, wp_pure]
      refine worth_ok hp1 (by omega) hmem fun w s2 hw hp2 => ?_
      refine ⟨l ++ [(t, w)], by rw [List.map_append]; rfl, ?_, fun q hq => ?_, hp2.mono (by omega)⟩
      · rw [htk, List.map_append]
        exact hl.append (List.Sublist.refl _)
      · rcases List.mem_append.mp hq with hq | hq
        · exact h1 q hq
        · rw [List.mem_singleton.mp hq]; exact hw
    · refine ⟨l, rfl, ?_, h1, hp1.mono (by omega)⟩
      rw [htk]
      exact hl.trans (List.sublist_append_left _ _)
  · obtain ⟨l, rfl, hl, h1, hp4⟩ := hI
    rw [List.length_map, traits_len] at hp4
    have hl : (l.map (·.1)).Sublist traits := hl.trans (List.take_sublist _ _)
    simp only [wp_tuple_lst, List.set_cons_zero, List.set_cons_succ]
    rw [wpS_ret]
    simp only [wp_eTup, wp_lCons, wp_lNil, wp_eBin, wp_eLst, wp_eC, wp_eFn, eVar_def, List.getElem?_cons_zero, List.getElem?_cons_succ, wp_pure]
    refine lines_ok hp4 (by omega) fun ls s2 l1 l2 hp2 => ?_
    refine draw_ok hp2 fun r3 s3 a3 b3 hp3 => ?_
    refine ix_lst_any a3 (by simpa using b3) fun d hd => ?_
    have hd2 : ∃ o, d = linesD o ∧ ∀ l', o = some l' → l' = ls := by
      simp only [List.mem_cons, List.not_mem_nil, or_false] at hd
      rcases hd with rfl | rfl | rfl
      · exact ⟨none, rfl, fun _ e => (by cases e)⟩
      · exact ⟨none, rfl, fun _ e => (by cases e)⟩
      · exact ⟨some ls, rfl, fun _ e => (Option.some.inj e).symm⟩
    obtain ⟨o, rfl, ho⟩ := hd2
    exact h ⟨n, l, o⟩ _ rfl ⟨hl, h1, fun l' e => by cases ho l' e; exact ⟨l1, l2⟩⟩ (hp3.mono (by omega))
structure Mst where
  name : Tx
  over : Option Tx
  own : List Plc
def overD : Option Tx → D
  | none => .non
  | some t => .str t
def Mst.d (m : Mst) : D := .tup [.str m.name, overD m.over, .tup (m.own.map Plc.d)]
structure OwnOk (pool : List Tx) (m : Mst) : Prop where
  ok : ∀ p ∈ m.own, PlcOk p ∧ p.name ∈ pool
  nd : (m.own.map Plc.name).Nodup
  len : m.own.length ≤ 8
structure MstsOk (pool : List Tx) (ms : List Mst) : Prop where
  nd : (ms.map Mst.name).Nodup
  nm : ∀ m ∈ ms, isName m.name = true
  own : ∀ m ∈ ms, OwnOk pool m
  rk : ∃ rk : Tx → Nat, ∀ m ∈ ms, rk m.name < ms.length ∧ ∀ o, m.over = some o → (∃ m' ∈ ms, m'.name = o) ∧ rk o < rk m.name
theorem insAt_map {α : Type} (f : α → D) (x : α) (xs : List α) {r : Int} (h0 : 0 ≤ r) (h1 : r < xs.length + 1) (hl : xs.length < 1000) : insAt r (f x) (xs.map f) = some ((xs.take r.toNat ++ x :: xs.drop r.toNat).map f) := by
  unfold insAt ckLen
  have hlen : ((xs.map f).take r.toNat ++ f x :: (xs.map f).drop r.toNat).length ≤ sizeLine := by
    simp only [List.length_append, List.length_take, List.length_cons, List.length_drop, List.length_map]
    exact Nat.le_trans (show _ ≤ 2000 by omega) (by decide)
  rw [if_pos ⟨h0, by omega⟩, if_pos hlen, List.map_append, List.map_cons, List.map_take, List.map_drop]
theorem ins_perm {α : Type} (x : α) (xs : List α) (n : Nat) : (xs.take n ++ x :: xs.drop n).Perm (x :: xs) := by
  refine List.perm_middle.trans ?_
  rw [List.take_append_drop]
theorem idx_of {l : List Tx} (nd : l.Nodup) {b : Nat} {x : Tx} (h : l[b]? = some x) : l.idxOf x = b := by
  obtain ⟨hb, e⟩ := List.getElem?_eq_some_iff.mp h
  have hm : x ∈ l := e ▸ List.getElem_mem hb
  have hi : l.idxOf x < l.length := List.idxOf_lt_length_of_mem hm
  have e2 : l[l.idxOf x]? = some x := by
    rw [List.getElem?_eq_getElem hi, List.getElem_idxOf hi]
  rcases Nat.lt_trichotomy (l.idxOf x) b with h1 | h1 | h1
  · exact absurd (e2.trans h.symm) (nodup_at nd _ _ h1 hb)
  · exact h1
  · exact absurd (h.trans e2.symm) (nodup_at nd _ _ h1 hi)
theorem masters_okN {k : Nat} {s : Store} {most : Int} {pool : List Tx} {Φ : D → Store → Prop} {Ξ : Xc → Store → Prop} (hp : PenOk k s) (hk : k ≤ 600000000) (m0 : 0 < most) (m1 : most ≤ 12) (hpl : pool.length ≤ 30) (pnd : pool.Nodup)
    (h : ∀ (ms : List Mst) (s' : Store), MstsOk pool ms → (∀ m ∈ ms, drawnB m.name = true) → 1 ≤ ms.length → ms.length ≤ most.toNat → PenOk (k + 100000) s' → Φ (.tup (ms.map Mst.d)) s') : wp (m__law_masters [.ref 0, .int most, .lst (pool.map .str)]) s Φ Ξ := by
  have ev : startE N__law_masters [.ref 0, .int most, .lst (pool.map .str)] = [some (.ref 0), some (.int most), some (.lst (pool.map .str)), none, none, none, none, none, none] := rfl
  unfold m__law_masters
  rw [wp_run, ev]
  unfold b__law_masters
  rw [wpS_seq, wpS_set]
  simp only [wp_eFn, wp_lCons, wp_lNil, wp_eBin, wp_eC, eVar_def, List.getElem?_cons_zero, List.getElem?_cons_succ, wp_pure]
  refine draw_ok hp fun r1 s1 a1 b1 hp1 => ?_
  rw [wp_add_int]
  refine names_ok hp1 (by omega) (by omega) (by omega) fun names s2 hnl hnm hp2 => ?_
  have hp2 : PenOk (k + 20) s2 := hp2.mono (by omega)
  have hn12 : 1 ≤ names.length ∧ names.length ≤ most.toNat := by omega
  simp only [List.set_cons_zero, List.set_cons_succ]
  rw [wpS_seq, wpS_set]
  simp only [wp_eLst, wp_lNil, List.set_cons_zero, List.set_cons_succ]
  rw [wpS_seq, wpS_for]
  simp only [wp_iRng, wp_eUn, eVar_def, List.getElem?_cons_zero, List.getElem?_cons_succ, wp_pure, wp_len_lst, List.length_map]
  rw [wp_rng1 ⟨by omega, by omega⟩]
  refine for_one (fun j e s => ∃ (made : List Mst) (x5 x6 x7 x8 : Option D), e = [some (.ref 0), some (.int most), some (.lst (pool.map .str)), some (.lst (names.map .str)), some (.lst (made.map Mst.d)), x5, x6, x7, x8] ∧ (made.map Mst.name).Perm (names.take j) ∧ (∀ m ∈ made, OwnOk pool m) ∧
      (∀ m ∈ made, ∀ o, m.over = some o → ∃ a b, a < b ∧ b < j ∧ names[b]? = some m.name ∧ names[a]? = some o) ∧ PenOk (k + 20 + j * 7000) s) ⟨[], none, none, none, none, rfl, List.Perm.refl _, fun _ z => (by cases z), fun _ z => (by cases z), by simpa using hp2⟩ (fun j d e s hj hI => ?_) fun e s hI => ?_
  · obtain ⟨made, x5, x6, x7, x8, rfl, hperm, hown, hov, hp3⟩ := hI
    obtain ⟨hjn, rfl⟩ := nums_get hj
    rw [Int.toNat_natCast] at hjn
    have hml : made.length = j := by
      have := hperm.length_eq
      rw [List.length_map, List.length_take] at this
      omega
    have e0 : (0 : Int) + (j : Nat) = (j : Nat) := by omega
    rw [e0]
    simp only [List.set_cons_zero, List.set_cons_succ]
    rw [wpS_seq, wpS_set, wp_eC]
    simp only [List.set_cons_zero, List.set_cons_succ]
    -- over
    have step : ∀ (o : Option Tx) (s : Store), (∀ t, o = some t → ∃ a, a < j ∧ names[a]? = some t) → PenOk (k + 20 + j * 7000 + 3) s →
        wpS (sSeq (sSet 7 (eLst lNil))
  (sSeq (sFor (iSeq (eVar 2)) (gOne 8)
  (sIf (tAnd' (tBin opEq (eFn m__law_draw (lCons (eVar 0) (lCons (eC (.int (3))) lNil))) (eC (.int (0)))) (tBin opLt (eUn fLen (eVar 7)) (eC (.int (8)))))
  (gd 7 (sIns 7 (eFn m__law_draw (lCons (eVar 0) (lCons (eBin opAdd (eUn fLen (eVar 7)) (eC (.int (1)))) lNil))) (eFn m__law_place (lCons (eVar 0) (lCons (eVar 8) lNil)))))
  sNext))
  (gd 4 (sIns 4 (eFn m__law_draw (lCons (eVar 0) (lCons (eBin opAdd (eUn fLen (eVar 4)) (eC (.int (1)))) lNil))) (eTup (lCons (eBin opIx (eVar 3) (eVar 5)) (lCons (eVar 6) (lCons (eUn fTuple (eVar 7)) lNil))))))))
          [some (.ref 0), some (.int most), some (.lst (pool.map .str)), some (.lst (names.map .str)), some (.lst (made.map Mst.d)), some (.int (j : Nat)), some (overD o), x7, x8] s
          { nx := fun e s => ∃ (made : List Mst) (x5 x6 x7 x8 : Option D), e = [some (.ref 0), some (.int most), some (.lst (pool.map .str)), some (.lst (names.map .str)), some (.lst (made.map Mst.d)), x5, x6, x7, x8] ∧ (made.map Mst.name).Perm (names.take (j + 1)) ∧ (∀ m ∈ made, OwnOk pool m) ∧
      (∀ m ∈ made, ∀ o, m.over = some o → ∃ a b, a < b ∧ b < j + 1 ∧ names[b]? = some m.name ∧ names[a]? = some o) ∧ PenOk (k + 20 + (j + 1) * 7000) s, rt := Φ } := by
      intro o s ho hp4
      rw [wpS_seq, wpS_set]
      simp only [wp_eLst, wp_lNil, List.set_cons_zero, List.set_cons_succ]
      rw [wpS_seq, wpS_for]
      simp only [wp_iSeq, eVar_def, List.getElem?_cons_zero, List.getElem?_cons_succ, wp_pure, wp_seq_lst]
      refine for_one (fun i e s => ∃ (own : List Plc) (y8 : Option D), e = [some (.ref 0), some (.int most), some (.lst (pool.map .str)), some (.lst (names.map .str)), some (.lst (made.map Mst.d)), some (.int (j : Nat)), some (overD o), some (.lst (own.map Plc.d)), y8] ∧ (∀ p ∈ own, PlcOk p ∧ p.name ∈ pool.take i) ∧ (own.map Plc.name).Nodup ∧ own.length ≤ 8 ∧ PenOk (k + 20 + j * 7000 + 3 + i * 202) s)
        ⟨[], _, rfl, fun _ z => (by cases z), List.nodup_nil, by simp, by simpa using hp4⟩ (fun i d e s hi hI => ?_) fun e s hI => ?_
      · obtain ⟨own, y8, rfl, h1, h2, h3, hp5⟩ := hI
        have hip : i < pool.length := by
          have := (List.getElem?_eq_some_iff.mp hi).1
          rwa [List.length_map] at this
        rw [List.getElem?_map, List.getElem?_eq_getElem hip] at hi
        have hd : D.str pool[i] = d := Option.some.inj hi
        have htk : pool.take (i + 1) = pool.take i ++ [pool[i]] := List.take_succ_eq_append_getElem hip
        have hnot : pool[i] ∉ pool.take i := fun hm => by
          obtain ⟨a, ea⟩ := List.getElem?_of_mem hm
          rw [List.getElem?_take] at ea
          split at ea
          · rename_i hai
            exact nodup_at pnd a i hai hip (ea.trans (List.getElem?_eq_getElem hip).symm)
          · cases ea
        generalize pool[i] = t at hd htk hnot
        subst hd
        have keep : ∀ (own' : List Plc) (y : Option D) (s : Store), own' = own → PenOk (k + 20 + j * 7000 + 3 + i * 202 + 1) s → ∃ (own : List Plc) (y8 : Option D), [some (.ref 0), some (.int most), some (.lst (pool.map .str)), some (.lst (names.map .str)), some (.lst (made.map Mst.d)), some (.int (j : Nat)), some (overD o), some (D.lst (own'.map Plc.d)), y] = [some (.ref 0), some (.int most), some (.lst (pool.map .str)), some (.lst (names.map .str)), some (.lst (made.map Mst.d)), some (.int (j : Nat)), some (overD o), some (.lst (own.map Plc.d)), y8] ∧ (∀ p ∈ own, PlcOk p ∧ p.name ∈ pool.take (i + 1)) ∧ (own.map Plc.name).Nodup ∧ own.length ≤ 8 ∧ PenOk (k + 20 + j * 7000 + 3 + (i + 1) * 202) s := by
          rintro own' y s rfl hq
          refine ⟨own', y, rfl, fun p hp => ⟨(h1 p hp).1, ?_⟩, h2, h3, hq.mono (by omega)⟩
          rw [htk]
          exact List.mem_append_left _ (h1 p hp).2
        simp only [List.set_cons_zero, List.set_cons_succ]
        rw [wpS_if]
        simp only [wp_tAnd, wp_tBin, wp_eFn, wp_lCons, wp_lNil, wp_eC, eVar_def, List.getElem?_cons_zero, wp_pure]
        refine draw_ok hp5 fun r6 s6 a6 b6 hp6 => ?_
        rw [wp_eq_int, wp_unB]
        split
        · simp only [wp_tBin, wp_eUn, wp_eC, eVar_def, List.getElem?_cons_zero, List.getElem?_cons_succ, wp_pure, wp_len_lst, wp_lt_int, wp_unB, List.length_map]
          by_cases h8 : own.length < 8
          · have h8' : ((own.length : Nat) : Int) < 8 := by omega
            simp only [decide_eq_true h8', if_true]
            rw [wpS_gd_of (xs := own.map Plc.d) rfl, wpS_ins]
            simp only [wp_eFn, wp_lCons, wp_lNil, wp_eBin, wp_eUn, wp_eC, eVar_def, List.getElem?_cons_zero, List.getElem?_cons_succ, wp_pure, wp_len_lst, wp_add_int, List.length_map]
            refine draw_ok hp6 fun r7 s7 a7 b7 hp7 => ?_
            refine place_ok hp7 (by omega) fun p s8 hpn hpo hp8 => ?_
            dsimp only
            rw [chK_of (xs := own.map Plc.d) rfl (insAt_map Plc.d p own a7 b7 (by omega))]
            simp only [List.set_cons_zero, List.set_cons_succ]
            have hpm := ins_perm p own r7.toNat
            generalize own.take r7.toNat ++ p :: own.drop r7.toNat = own2 at hpm ⊢
            refine ⟨own2, _, rfl, fun q hq => ?_, ?_, ?_, hp8.mono (by omega)⟩
            · rw [htk]
              rcases List.mem_cons.mp (hpm.mem_iff.mp hq) with rfl | hq
              · exact ⟨hpo, List.mem_append_right _ (by rw [hpn]; exact List.mem_singleton.mpr rfl)⟩
              · exact ⟨(h1 q hq).1, List.mem_append_left _ (h1 q hq).2⟩
            · refine ((hpm.map Plc.name).nodup_iff).mpr ?_
              rw [List.map_cons]
              refine List.nodup_cons.mpr ⟨fun hm => ?_, h2⟩
              obtain ⟨q, hq, e⟩ := List.mem_map.mp hm
              exact hnot (by rw [← hpn, ← e]; exact (h1 q hq).2)
            · rw [hpm.length_eq, List.length_cons]
              omega
          · have h8' : ¬ ((own.length : Nat) : Int) < 8 := by omega
            simp only [decide_eq_false h8', Bool.false_eq_true, if_false, wpS_nx]
            exact keep own _ _ rfl hp6
        · simp only [Bool.false_eq_true, if_false, wpS_nx]
          exact keep own _ _ rfl hp6
      · obtain ⟨own, y8, rfl, h1, h2, h3, hp5⟩ := hI
        rw [List.length_map] at h1 hp5
        rw [List.take_length] at h1
        dsimp only
        rw [wpS_gd_of (xs := made.map Mst.d) rfl, wpS_ins]
        simp only [wp_eFn, wp_lCons, wp_lNil, wp_eBin, wp_eUn, wp_eC, wp_eTup, eVar_def, List.getElem?_cons_zero, List.getElem?_cons_succ, wp_pure, wp_len_lst, wp_add_int, List.length_map]
        refine draw_ok hp5 fun r7 s7 a7 b7 hp7 => ?_
        have hjl : ((j : Nat) : Int).toNat < (names.map D.str).length := by rw [List.length_map]; omega
        rw [wp_ix_lst (atI_some (by omega) hjl)]
        simp only [wp_tuple_lst, List.getElem_map, Int.toNat_natCast]
        have hd : D.tup [.str names[j], overD o, .tup (own.map Plc.d)] = Mst.d ⟨names[j], o, own⟩ := rfl
        rw [hd, chK_of (xs := made.map Mst.d) rfl (insAt_map Mst.d ⟨names[j], o, own⟩ made a7 b7 (by omega))]
        simp only [List.set_cons_zero, List.set_cons_succ]
        have hpm := ins_perm (⟨names[j], o, own⟩ : Mst) made r7.toNat
        generalize made.take r7.toNat ++ (⟨names[j], o, own⟩ : Mst) :: made.drop r7.toNat = made2 at hpm ⊢
        refine ⟨made2, _, _, _, _, rfl, ?_, fun m hm => ?_, fun m hm t ht => ?_, hp7.mono (by omega)⟩
        · refine (hpm.map Mst.name).trans ?_
          rw [List.take_succ_eq_append_getElem hjn, List.map_cons]
          exact (List.Perm.cons _ hperm).trans (List.perm_append_singleton _ _).symm
        · rcases List.mem_cons.mp (hpm.mem_iff.mp hm) with rfl | hm
          · exact ⟨fun p hp => h1 p hp, h2, h3⟩
          · exact hown m hm
        · rcases List.mem_cons.mp (hpm.mem_iff.mp hm) with rfl | hm
          · obtain ⟨a, ha, e⟩ := ho t ht
            exact ⟨a, j, ha, by omega, List.getElem?_eq_getElem hjn, e⟩
          · obtain ⟨a, b, q1, q2, q3, q4⟩ := hov m hm t ht
            exact ⟨a, b, q1, by omega, q3, q4⟩
    rw [wpS_seq, wpS_if]
    simp only [wp_tAnd, wp_tBin, wp_eC, eVar_def, List.getElem?_cons_zero, List.getElem?_cons_succ, wp_pure, wp_gt_int, wp_unB]
    by_cases hj0 : 0 < j
    · have hj0' : (0 : Int) < (j : Nat) := by omega
      simp only [decide_eq_true hj0', if_true, wp_tBin, wp_eFn, wp_lCons, wp_lNil, wp_eC, eVar_def, List.getElem?_cons_zero, wp_pure]
      refine draw_ok hp3 fun r4 s4 a4 b4 hp4 => ?_
      rw [wp_gt_int, wp_unB]
      split
      · rw [wpS_set]
        simp only [wp_eBin, wp_eLst, wp_lCons, wp_lNil, wp_eC, wp_eFn, eVar_def, List.getElem?_cons_zero, List.getElem?_cons_succ, wp_pure, wp_sub_int]
        refine draw_ok hp4 fun r5 s5 a5 b5 hp5 => ?_
        refine draw_ok hp5 fun r6 s6 a6 b6 hp6 => ?_
        refine ix_lst_any a6 (by simpa using b6) fun d hd => ?_
        have hd2 : ∃ a : Nat, d = .int (a : Nat) ∧ a < j := by
          simp only [List.mem_cons, List.not_mem_nil, or_false] at hd
          rcases hd with rfl | rfl
          · exact ⟨j - 1, by congr 1; omega, by omega⟩
          · exact ⟨r5.toNat, by congr 1; omega, by omega⟩
        obtain ⟨a, rfl, ha⟩ := hd2
        have hal : ((a : Nat) : Int).toNat < (names.map D.str).length := by rw [List.length_map]; omega
        rw [wp_ix_lst (atI_some (by omega) hal)]
        simp only [List.getElem_map, Int.toNat_natCast, List.set_cons_zero, List.set_cons_succ]
        exact wpS_mono (step (some (names[a]'(by omega))) s6 (fun t ht => ⟨a, ha, by rw [← ht]; exact List.getElem?_eq_getElem _⟩) (hp6.mono (by omega))) (fun _ _ z => z) (fun _ _ z => z) (fun _ _ z => z.elim) (fun _ _ z => z.elim) (fun _ _ _ z => z.elim)
      · rw [wpS_nx]
        exact wpS_mono (step none s4 (fun t ht => by cases ht) (hp4.mono (by omega))) (fun _ _ z => z) (fun _ _ z => z) (fun _ _ z => z.elim) (fun _ _ z => z.elim) (fun _ _ _ z => z.elim)
    · have hj0' : ¬ (0 : Int) < (j : Nat) := by omega
      simp only [decide_eq_false hj0', Bool.false_eq_true, if_false, wpS_nx]
      exact wpS_mono (step none s (fun t ht => by cases ht) (hp3.mono (by omega))) (fun _ _ z => z) (fun _ _ z => z) (fun _ _ z => z.elim) (fun _ _ z => z.elim) (fun _ _ _ z => z.elim)
  · obtain ⟨made, x5, x6, x7, x8, rfl, hperm, hown, hov, hp3⟩ := hI
    rw [nums_length, Int.toNat_natCast] at hperm hov hp3
    rw [List.take_length] at hperm
    have hml : made.length = names.length := by
      have := hperm.length_eq
      rwa [List.length_map] at this
    dsimp only
    rw [wpS_ret]
    simp only [wp_eUn, eVar_def, List.getElem?_cons_zero, List.getElem?_cons_succ, wp_pure, wp_tuple_lst]
    refine h made s ⟨hperm.nodup_iff.mpr hnm.nd, fun m hm => hnm.ok _ (hperm.mem_iff.mp (List.mem_map_of_mem hm)), hown, fun x => names.idxOf x, fun m hm => ⟨?_, fun o ho => ?_⟩⟩ (fun m hm => hnm.dr _ (hperm.mem_iff.mp (List.mem_map_of_mem hm))) (by omega) (by omega) (hp3.mono (by omega))
    · rw [hml]
      exact List.idxOf_lt_length_of_mem (hperm.mem_iff.mp (List.mem_map_of_mem hm))
    · obtain ⟨a, b, q1, q2, q3, q4⟩ := hov m hm o ho
      refine ⟨?_, ?_⟩
      · have : o ∈ made.map Mst.name := hperm.mem_iff.mpr (List.mem_of_getElem? q4)
        obtain ⟨m', h1, h2⟩ := List.mem_map.mp this
        exact ⟨m', h1, h2⟩
      · show names.idxOf o < names.idxOf m.name
        rw [idx_of hnm.nd q3, idx_of hnm.nd q4]
        exact q1
end Mr

namespace Mr
open PySem PySem.Spec PyProof.Rows L2
def Kp (o : Option D) (S : Ev → Prop) (s : Store) : Kt := { nx := fun e s' => o = none ∧ S e ∧ s' = s, rt := fun d s' => o = some d ∧ s' = s }
theorem for_first {α : Type} {f : α → D} {g : GM} {b : SM} {s : Store} (S : Ev → Prop) (p : α → Option D) : ∀ (l : List α) (e : Ev), S e → (∀ a ∈ l, ∀ e, S e → ∃ lst, g (f a) = some lst ∧ wpS b (setAll lst e) s (Kp (p a) S s)) → wpS (forL g b (l.map f)) e s (Kp (l.findSome? p) S s)
  | [], e, he, _ => ⟨rfl, he, rfl⟩
  | a :: l, e, he, step => by
    rw [List.map_cons, wpS_forCons]
    obtain ⟨lst, h1, h2⟩ := step a (List.mem_cons_self ..) e he
    rw [h1]
    simp only
    cases hp : p a with
    | none =>
      rw [hp] at h2
      have e1 : (a :: l).findSome? p = l.findSome? p := by rw [List.findSome?_cons, hp]
      rw [e1]
      refine wpS_mono h2 (fun e s' ⟨_, q, z⟩ => ?_) (fun d s' ⟨z, _⟩ => by cases z) (fun _ _ z => z.elim) (fun _ _ z => z.elim) (fun _ _ _ z => z.elim)
      subst z
      exact for_first S p l e q fun a ha e he => step a (List.mem_cons_of_mem _ ha) e he
    | some r =>
      rw [hp] at h2
      have e1 : (a :: l).findSome? p = some r := by rw [List.findSome?_cons, hp]
      rw [e1]
      exact wpS_mono h2 (fun e s' ⟨z, _⟩ => by cases z) (fun d s' z => z) (fun _ _ z => z.elim) (fun _ _ z => z.elim) (fun _ _ _ z => z.elim)
theorem first_then {o : Option D} {S : Ev → Prop} {s : Store} {b : SM} {e : Ev} {k : Kt} (h : wpS b e s (Kp o S s)) (h1 : ∀ r, o = some r → k.rt r s) (h2 : o = none → ∀ e, S e → k.nx e s) : wpS b e s k :=
  wpS_mono h (fun e s' ⟨z, q, w⟩ => by subst w; exact h2 z e q) (fun d s' ⟨z, w⟩ => by subst w; exact h1 d z) (fun _ _ z => z.elim) (fun _ _ z => z.elim) (fun _ _ _ z => z.elim)
theorem plain_texts : ∀ l : List Tx, D.plainL (l.map D.str) = true
  | [] => by simp [D.plainL]
  | x :: l => by simp [D.plainL, D.plain, plain_texts l]
theorem depth_texts : ∀ l : List Tx, D.depthL (l.map D.str) = 0
  | [] => by simp [D.depthL]
  | x :: l => by simp [D.depthL, D.depth, depth_texts l]
theorem okD_texts (l : List Tx) : D.okD (.lst (l.map D.str)) = true := by simp [D.okD, D.plain, D.depth, plain_texts, depth_texts]
theorem okD_str (x : Tx) : D.okD (.str x) = true := by simp [D.okD, D.plain, D.depth]
theorem dIn_texts (x : Tx) (l : List Tx) : dIn (.str x) (l.map D.str) = decide (x ∈ l) := by
  unfold dIn
  induction l with
  | nil => rfl
  | cons y l ih =>
    rw [List.map_cons, List.any_cons, ih]
    simp only [D.eqv]
    by_cases h : x = y
    · subst h; simp
    · have : (y == x) = false := by
        cases q : y == x with
        | false => rfl
        | true => exact absurd (beq_iff_eq.mp q).symm h
      simp [this, h]
def msD (ms : List Mst) : D := .tup (ms.map Mst.d)
def findM (ms : List Mst) (n : Tx) : Option Mst := ms.find? fun m => m.name == n
def chainL (ms : List Mst) : Nat → Option Tx → List Mst
  | 0, _ => []
  | _ + 1, none => []
  | n + 1, some t => match findM ms t with
    | some m => m :: chainL ms n m.over
    | none => []
section
variable {s : Store} {Φ : D → Store → Prop} {Ξ : Xc → Store → Prop}
theorem mst_ix0 (m : Mst) : wp (opIx m.d (.int 0)) s Φ Ξ = Φ (.str m.name) s := wp_ix_tup0 _ _
theorem mst_ix1 (m : Mst) : wp (opIx m.d (.int 1)) s Φ Ξ = Φ (overD m.over) s := wp_ix_tup1 _ _ _
theorem find_first (ms : List Mst) (n : Tx) : (ms.findSome? fun m => if m.name == n then some m.d else none) = (findM ms n).map Mst.d := by
  unfold findM
  induction ms with
  | nil => rfl
  | cons m ms ih =>
    rw [List.findSome?_cons, List.find?_cons]
    cases m.name == n with
    | true => rfl
    | false => exact ih
theorem master_by_ok (ms : List Mst) (n : Tx) (h : Φ (match findM ms n with
    | some m => m.d
    | none => .non) s) : wp (m_master_by [msD ms, .str n]) s Φ Ξ := by
  have ev : startE N_master_by [msD ms, .str n] = [some (msD ms), some (.str n), none] := rfl
  unfold m_master_by
  rw [wp_run, ev]
  unfold b_master_by
  rw [wpS_seq, wpS_for]
  simp only [wp_iSeq, eVar_def, List.getElem?_cons_zero, wp_pure]
  unfold msD
  rw [wp_seq_tup]
  refine first_then (for_first (fun e => ∃ x, e = [some (.tup (ms.map Mst.d)), some (.str n), x]) (fun m => if m.name == n then some m.d else none) ms _ ⟨none, rfl⟩ fun m _ e he => ?_) (fun r hr => ?_) fun hr e he => ?_
  · obtain ⟨x, rfl⟩ := he
    refine ⟨_, rfl, ?_⟩
    have e1 : setAll [(2, m.d)] [some (D.tup (ms.map Mst.d)), some (.str n), x] = [some (D.tup (ms.map Mst.d)), some (.str n), some m.d] := rfl
    rw [e1, wpS_if]
    simp only [wp_tBin, wp_eBin, wp_eC, eVar_def, List.getElem?_cons_zero, List.getElem?_cons_succ, wp_pure, mst_ix0, wp_eq_str, wp_unB]
    split
    · rename_i hq
      rw [wpS_ret]
      simp only [eVar_def, List.getElem?_cons_zero, List.getElem?_cons_succ, wp_pure, hq, if_true]
      exact ⟨rfl, rfl⟩
    · rename_i hq
      rw [wpS_nx]
      exact ⟨by first | rfl | rw [if_neg hq], ⟨_, rfl⟩, rfl⟩
  · rw [find_first] at hr
    cases q : findM ms n with
    | none => rw [q] at hr; cases hr
    | some m =>
      rw [q] at hr h
      cases hr
      exact h
  · rw [find_first] at hr
    cases q : findM ms n with
    | some m => rw [q] at hr; cases hr
    | none =>
      rw [q] at h
      dsimp only
      rw [wpS_ret, wp_eC]
      exact h
structure Rk (ms : List Mst) (rk : Tx → Nat) : Prop where
  h : ∀ m ∈ ms, rk m.name < ms.length ∧ ∀ o, m.over = some o → (∃ m' ∈ ms, m'.name = o) ∧ rk o < rk m.name
def At1 (ms : List Mst) (rk : Tx → Nat) (n : Nat) (o : Option Tx) : Prop := ∀ t, o = some t → (∃ m ∈ ms, m.name = t) ∧ rk t < n
theorem chainL_mem {ms : List Mst} : ∀ (n : Nat) (o : Option Tx), ∀ m ∈ chainL ms n o, m ∈ ms
  | 0, _, m, h => by cases h
  | n + 1, none, m, h => by cases h
  | n + 1, some t, m, h => by
    unfold chainL at h
    cases q : findM ms t with
    | none => rw [q] at h; cases h
    | some m' =>
      rw [q] at h
      rcases List.mem_cons.mp h with rfl | h
      · exact List.mem_of_find?_eq_some q
      · exact chainL_mem n _ m h
theorem At1.zero {ms : List Mst} {rk : Tx → Nat} {o : Option Tx} (h : At1 ms rk 0 o) : o = none := by
  cases o with
  | none => rfl
  | some t => exact absurd (h t rfl).2 (Nat.not_lt_zero _)
end
end Mr

namespace Mr
open PySem PySem.Spec PyProof.Rows L2
section
variable {s : Store} {Φ : D → Store → Prop} {Ξ : Xc → Store → Prop} {ms : List Mst} {rk : Tx → Nat}
def chain (ms : List Mst) (t : Tx) : List Mst := chainL ms (ms.length + 1) (some t)
structure Here1 (ms : List Mst) (rk : Tx → Nat) (t : Tx) : Prop where
  R : Rk ms rk
  len : ms.length ≤ 40
  mem : ∃ m ∈ ms, m.name = t
theorem Here1.at {t : Tx} (h : Here1 ms rk t) : At1 ms rk (ms.length + 1) (some t) := fun x e => by
  cases e
  refine ⟨h.mem, ?_⟩
  obtain ⟨m, h1, h2⟩ := h.mem
  have := (h.R.h m h1).1
  rw [h2] at this
  omega
theorem chain_mem {t : Tx} {m : Mst} (h : m ∈ chain ms t) : m ∈ ms := chainL_mem _ _ m h
def addPl (acc : List Tx) (m : Mst) : List Tx := acc ++ (m.own.map Plc.name).filter fun x => decide (x ∉ acc)
def placesL (ch : List Mst) : List Tx := ch.reverse.foldl addPl []
theorem mem_fold (x : Tx) : ∀ (l : List Mst) (acc : List Tx), x ∈ l.foldl addPl acc ↔ x ∈ acc ∨ ∃ m ∈ l, ∃ p ∈ m.own, p.name = x
  | [], acc => by simp
  | m :: l, acc => by
    rw [List.foldl_cons, mem_fold x l]
    unfold addPl
    rw [List.mem_append, List.mem_filter, List.mem_map]
    constructor
    · rintro ((h | ⟨⟨p, h1, h2⟩, _⟩) | ⟨m', h1, h2⟩)
      · exact .inl h
      · exact .inr ⟨m, List.mem_cons_self .., p, h1, h2⟩
      · exact .inr ⟨m', List.mem_cons_of_mem _ h1, h2⟩
    · rintro (h | ⟨m', h1, p, h2, h3⟩)
      · exact .inl (.inl h)
      · rcases List.mem_cons.mp h1 with rfl | h1
        · by_cases hx : x ∈ acc
          · exact .inl (.inl hx)
          · exact .inl (.inr ⟨⟨p, h2, h3⟩, by simpa using hx⟩)
        · exact .inr ⟨m', h1, p, h2, h3⟩
theorem mem_places (x : Tx) (ch : List Mst) : x ∈ placesL ch ↔ ∃ m ∈ ch, ∃ p ∈ m.own, p.name = x := by
  unfold placesL
  rw [mem_fold]
  simp
end
end Mr

namespace Mr
open PySem PySem.Spec PyProof.Rows L2
theorem of_wz {α : Type} {m : M α} {s : Store} {Φ : α → Store → Prop} (h : wz m s Φ fun _ _ => False) : ∃ a s', m s = .ok a s' ∧ Φ a s' := by
  unfold wz wp at h
  cases e : m s with
  | ok a s' => rw [e] at h; exact ⟨a, s', rfl, h⟩
  | exc x s' => rw [e] at h; exact h.elim
  | bad => rw [e] at h; exact h.elim
end Mr

namespace Mr
open PySem PySem.Spec PyProof PyProof.Rows L2
theorem takeWhile_all {α : Type} {p : α → Bool} : ∀ {l : List α}, (∀ x ∈ l, p x = true) → l.takeWhile p = l
  | [], _ => rfl
  | x :: l, h => by
    rw [List.takeWhile_cons, if_pos (h x (List.mem_cons_self ..)), takeWhile_all fun y hy => h y (List.mem_cons_of_mem _ hy)]
theorem strip_nil {a b : Tx} (h : ∀ c ∈ a, c ∈ b) : Txt.stripChars (toS a) (toS b) = toS [] := by
  have go : ∀ x ∈ (toS a).cps.toList, (toS b).cps.contains x = true := fun x hx => by
    have hx : x ∈ a.map Char.toNat := by simpa [toS] using hx
    obtain ⟨c, hc, rfl⟩ := List.mem_map.mp hx
    have : c.toNat ∈ b.map Char.toNat := List.mem_map_of_mem (h c hc)
    simpa [toS] using this
  show Txt.stripBy (toS b).cps.contains true true (toS a) = _
  rw [stripBy_eq]
  have lo : stripLo (toS b).cps.contains true (toS a) = (toS a).length := by
    show ((toS a).cps.toList.takeWhile (toS b).cps.contains).length = _
    rw [takeWhile_all go]
    rfl
  rw [lo]
  have hi := (hi_facts (toS b).cps.contains (toS a) (toS a).length (Nat.le_refl _)).2.1
  show Str.mk ((toS a).cps.extract (toS a).length _) = _
  have : (toS a).cps.extract (toS a).length (stripHi (toS b).cps.contains true (toS a) (toS a).length) = #[] := by
    refine Array.extract_eq_empty_of_le ?_
    omega
  rw [this]
  rfl
theorem strip_run {a b : Tx} (h : ∀ c ∈ a, c ∈ b) (s : Store) : fStrip (.str a) (.str b) s = .ok (.str []) s := by
  have e1 : stripT a b = [] := by
    unfold stripT
    rw [strip_nil h]
    rfl
  show (if toS (stripT a b) = Txt.stripChars (toS a) (toS b) ∧ (stripT a b).length ≤ 1000000 then (pure (.str (stripT a b)) : M D) else bad) s = _
  rw [if_pos ⟨by rw [e1, strip_nil h], by rw [e1]; decide⟩, e1]
  rfl
section
variable {s : Store} {Φ : D → Store → Prop} {Ξ : Xc → Store → Prop}
theorem written_z {t : Tx} {n : Nat} (hl : t.length ≤ n) (hc : ∀ c ∈ t, c ∈ okSigns) (q : Φ (.bl true) s) : wz (m_is_written [.str t, .int (n : Int)]) s Φ Ξ := by
  simp only [m_is_written, N_is_written, b_is_written, stp]
  have h1 : ((t.length : Nat) : Int) ≤ (n : Int) := by omega
  simp only [decide_eq_true h1, stp]
  refine (okz (strip_run (b := okSigns) hc s)).mpr ?_
  try simp only [stp]
  exact q
def LinesOk (l : List Tx) : Prop := l.length ≤ 12 ∧ ∀ t ∈ l, LineOk t
theorem is_lines_z {l : List Tx} (h : LinesOk l) (q : Φ (.bl true) s) : wz (m_is_lines [.tup (l.map .str)]) s Φ Ξ := by
  simp only [m_is_lines, N_is_lines, b_is_lines, stp]
  have h1 : ¬ ((12 : Int) < (((l.map D.str).length : Nat) : Int)) := by
    rw [List.length_map]
    have := h.1
    omega
  simp only [Bool.not_true, decide_eq_false h1, stp]
  refine comp_fm (f := D.str) (l := l) (fun _ => some (.bl true)) (fun t ht => ?_) ?_
  · simp only [gOne, wipeE, List.foldl_cons, List.foldl_nil, stp]
    exact written_z (n := 60) (h.2 t ht).len (h.2 t ht).ok ⟨rfl, rfl⟩
  · try simp only [stp]
    refine all_fm (f := fun _ => true) ?_
    rw [List.all_eq_true.mpr fun _ _ => rfl]
    exact q
def riseI (l : List Int) : Bool := (List.range (l.length - 1)).all fun k => decide (l.getD k 0 < l.getD (k + 1) 0)
theorem atI_nat {α : Type} {l : List α} {k : Nat} {d : α} (h : l[k]? = some d) : L2.atI l ((k : Nat) : Int) = some d := by
  have hk := (List.getElem?_eq_some_iff.mp h).1
  unfold atI ixN
  rw [if_pos (by omega), if_pos (by omega)]
  exact h
theorem rise_z {ds : List D} {f : Nat → Bool} (hl : ds.length ≤ 1000) (h : ∀ (k : Nat) (x y : D), ds[k]? = some x → ds[k + 1]? = some y → opLtX x y s = .ok (.bl (f k)) s) (q : Φ (.bl ((List.range (ds.length - 1)).all f)) s) : wz (m_rise [.lst ds]) s Φ Ξ := by
  simp only [m_rise, N_rise, b_rise, stp]
  have en : (((ds.length : Nat) : Int) - 1).toNat = ds.length - 1 := by omega
  rw [z_rng1 ⟨by omega, by omega⟩, en]
  refine comp_fm (f := fun k : Nat => D.int (0 + (k : Int))) (l := List.range (ds.length - 1)) (fun k => some (.bl (f k))) (fun k hk => ?_) ?_
  · have hk := List.mem_range.mp hk
    have e1 : ds[k]? = some ds[k] := List.getElem?_eq_getElem (by omega)
    have e2 : ds[k + 1]? = some ds[k + 1] := List.getElem?_eq_getElem (by omega)
    have e3 : (0 : Int) + (k : Int) = ((k : Nat) : Int) := by omega
    have e4 : (0 : Int) + (k : Int) + 1 = ((k + 1 : Nat) : Int) := by omega
    simp only [gOne, wipeE, List.foldl_cons, List.foldl_nil, stp]
    rw [e3, z_ix_lst (atI_nat e1)]
    try simp only [stp]
    have e5 : ((k : Nat) : Int) + 1 = ((k + 1 : Nat) : Int) := by omega
    rw [e5, z_ix_lst (atI_nat e2)]
    rw [okz (h k _ _ e1 e2)]
    exact ⟨rfl, rfl⟩
  · try simp only [stp]
    exact all_fm q
theorem rise_true {ds : List D} (hl : ds.length ≤ 1000) (h : ∀ (k : Nat) (x y : D), ds[k]? = some x → ds[k + 1]? = some y → opLtX x y s = .ok (.bl true) s) (q : Φ (.bl true) s) : wz (m_rise [.lst ds]) s Φ Ξ := by
  refine rise_z (f := fun _ => true) hl h ?_
  rw [List.all_eq_true.mpr fun _ _ => rfl]
  exact q
theorem pw_next {α : Type} {R : α → α → Prop} {l : List α} (h : l.Pairwise R) {k : Nat} {x y : α} (h1 : l[k]? = some x) (h2 : l[k + 1]? = some y) : R x y := by
  obtain ⟨a, ea⟩ := List.getElem?_eq_some_iff.mp h1
  obtain ⟨b, eb⟩ := List.getElem?_eq_some_iff.mp h2
  have := List.pairwise_iff_getElem.mp h k (k + 1) a b (by omega)
  rw [ea, eb] at this
  exact this
theorem tix_run {t : Tx} (ht : t ∈ traits) (s : Store) : fIdxT [['l', 'e', 'f', 't'], ['t', 'o', 'p'], ['w', 'i', 'd', 'e'], ['h', 'i', 'g', 'h'], ['s', 'i', 'z', 'e'], ['i', 'n', 'k']] (.str t) s = .ok (.int ((traits.idxOf t : Nat) : Int)) s := by
  unfold traits at ht ⊢
  simp only [List.mem_cons, List.not_mem_nil, or_false] at ht
  rcases ht with rfl | rfl | rfl | rfl | rfl | rfl <;> kernel_rfl
theorem is_trait_run {t : Tx} (ht : t ∈ traits) (s : Store) : m_is_trait [.str t] s = .ok (.bl true) s := by
  unfold traits at ht
  simp only [List.mem_cons, List.not_mem_nil, or_false] at ht
  rcases ht with rfl | rfl | rfl | rfl | rfl | rfl <;> kernel_rfl
theorem worth_is {t : Tx} {d : D} (h : WorthOk t d) : t ∈ traits ∧ kindD d = true ∧ isWorthD t d = true := by
  rcases h with ⟨rfl, x, rfl, hx⟩ | ⟨ht, i, rfl, h1, h2⟩ | ⟨rfl, i, rfl, h1, h2⟩ | ⟨ht, i, rfl, h1, h2⟩
  · exact ⟨by decide, rfl, hx⟩
  · have e : (decide ((-999 : Int) ≤ i) && decide (i ≤ 999)) = true := by rw [decide_eq_true h1, decide_eq_true h2]; rfl
    rcases ht with rfl | rfl
    · exact ⟨by decide, rfl, e⟩
    · exact ⟨by decide, rfl, e⟩
  · have e : (decide ((1 : Int) ≤ i) && decide (i ≤ 99)) = true := by rw [decide_eq_true h1, decide_eq_true h2]; rfl
    exact ⟨by decide, rfl, e⟩
  · have e : (decide ((1 : Int) ≤ i) && decide (i ≤ 999)) = true := by rw [decide_eq_true h1, decide_eq_true h2]; rfl
    rcases ht with rfl | rfl
    · exact ⟨by decide, rfl, e⟩
    · exact ⟨by decide, rfl, e⟩
theorem isname_ok {t : Tx} (h : isName t = true) (q : Φ (.bl true) s) : wz (m_is_name [.str t]) s Φ Ξ := is_name_z (by rw [h]; exact q)
theorem nd_take {l : List Tx} (nd : l.Nodup) {k : Nat} {x : Tx} (h : l[k]? = some x) : x ∉ l.take k := fun hm => by
  obtain ⟨j, hj⟩ := List.getElem?_of_mem hm
  have hjk : j < k := by
    have := (List.getElem?_eq_some_iff.mp hj).1
    rw [List.length_take] at this
    omega
  rw [List.getElem?_take_of_lt hjk] at hj
  exact nodup_at nd j k hjk (List.getElem?_eq_some_iff.mp h).1 (by rw [hj, h])
end
end Mr

namespace Mr
open PySem PySem.Spec PyProof PyProof.Rows L2
abbrev Hnd := Tx × Tx × D
def handD (h : Hnd) : D := .tup [.str h.1, .str h.2.1, h.2.2]
abbrev Fil := Tx × List Tx
def fillD (h : Fil) : D := .tup [.str h.1, .tup (h.2.map .str)]
def lessH (a b : Hnd) : Prop := (if a.1 = b.1 then decide (traits.idxOf a.2.1 < traits.idxOf b.2.1) else ltT a.1 b.1) = true
structure HandsOk (l : List Hnd) : Prop where
  nm : ∀ h ∈ l, isName h.1 = true
  ws : ∀ h ∈ l, WorthOk h.2.1 h.2.2
  up : l.Pairwise lessH
  len : l.length ≤ 48
structure FillsOk (l : List Fil) : Prop where
  nm : ∀ h ∈ l, isName h.1 = true
  ls : ∀ h ∈ l, LinesOk h.2
  up : l.Pairwise fun a b => ltT a.1 b.1 = true
  len : l.length ≤ 12
section
variable {s : Store} {Φ : D → Store → Prop} {Ξ : Xc → Store → Prop}
theorem is_hand_z {h : Hnd} (hn : isName h.1 = true) (hw : WorthOk h.2.1 h.2.2) (q : Φ (.bl true) s) : wz (m_is_hand [handD h]) s Φ Ξ := by
  obtain ⟨h1, h2, h3⟩ := worth_is hw
  have e3 : (((0 + 1 + 1 + 1 : Nat) : Int) == 3) = true := rfl
  simp only [m_is_hand, N_is_hand, b_is_hand, handD, stp, List.length_cons, List.length_nil]
  simp only [e3, Bool.not_true, stp]
  refine isname_ok hn ?_
  simp only [Bool.not_true, stp]
  rw [okz (is_trait_run h1 s)]
  simp only [Bool.not_true, stp]
  refine is_worth_z h1 h2 ?_
  rw [h3]
  exact q
theorem are_hands_z {l : List Hnd} (hl : HandsOk l) (q : Φ (.bl true) s) : wz (m_are_hands [.tup (l.map handD)]) s Φ Ξ := by
  have hlen := hl.len
  have h48 : ¬ ((48 : Int) < (((l.map handD).length : Nat) : Int)) := by rw [List.length_map]; omega
  simp only [m_are_hands, N_are_hands, b_are_hands, stp]
  simp only [Bool.not_true, decide_eq_false h48, stp]
  refine comp_fm (f := handD) (l := l) (fun _ => some (.bl true)) (fun p hp => ?_) ?_
  · simp only [gOne, wipeE, List.foldl_cons, List.foldl_nil, stp]
    exact is_hand_z (hl.nm p hp) (hl.ws p hp) ⟨rfl, rfl⟩
  · try simp only [stp]
    refine all_fm (f := fun _ => true) ?_
    rw [List.all_eq_true.mpr fun _ _ => rfl]
    simp only [Bool.not_true, stp]
    refine comp_fm (f := handD) (l := l) (fun p => some (.tup [.str p.1, .int ((traits.idxOf p.2.1 : Nat) : Int)])) (fun p hp => ?_) ?_
    · simp only [gOne, wipeE, List.foldl_cons, List.foldl_nil, handD, stp]
      rw [okz (tix_run (worth_is (hl.ws p hp)).1 s)]
      try simp only [stp]
    · try simp only [stp]
      have el : (l.filterMap fun p => some (D.tup [.str p.1, .int ((traits.idxOf p.2.1 : Nat) : Int)])) = l.map fun p => D.tup [.str p.1, .int ((traits.idxOf p.2.1 : Nat) : Int)] := by rw [List.filterMap_eq_map']
      rw [el]
      refine rise_true (by rw [List.length_map]; omega) (fun k x y h1 h2 => ?_) q
      rw [List.getElem?_map] at h1 h2
      obtain ⟨a, ha, rfl⟩ := Option.map_eq_some_iff.mp h1
      obtain ⟨b, hb, rfl⟩ := Option.map_eq_some_iff.mp h2
      have hab := pw_next hl.up ha hb
      unfold lessH at hab
      show (pure (.bl (if a.1 = b.1 then decide (((traits.idxOf a.2.1 : Nat) : Int) < ((traits.idxOf b.2.1 : Nat) : Int)) else ltT a.1 b.1)) : M D) s = _
      by_cases e : a.1 = b.1
      · rw [if_pos e] at hab ⊢
        have := of_decide_eq_true hab
        rw [decide_eq_true (by omega)]
        rfl
      · rw [if_neg e] at hab ⊢
        rw [hab]
        rfl
theorem is_fill_z {h : Fil} (hn : isName h.1 = true) (hw : LinesOk h.2) (q : Φ (.bl true) s) : wz (m_is_fill [fillD h]) s Φ Ξ := by
  have e3 : (((0 + 1 + 1 : Nat) : Int) == 2) = true := rfl
  simp only [m_is_fill, N_is_fill, b_is_fill, fillD, stp, List.length_cons, List.length_nil]
  simp only [e3, stp]
  refine isname_ok hn ?_
  try simp only [stp]
  exact is_lines_z hw q
theorem rise_names {l : List Tx} (hl : l.length ≤ 1000) (up : l.Pairwise fun a b => ltT a b = true) (q : Φ (.bl true) s) : wz (m_rise [.lst (l.map .str)]) s Φ Ξ := by
  refine rise_true (by rw [List.length_map]; omega) (fun k x y h1 h2 => ?_) q
  rw [List.getElem?_map] at h1 h2
  obtain ⟨a, ha, rfl⟩ := Option.map_eq_some_iff.mp h1
  obtain ⟨b, hb, rfl⟩ := Option.map_eq_some_iff.mp h2
  have hab := pw_next up ha hb
  show (pure (.bl (ltT a b)) : M D) s = _
  rw [hab]
  rfl
theorem are_fills_z {l : List Fil} (hl : FillsOk l) (q : Φ (.bl true) s) : wz (m_are_fills [.tup (l.map fillD)]) s Φ Ξ := by
  have hlen := hl.len
  have h12 : ¬ ((12 : Int) < (((l.map fillD).length : Nat) : Int)) := by rw [List.length_map]; omega
  simp only [m_are_fills, N_are_fills, b_are_fills, stp]
  simp only [Bool.not_true, decide_eq_false h12, stp]
  refine comp_fm (f := fillD) (l := l) (fun _ => some (.bl true)) (fun p hp => ?_) ?_
  · simp only [gOne, wipeE, List.foldl_cons, List.foldl_nil, stp]
    exact is_fill_z (hl.nm p hp) (hl.ls p hp) ⟨rfl, rfl⟩
  · try simp only [stp]
    refine all_fm (f := fun _ => true) ?_
    rw [List.all_eq_true.mpr fun _ _ => rfl]
    simp only [Bool.not_true, stp]
    refine comp_fm (f := fillD) (l := l) (fun p => some (.str p.1)) (fun p hp => ?_) ?_
    · simp only [gOne, wipeE, List.foldl_cons, List.foldl_nil, fillD, stp]
    · try simp only [stp]
      have el : (l.filterMap fun p => some (D.str p.1)) = (l.map (·.1)).map D.str := by
        rw [List.filterMap_eq_map', List.map_map]
        rfl
      rw [el]
      exact rise_names (by rw [List.length_map]; omega) (List.pairwise_map.mpr hl.up) q
structure Stp where
  kind : Tx
  wait : Int
  deed : Tx
  place : Tx
  line : Option Int
def lineD : Option Int → D
  | none => .non
  | some i => .int i
def Stp.d (p : Stp) : D := .tup [.str p.kind, .int p.wait, .str p.deed, .str p.place, lineD p.line]
def kindsL : List Tx := [['p', 'r', 'e', 's', 's'], ['w', 'i', 't', 'h'], ['a', 'f', 't', 'e', 'r']]
def deedsL : List Tx := [['c', 'o', 'm', 'e'], ['g', 'o'], ['d', 'i', 'm']]
structure StpOk (p : Stp) : Prop where
  k : p.kind ∈ kindsL
  w : 0 ≤ p.wait ∧ p.wait ≤ 99
  e : p.deed ∈ deedsL
  n : isName p.place = true
  l : ∀ i, p.line = some i → 0 ≤ i ∧ i ≤ 11
theorem kind_in {t : Tx} (h : t ∈ kindsL) (s : Store) : opNotIn (.str t) (.tup [.str ['p', 'r', 'e', 's', 's'], .str ['w', 'i', 't', 'h'], .str ['a', 'f', 't', 'e', 'r']]) s = .ok (.bl false) s := by
  unfold kindsL at h
  simp only [List.mem_cons, List.not_mem_nil, or_false] at h
  rcases h with rfl | rfl | rfl <;> kernel_rfl
theorem deed_in {t : Tx} (h : t ∈ deedsL) (s : Store) : opNotIn (.str t) (.tup [.str ['c', 'o', 'm', 'e'], .str ['g', 'o'], .str ['d', 'i', 'm']]) s = .ok (.bl false) s := by
  unfold deedsL at h
  simp only [List.mem_cons, List.not_mem_nil, or_false] at h
  rcases h with rfl | rfl | rfl <;> kernel_rfl
theorem is_step_z {p : Stp} (h : StpOk p) (q : Φ (.bl true) s) : wz (m_is_step [p.d]) s Φ Ξ := by
  have e5 : (((0 + 1 + 1 + 1 + 1 + 1 : Nat) : Int) == 5) = true := rfl
  have ew : fromD (.int p.wait) 0 99 = true := by
    show (decide ((0 : Int) ≤ p.wait) && decide (p.wait ≤ 99)) = true
    rw [decide_eq_true h.w.1, decide_eq_true h.w.2]
    rfl
  simp only [m_is_step, N_is_step, b_is_step, Stp.d, stp, List.length_cons, List.length_nil]
  simp only [e5, Bool.not_true, stp]
  rw [z_ix_tup (d := .str p.place) rfl]
  try simp only [stp]
  refine isname_ok h.n ?_
  simp only [Bool.not_true, gMany, List.length_cons, List.length_nil, if_true, List.zip_cons_cons, List.zip_nil_right, stp]
  rw [okz (kind_in h.k s)]
  simp only [Bool.not_true, stp]
  rw [okz (deed_in h.e s)]
  try simp only [stp]
  rw [is_from_z rfl, ew]
  try simp only [stp]
  cases hl : p.line with
  | none =>
    have : Mr.isNon (lineD none) = true := rfl
    rw [this]
    try simp only [stp]
    exact q
  | some i =>
    have : Mr.isNon (lineD (some i)) = false := rfl
    have el : fromD (.int i) 0 11 = true := by
      show (decide ((0 : Int) ≤ i) && decide (i ≤ 11)) = true
      rw [decide_eq_true (h.l i hl).1, decide_eq_true (h.l i hl).2]
      rfl
    rw [this]
    try simp only [stp]
    have ed : lineD (some i) = .int i := rfl
    rw [ed, is_from_z rfl, el]
    exact q
theorem are_steps_z {l : List Stp} (hl : l.length ≤ 24) (h : ∀ p ∈ l, StpOk p) (q : Φ (.bl true) s) : wz (m_are_steps [.tup (l.map Stp.d)]) s Φ Ξ := by
  have h24 : (((l.map Stp.d).length : Nat) : Int) ≤ 24 := by rw [List.length_map]; omega
  simp only [m_are_steps, N_are_steps, b_are_steps, stp]
  simp only [decide_eq_true h24, stp]
  refine comp_fm (f := Stp.d) (l := l) (fun _ => some (.bl true)) (fun p hp => ?_) ?_
  · simp only [gOne, wipeE, List.foldl_cons, List.foldl_nil, stp]
    exact is_step_z (h p hp) ⟨rfl, rfl⟩
  · try simp only [stp]
    refine all_fm (f := fun _ => true) ?_
    rw [List.all_eq_true.mpr fun _ _ => rfl]
    exact q
def slideW : Tx := ['s', 'l', 'i', 'd', 'e']
inductive Tgt where
  | to (n : Tx)
  | first
  | last
  | back
def Tgt.d : Tgt → D
  | .to n => .tup [.str slideW, .str n]
  | .first => .tup [.str ['f', 'i', 'r', 's', 't']]
  | .last => .tup [.str ['l', 'a', 's', 't']]
  | .back => .tup [.str ['r', 'e', 't', 'u', 'r', 'n']]
abbrev Lnk := Tx × Tgt
def linkD (h : Lnk) : D := .tup [.str h.1, h.2.d]
def TgtOk (names : List Tx) : Tgt → Prop
  | .to n => n ∈ names
  | _ => True
theorem is_target_z {t : Tgt} (h : ∀ n, t = .to n → isName n = true) (q : Φ (.bl true) s) : wz (m_is_target [t.d]) s Φ Ξ := by
  cases t with
  | to n =>
    simp only [m_is_target, N_is_target, b_is_target, Tgt.d, stp]
    refine (okz (m := opNotIn (.int (([D.str slideW, D.str n].length : Nat) : Int)) (.tup [.int 1, .int 2])) (a := .bl false) (s' := s) (by kernel_rfl)).mpr ?_
    simp only [Bool.not_true, stp]
    have e2 : ((([D.str slideW, D.str n].length : Nat) : Int) == 2) = true := rfl
    have e3 : (slideW == ['s', 'l', 'i', 'd', 'e']) = true := rfl
    simp only [e2, e3, stp]
    exact isname_ok (h n rfl) q
  | first => exact (okz (m := m_is_target [Tgt.first.d]) (a := .bl true) (s' := s) (by kernel_rfl)).mpr q
  | last => exact (okz (m := m_is_target [Tgt.last.d]) (a := .bl true) (s' := s) (by kernel_rfl)).mpr q
  | back => exact (okz (m := m_is_target [Tgt.back.d]) (a := .bl true) (s' := s) (by kernel_rfl)).mpr q
structure LinksOk (names : List Tx) (l : List Lnk) : Prop where
  nm : ∀ h ∈ l, isName h.1 = true
  tg : ∀ h ∈ l, TgtOk names h.2
  up : l.Pairwise fun a b => ltT a.1 b.1 = true
  len : l.length ≤ 12
theorem is_link_z {h : Lnk} (hn : isName h.1 = true) (ht : ∀ n, h.2 = .to n → isName n = true) (q : Φ (.bl true) s) : wz (m_is_link [linkD h]) s Φ Ξ := by
  have e3 : (((0 + 1 + 1 : Nat) : Int) == 2) = true := rfl
  simp only [m_is_link, N_is_link, b_is_link, linkD, stp, List.length_cons, List.length_nil]
  simp only [e3, stp]
  refine isname_ok hn ?_
  try simp only [stp]
  exact is_target_z ht q
theorem are_links_z {names : List Tx} {l : List Lnk} (hl : LinksOk names l) (hn : ∀ x ∈ names, isName x = true) (q : Φ (.bl true) s) : wz (m_are_links [.tup (l.map linkD)]) s Φ Ξ := by
  have hlen := hl.len
  have h12 : ¬ ((12 : Int) < (((l.map linkD).length : Nat) : Int)) := by rw [List.length_map]; omega
  simp only [m_are_links, N_are_links, b_are_links, stp]
  simp only [Bool.not_true, decide_eq_false h12, stp]
  refine comp_fm (f := linkD) (l := l) (fun _ => some (.bl true)) (fun p hp => ?_) ?_
  · simp only [gOne, wipeE, List.foldl_cons, List.foldl_nil, stp]
    refine is_link_z (hl.nm p hp) (fun n e => ?_) ⟨rfl, rfl⟩
    have := hl.tg p hp
    rw [e] at this
    exact hn n this
  · try simp only [stp]
    refine all_fm (f := fun _ => true) ?_
    rw [List.all_eq_true.mpr fun _ _ => rfl]
    simp only [Bool.not_true, stp]
    refine comp_fm (f := linkD) (l := l) (fun p => some (.str p.1)) (fun p hp => ?_) ?_
    · simp only [gOne, wipeE, List.foldl_cons, List.foldl_nil, linkD, stp]
    · try simp only [stp]
      have el : (l.filterMap fun p => some (D.str p.1)) = (l.map (·.1)).map D.str := by
        rw [List.filterMap_eq_map', List.map_map]
        rfl
      rw [el]
      exact rise_names (by rw [List.length_map]; omega) (List.pairwise_map.mpr hl.up) q
structure Sld where
  name : Tx
  master : Tx
  hands : List Hnd
  fills : List Fil
  steps : List Stp
  links : List Lnk
  hidden : Bool
  notes : Tx
def hidD (b : Bool) : D := .int (if b then 1 else 0)
def Sld.d (p : Sld) : D := .tup [.str p.name, .str p.master, .tup (p.hands.map handD), .tup (p.fills.map fillD), .tup (p.steps.map Stp.d), .tup (p.links.map linkD), hidD p.hidden, .str p.notes]
structure SldOk (over names : List Tx) (p : Sld) : Prop where
  nm : isName p.name = true
  ms : p.master ∈ over
  hs : HandsOk p.hands
  fs : FillsOk p.fills
  sl : p.steps.length ≤ 24
  ss : ∀ t ∈ p.steps, StpOk t
  ls : LinksOk names p.links
  nl : p.notes.length ≤ 200
  nt : ∀ c ∈ p.notes, c ∈ okSigns
theorem is_slide_z {over names : List Tx} {p : Sld} (h : SldOk over names p) (ho : ∀ x ∈ over, isName x = true) (hn : ∀ x ∈ names, isName x = true) (q : Φ (.bl true) s) : wz (m_is_slide [p.d]) s Φ Ξ := by
  have e8 : (((0 + 1 + 1 + 1 + 1 + 1 + 1 + 1 + 1 : Nat) : Int) == 8) = true := rfl
  simp only [m_is_slide, N_is_slide, b_is_slide, Sld.d, stp, List.length_cons, List.length_nil]
  simp only [e8, Bool.not_true, stp]
  refine isname_ok h.nm ?_
  simp only [Bool.not_true, stp]
  refine isname_ok (ho _ h.ms) ?_
  simp only [Bool.not_true, gMany, List.length_cons, List.length_nil, if_true, List.zip_cons_cons, List.zip_nil_right, stp]
  refine are_hands_z h.hs ?_
  simp only [Bool.not_true, stp]
  refine are_fills_z h.fs ?_
  simp only [Bool.not_true, stp]
  refine are_steps_z h.sl h.ss ?_
  simp only [Bool.not_true, stp]
  refine are_links_z h.ls hn ?_
  simp only [Bool.not_true, stp]
  rw [is_whole_z rfl]
  have ewh : wholeD (hidD p.hidden) = true := rfl
  simp only [ewh, stp]
  have ein : ∀ b, opIn (hidD b) (.tup [.int 0, .int 1]) s = .ok (.bl true) s := fun b => by cases b <;> kernel_rfl
  rw [okz (ein _)]
  try simp only [stp]
  exact written_z (n := 200) h.nl h.nt q
end
end Mr

namespace Mr
open PySem PySem.Spec PyProof PyProof.Rows L2
structure DeckOk (pool : List Tx) (ms : List Mst) (sl : List Sld) : Prop where
  m : MstsOk pool ms
  p : ∀ x ∈ pool, isName x = true
  m1 : 1 ≤ ms.length
  m12 : ms.length ≤ 12
  nd : (sl.map Sld.name).Nodup
  s : ∀ x ∈ sl, SldOk (ms.map Mst.name) (sl.map Sld.name) x
  s40 : sl.length ≤ 40
def deckD (ms : List Mst) (sl : List Sld) : D := .tup [.tup (ms.map Mst.d), .tup (sl.map Sld.d)]
end Mr

namespace Mr
open PySem PySem.Spec PyProof PyProof.Rows L2
section
variable {s : Store} {Φ : D → Store → Prop} {Ξ : Xc → Store → Prop}
structure HandsUp (sp : List Tx) (j : Nat) (x : List Hnd) : Prop where
  nm : ∀ h ∈ x, h.1 ∈ sp.take j
  ws : ∀ h ∈ x, WorthOk h.2.1 h.2.2
  up : x.Pairwise lessH
theorem HandsUp.next {sp : List Tx} {j : Nat} {x : List Hnd} (h : HandsUp sp j x) : HandsUp sp (j + 1) x := ⟨fun z hz => (List.take_sublist_take_left (by omega)).subset (h.nm z hz), h.ws, h.up⟩
end
end Mr

namespace Mr
open PySem PySem.Spec PyProof.Rows L2
theorem cut_to {α : Type} (l : List α) (n : Nat) : cutL l none (some (n : Int)) = l.take n := by
  rw [cut_take _ (by omega)]
  rfl
theorem cut_from {α : Type} (l : List α) (n : Nat) : cutL l (some (n : Int)) none = l.drop n := by
  unfold cutL
  have e1 : HT.sIx l.length l.length none = l.length := rfl
  rw [HT.sIx_nat, e1]
  by_cases h : n ≤ l.length
  · rw [Nat.min_eq_left h, List.take_of_length_le (by rw [List.length_drop]; omega)]
  · rw [Nat.min_eq_right (by omega), List.drop_of_length_le (Nat.le_refl _), List.drop_of_length_le (by omega)]
    simp
def chop (w : Nat) : Nat → List Tx → Tx → List Tx × Tx
  | 0, f, r => (f, r)
  | n + 1, f, r => if w < r.length then chop w n (f ++ [r.take w]) (r.drop w) else (f, r)
def putW (w : Nat) (st : List Tx × Tx) (x : Tx) : List Tx × Tx :=
  if st.2 ≠ [] ∧ st.2.length + 1 + x.length ≤ w then (st.1, st.2 ++ ' ' :: x)
  else chop w x.length (if st.2 = [] then st.1 else st.1 ++ [st.2]) x
theorem chop_len (w : Nat) : ∀ (n : Nat) (f : List Tx) (r : Tx), (chop w n f r).1.length ≤ f.length + n ∧ (chop w n f r).2.length ≤ r.length
  | 0, f, r => ⟨Nat.le_refl _, Nat.le_refl _⟩
  | n + 1, f, r => by
    unfold chop
    split
    · obtain ⟨h1, h2⟩ := chop_len w n (f ++ [r.take w]) (r.drop w)
      simp only [List.length_append, List.length_cons, List.length_nil, List.length_drop] at h1 h2
      exact ⟨by omega, by omega⟩
    · exact ⟨by simp, by simp⟩
theorem putW_len (w : Nat) (st : List Tx × Tx) (x : Tx) : (putW w st x).1.length ≤ st.1.length + 1 + x.length ∧ (putW w st x).2.length ≤ st.2.length + 1 + x.length := by
  unfold putW
  split
  · simp only [List.length_append, List.length_cons]
    omega
  · obtain ⟨h1, h2⟩ := chop_len w x.length (if st.2 = [] then st.1 else st.1 ++ [st.2]) x
    have : (if st.2 = [] then st.1 else st.1 ++ [st.2]).length ≤ st.1.length + 1 := by split <;> simp
    omega
def sgn (w : Nat) (x : List Tx × Tx × Tx) (c : Char) : List Tx × Tx × Tx :=
  if c = ' ' then (if x.2.2 = [] then x else ((putW w (x.1, x.2.1) x.2.2).1, (putW w (x.1, x.2.1) x.2.2).2, [])) else (x.1, x.2.1, x.2.2 ++ [c])
structure SgnOk (base i : Nat) (x : List Tx × Tx × Tx) : Prop where
  f : x.1.length ≤ base + i * 1000
  r : x.2.1.length + x.2.2.length ≤ i
theorem SgnOk.step {w base i : Nat} {x : List Tx × Tx × Tx} (h : SgnOk base i x) (hi : i ≤ 998) (c : Char) : SgnOk base (i + 1) (sgn w x c) := by
  obtain ⟨h1, h2⟩ := h
  obtain ⟨f, r, u⟩ := x
  simp only at h1 h2
  unfold sgn
  simp only
  by_cases hc : c = ' '
  · rw [if_pos hc]
    by_cases hu : u = []
    · rw [if_pos hu]
      exact ⟨by simp only; omega, by simp only; omega⟩
    · rw [if_neg hu]
      obtain ⟨p1, p2⟩ := putW_len w (f, r) u
      simp only at p1 p2
      exact ⟨by simp only; omega, by simp only [List.length_nil]; omega⟩
  · rw [if_neg hc]
    refine ⟨by simp only; omega, ?_⟩
    simp only [List.length_append, List.length_cons, List.length_nil]
    omega
end Mr

namespace Mr
open PySem PySem.Spec PyProof.Rows L2
theorem cut_win {α : Type} (l : List α) (a b : Nat) (h : a ≤ b) : cutL l (some (a : Int)) (some (b : Int)) = (l.drop a).take (b - a) := by
  unfold cutL
  rw [HT.sIx_nat, HT.sIx_nat]
  by_cases h1 : a ≤ l.length
  · rw [Nat.min_eq_left h1]
    by_cases h2 : b ≤ l.length
    · rw [Nat.min_eq_left h2]
    · rw [Nat.min_eq_right (by omega), List.take_of_length_le (by rw [List.length_drop]; omega), List.take_of_length_le (by rw [List.length_drop]; omega)]
  · have ha : min a l.length = l.length := by omega
    rw [ha, List.drop_of_length_le (Nat.le_refl _), List.drop_of_length_le (by omega)]
    simp
end Mr

namespace Mr
open PySem PySem.Spec PyProof.Rows L2
section
variable {s : Store} {Φ : D → Store → Prop} {Ξ : Xc → Store → Prop} {pool : List Tx} {ms : List Mst} {sl : List Sld}
theorem idx_text {x : Tx} : ∀ {l : List Tx}, x ∈ l → idx (.str x) (l.map D.str) = some (l.idxOf x)
  | [], h => by cases h
  | y :: l, h => by
    rw [List.map_cons, idx, List.idxOf_cons]
    have e : D.eqv (.str y) (.str x) = (y == x) := by simp [D.eqv]
    rw [e]
    cases hy : y == x with
    | true => rfl
    | false =>
      have hne : ¬ y = x := fun z => by rw [z, beq_self_eq_true] at hy; cases hy
      rcases List.mem_cons.mp h with z | h
      · exact (hne z.symm).elim
      · rw [idx_text h]
        rfl
theorem index_z {l : List Tx} {x : Tx} (h : x ∈ l) (q : Φ (.int ((l.idxOf x : Nat) : Int)) s) : wz (fIndex (.lst (l.map .str)) (.str x)) s Φ Ξ := by
  refine (okz (a := D.int ((l.idxOf x : Nat) : Int)) (s' := s) ?_).mpr q
  unfold fIndex
  have : (l.map D.str).all D.flat = true := by
    rw [List.all_map]
    exact List.all_eq_true.mpr fun _ _ => rfl
  simp only [D.flat, this, Bool.and_self, if_true, idx_text h]
  rfl
end
end Mr

namespace Mr
open PySem PySem.Spec PyProof.Rows L2
theorem LinksOk.mono {names names' : List Tx} {l : List Lnk} (h : LinksOk names l) (sub : ∀ x ∈ names, x ∈ names') : LinksOk names' l := ⟨h.nm, fun x hx => by
  have := h.tg x hx
  cases ht : x.2 with
  | to n => rw [ht] at this; exact sub n this
  | first => trivial
  | last => trivial
  | back => trivial, h.up, h.len⟩
theorem SldOk.mono {over over' names names' : List Tx} {p : Sld} (h : SldOk over names p) (so : ∀ x ∈ over, x ∈ over') (sub : ∀ x ∈ names, x ∈ names') : SldOk over' names' p :=
  ⟨h.nm, so _ h.ms, h.hs, h.fs, h.sl, h.ss, h.ls.mono sub, h.nl, h.nt⟩
section
variable {s : Store} {Φ : D → Store → Prop} {Ξ : Xc → Store → Prop} {pool : List Tx} {ms : List Mst} {sl : List Sld}
theorem nin_texts (x : Tx) (l : List Tx) : wz (opNotIn (.str x) (.lst (l.map .str))) s Φ Ξ = Φ (.bl (!decide (x ∈ l))) s := by
  rw [z_nin_lst _ _ (by rw [okD_str, okD_texts]; rfl), dIn_texts]
end
end Mr

namespace Mr
open PySem PySem.Spec PyProof PyProof.Rows L2
theorem run_of {α : Type} {m : M α} {s s' : Store} {a : α} (h : ∀ (Φ : α → Store → Prop) (Ξ : Xc → Store → Prop), Φ a s' → wz m s Φ Ξ) : m s = .ok a s' := by
  obtain ⟨b, t, e, h1, h2⟩ := of_wz (h (fun b t => b = a ∧ t = s') (fun _ _ => False) ⟨rfl, rfl⟩)
  rw [e, h1, h2]
def PD (n : Nat) (d : D) : Prop := d.plain = true ∧ d.depth ≤ n
theorem PD.mono {n m : Nat} {d : D} (h : PD n d) (hm : n ≤ m) : PD m d := ⟨h.1, Nat.le_trans h.2 hm⟩
theorem PD.ok {n : Nat} {d : D} (h : PD n d) (hn : n ≤ 60) : D.okD d = true := by
  unfold D.okD
  rw [h.1, Bool.true_and]
  exact decide_eq_true (Nat.le_trans h.2 hn)
section
variable {s : Store} {Φ : D → Store → Prop} {Ξ : Xc → Store → Prop} {pool : List Tx} {ms : List Mst} {sl : List Sld}
theorem nodup_all (l : List Tx) : ((List.range l.length).all fun k => !decide (l.getD k [] ∈ l.take k)) = decide l.Nodup := by
  by_cases h : l.Nodup
  · rw [decide_eq_true h]
    refine List.all_eq_true.mpr fun k hk => ?_
    have hk := List.mem_range.mp hk
    rw [List.getD_eq_getElem?_getD, List.getElem?_eq_getElem hk, Option.getD_some, decide_eq_false (nd_take h (List.getElem?_eq_getElem hk))]
    rfl
  · rw [decide_eq_false h]
    cases ha : (List.range l.length).all fun k => !decide (l.getD k [] ∈ l.take k) with
    | false => rfl
    | true =>
      refine (h (nodup_of fun i j hij hj e => ?_)).elim
      have := List.all_eq_true.mp ha j (List.mem_range.mpr hj)
      rw [List.getD_eq_getElem?_getD, List.getElem?_eq_getElem hj, Option.getD_some] at this
      have hm : l[j] ∈ l.take j := by
        rw [List.getElem?_eq_getElem hj, List.getElem?_eq_getElem (by omega)] at e
        rw [← Option.some.inj e]
        exact List.mem_take_iff_getElem.mpr ⟨i, by omega, rfl⟩
      rw [decide_eq_true hm] at this
      cases this
end
end Mr

namespace Mr
open PySem PySem.Spec PyProof.Rows L2
inductive Sane : D → Prop
  | non : Sane .non
  | bl (b : Bool) : Sane (.bl b)
  | int (i : Int) : Sane (.int i)
  | str (t : Tx) (h : t.length ≤ 100000) : Sane (.str t)
  | tup (xs : List D) (n : xs.length ≤ 1000) (h : ∀ x ∈ xs, Sane x) : Sane (.tup xs)
  | lst (xs : List D) (n : xs.length ≤ 1000) (h : ∀ x ∈ xs, Sane x) : Sane (.lst xs)
  | dic (ks vs : List D) : Sane (.dic ks vs)
theorem Sane.kind {d : D} (h : Sane d) : kindD d = true := by cases h <;> rfl
section
variable {s : Store} {Φ : D → Store → Prop} {Ξ : Xc → Store → Prop}
theorem comp_pure {e : Ev} {sl : List Nat} {g : GM} {t : EM} {xs : List D} {Ψ : List D → Store → Prop} (p : D → D) (h : ∀ a ∈ xs, opZ (g a) fun q => wz (t (setAll q (wipeE e sl))) s (fun y s' => s' = s ∧ y = p a) (fun _ _ => False)) (fin : Ψ (xs.map p) s) : wz (compM sl g cYes t e xs) s Ψ Ξ := by
  have e1 : xs = xs.map id := (List.map_id xs).symm
  rw [e1]
  refine comp_fm (f := id) (fun a => some (p a)) (fun a ha => ?_) ?_
  · have q := h a ha
    unfold opZ at q ⊢
    cases hg : g a with
    | none => rw [hg] at q; exact q.elim
    | some l =>
      rw [hg] at q
      simp only [stp]
      rw [show g (id a) = some l from hg]
      simp only [stp, true_and]
      refine wp_mono q (fun y s' ⟨z1, z2⟩ => ⟨z1, by rw [z2]⟩) fun _ _ z => z
  · rw [List.filterMap_eq_map']
    exact fin
theorem all_bools {α : Type} {l : List α} {f : α → Bool} (q : Φ (.bl (l.all f)) s) : wz (fAll (.lst (l.map fun x => D.bl (f x)))) s Φ Ξ := by
  refine all_fm (f := f) (l := l) (s := s) (Φ := Φ) (Ξ := Ξ) q |> fun h => ?_
  rw [List.filterMap_eq_map'] at h
  exact h
theorem all_of {e : Ev} {xs : List D} {m : List D → M D} {f : D → Bool} {i : Nat} (hi : i < e.length) (h : ∀ x ∈ xs, m [x] s = .ok (.bl (f x)) s) (q : Φ (.bl (xs.all f)) s) : wz (compM [i] (gOne i) cYes (eFn m (lCons (eVar i) lNil)) e xs) s (fun ys s => wz (fAll (.lst ys)) s Φ Ξ) Ξ := by
  refine comp_pure (fun x => .bl (f x)) (fun a ha => ?_) (all_bools q)
  have e1 : (setAll [(i, a)] (wipeE e [i]))[i]? = some (some a) := by
    simp only [setAll_cons, setAll_nil, wipeE, List.foldl_cons, List.foldl_nil]
    rw [List.getElem?_set_self (by simpa using hi)]
  simp only [gOne_z, opZ_some, z_eFn, z_lCons, z_lNil, z_eVar, e1, z_pure, okz (h a ha), and_self]
theorem sub_toS (a : Tx) (lo hi : Nat) : PySem.Builtin.Str.strSub (toS a) lo hi = toS ((a.drop lo).take (hi - lo)) := by
  apply PySem.Str.ext'
  show ((a.map Char.toNat).toArray).extract lo hi = (((a.drop lo).take (hi - lo)).map Char.toNat).toArray
  simp [List.map_take, List.map_drop]
theorem back_toS (a : Tx) : ((toS a).cps.toList).map Char.ofNat = a := by
  show ((a.map Char.toNat).toArray.toList).map Char.ofNat = a
  induction a with
  | nil => rfl
  | cons c a ih =>
    simp only [List.map_cons, List.toArray_cons] at ih ⊢
    simp [Char.ofNat_toNat] at ih ⊢
    exact ih
theorem toS_get (a : Tx) (k : Nat) (h : k < a.length) : (toS a).cps.getD k 0 = (a[k]).toNat := by
  simp [toS, Array.getD, h]
theorem goes_in (b : Tx) (c : Char) : (toS b).cps.contains c.toNat = decide (c ∈ b) := by
  have : (toS b).cps.contains c.toNat = decide (c.toNat ∈ b.map Char.toNat) := by simp [toS]
  rw [this]
  congr 1
  refine propext ⟨fun h => ?_, fun h => List.mem_map_of_mem h⟩
  obtain ⟨x, hx, e⟩ := List.mem_map.mp h
  rw [← Char.toNat_inj.mp e]
  exact hx
theorem strip_any {a b : Tx} (hl : a.length ≤ 100000) : ∃ r : Tx, fStrip (.str a) (.str b) s = .ok (.str r) s ∧ r.isEmpty = a.all fun c => decide (c ∈ b) := by
  let g : Nat → Bool := (toS b).cps.contains
  let lo := stripLo g true (toS a)
  let hi := stripHi g true (toS a) lo
  have e0 : Txt.stripChars (toS a) (toS b) = toS ((a.drop lo).take (hi - lo)) := by
    show Txt.stripBy g true true (toS a) = _
    rw [stripBy_eq, ← sub_toS]
  have e1 : stripT a b = (a.drop lo).take (hi - lo) := by
    unfold stripT
    rw [e0, back_toS]
  have len : (toS a).length = a.length := toS_length a
  obtain ⟨l1, l2, l3⟩ := lo_facts g (toS a)
  obtain ⟨h1, h2, h3, _⟩ := hi_facts g (toS a) lo l1
  refine ⟨stripT a b, ?_, ?_⟩
  · show (if toS (stripT a b) = Txt.stripChars (toS a) (toS b) ∧ (stripT a b).length ≤ 1000000 then (pure (.str (stripT a b)) : M D) else bad) s = _
    rw [if_pos ⟨by rw [e0, e1], by rw [e1, List.length_take, List.length_drop]; omega⟩]
    rfl
  · rw [e1]
    cases hall : a.all fun c => decide (c ∈ b) with
    | true =>
      have : lo = a.length := by
        rcases l3 with l3 | l3
        · rw [← len]; exact l3
        · by_cases hk : lo < a.length
          · rw [show stripLo g true (toS a) = lo from rfl, toS_get a lo hk] at l3
            have := List.all_eq_true.mp hall (a[lo]) (List.getElem_mem _)
            rw [show g (a[lo]).toNat = _ from goes_in b _, this] at l3
            cases l3
          · have : lo ≤ a.length := by rw [← len]; exact l1
            omega
      rw [this, List.drop_length]
      simp
    | false =>
      have hlt : lo < a.length := by
        by_cases hk : lo < a.length
        · exact hk
        · exfalso
          have : a.all (fun c => decide (c ∈ b)) = true := List.all_eq_true.mpr fun c hc => by
            obtain ⟨k, hk2, rfl⟩ := List.mem_iff_getElem.mp hc
            have := l2 k (by show k < lo; omega)
            rw [toS_get a k hk2] at this
            rw [← goes_in]
            exact this
          rw [hall] at this
          cases this
      have hgt : lo < hi := by
        by_cases hk : lo < hi
        · exact hk
        · exfalso
          have q := h3 lo (by show hi ≤ lo; omega) (by rw [len]; exact hlt)
          rcases l3 with l3 | l3
          · have : lo = a.length := by rw [← len]; exact l3
            omega
          · rw [show stripLo g true (toS a) = lo from rfl, q] at l3
            cases l3
      have : ((a.drop lo).take (hi - lo)).length ≠ 0 := by
        rw [List.length_take, List.length_drop]
        omega
      cases hr : (a.drop lo).take (hi - lo) with
      | nil => rw [hr] at this; exact (this rfl).elim
      | cons c r => rfl
def writtenD (d : D) (n : Nat) : Bool := match d with
  | .str t => decide (t.length ≤ n) && t.all fun c => decide (c ∈ okSigns)
  | _ => false
theorem written_run {d : D} (h : Sane d) (n : Nat) (s : Store) : m_is_written [d, .int (n : Int)] s = .ok (.bl (writtenD d n)) s := by
  cases h with
  | str t hl =>
    refine run_of fun Φ Ξ q => ?_
    simp only [m_is_written, N_is_written, b_is_written, stp]
    have h1 : decide (((t.length : Nat) : Int) ≤ (n : Int)) = decide (t.length ≤ n) := by simp
    rw [h1]
    simp only [writtenD] at q
    cases h2 : decide (t.length ≤ n) with
    | false => rw [h2, Bool.false_and] at q; simpa only [stp] using q
    | true =>
      rw [h2, Bool.true_and] at q
      try simp only [stp]
      obtain ⟨r, e1, e2⟩ := strip_any (s := s) (b := okSigns) hl
      refine (okz e1).mpr ?_
      try simp only [stp]
      have e3 : (r == []) = r.isEmpty := by cases r <;> rfl
      rw [e3, e2]
      exact q
  | _ => rfl
def linesOkD : D → Bool
  | .tup xs => decide (xs.length ≤ 12) && xs.all fun x => writtenD x 60
  | _ => false
theorem lines_run {d : D} (h : Sane d) (s : Store) : m_is_lines [d] s = .ok (.bl (linesOkD d)) s := by
  cases h with
  | tup xs hn hx =>
    refine run_of fun Φ Ξ q => ?_
    simp only [m_is_lines, N_is_lines, b_is_lines, stp]
    have h1 : decide ((12 : Int) < ((xs.length : Nat) : Int)) = !decide (xs.length ≤ 12) := by
      rw [← decide_not]; congr 1; exact propext ⟨fun _ => by omega, fun _ => by omega⟩
    rw [h1]
    simp only [linesOkD] at q
    cases h2 : decide (xs.length ≤ 12) with
    | false => rw [h2, Bool.false_and] at q; simpa only [stp, Bool.not_false] using q
    | true =>
      rw [h2, Bool.true_and] at q
      simp only [Bool.not_true, stp]
      refine comp_pure (fun x => .bl (writtenD x 60)) (fun a ha => ?_) (all_bools q)
      simp only [gOne, wipeE, List.foldl_cons, List.foldl_nil, stp]
      exact (okz (written_run (hx a ha) 60 s)).mpr ⟨rfl, rfl⟩
  | _ => rfl
def traitD : D → Bool
  | .str t => decide (t ∈ traits)
  | _ => false
theorem trait_run {d : D} (h : Sane d) (s : Store) : m_is_trait [d] s = .ok (.bl (traitD d)) s := by
  cases h with
  | str t hl =>
    refine run_of fun Φ Ξ q => ?_
    simp only [m_is_trait, N_is_trait, b_is_trait, stp]
    have : wz (opIn (.str t) (.tup (traits.map .str))) s Φ Ξ := by
      show wp _ _ _ _
      rw [wp_in_tup _ _ (by rfl), show dIn (.str t) (traits.map D.str) = decide (t ∈ traits) from dIn_texts t traits]
      exact q
    exact this
  | _ => rfl
theorem beqN (n : Nat) (k : Nat) : (((n : Nat) : Int) == ((k : Nat) : Int)) = decide (n = k) := by
  by_cases h : n = k
  · subst h; simp
  · have : ¬ ((n : Int) = (k : Int)) := by omega
    simp [h, this]
theorem gtN (n k : Nat) : decide (((k : Nat) : Int) < ((n : Nat) : Int)) = !decide (n ≤ k) := by
  rw [← decide_not]; congr 1; exact propext ⟨fun _ => by omega, fun _ => by omega⟩
theorem leN (n k : Nat) : decide (((n : Nat) : Int) ≤ ((k : Nat) : Int)) = decide (n ≤ k) := by
  congr 1; exact propext ⟨fun _ => by omega, fun _ => by omega⟩
def settingD : D → Bool
  | .tup [.str t, w] => decide (t ∈ traits) && isWorthD t w
  | _ => false
theorem setting_run {d : D} (h : Sane d) (s : Store) : m_is_setting [d] s = .ok (.bl (settingD d)) s := by
  cases h with
  | tup xs hn hx =>
    refine run_of fun Φ Ξ q => ?_
    simp only [m_is_setting, N_is_setting, b_is_setting, stp]
    have e2 := beqN xs.length 2
    rw [show (((xs.length : Nat) : Int) == 2) = decide (xs.length = 2) from e2]
    cases h2 : decide (xs.length = 2) with
    | false =>
      have h2 := of_decide_eq_false h2
      simp only [stp]
      have : settingD (.tup xs) = false := by
        unfold settingD
        split
        · rename_i t w e; cases e; exact (h2 rfl).elim
        · rfl
      rw [this] at q
      exact q
    | true =>
      have h2 := of_decide_eq_true h2
      match xs, h2, hx, q with
      | [a, b], _, hx, q =>
        simp only [stp]
        refine (okz (trait_run (hx a (by simp)) s)).mpr ?_
        cases a with
        | str t =>
          simp only [settingD] at q
          simp only [traitD, stp]
          cases ht : decide (t ∈ traits) with
          | false => rw [ht] at q; simpa only [stp, Bool.false_and] using q
          | true =>
            rw [ht, Bool.true_and] at q
            simp only [stp]
            exact is_worth_z (of_decide_eq_true ht) (hx b (by simp)).kind q
        | _ => exact q
  | _ => rfl
def tixD : D → Int
  | .tup (.str t :: _) => ((traits.idxOf t : Nat) : Int)
  | _ => 0
def settingsD : D → Bool
  | .tup xs => xs.all settingD && riseI (xs.map tixD)
  | _ => false
theorem riseI_z {l : List Int} (hl : l.length ≤ 1000) (q : Φ (.bl (riseI l)) s) : wz (m_rise [.lst (l.map .int)]) s Φ Ξ := by
  refine rise_z (f := fun k => decide (l.getD k 0 < l.getD (k + 1) 0)) (by simpa using hl) (fun k x y hx hy => ?_) ?_
  · rw [List.getElem?_map] at hx hy
    cases h1 : l[k]? with
    | none => rw [h1] at hx; cases hx
    | some i =>
      cases h2 : l[k + 1]? with
      | none => rw [h2] at hy; cases hy
      | some j =>
        rw [h1] at hx
        rw [h2] at hy
        cases hx
        cases hy
        simp only [List.getD_eq_getElem?_getD, h1, h2, Option.getD_some]
        rfl
  · unfold riseI at q
    rw [List.length_map]
    exact q
theorem settings_run {d : D} (h : Sane d) (s : Store) : m_are_settings [d] s = .ok (.bl (settingsD d)) s := by
  cases h with
  | tup xs hn hx =>
    refine run_of fun Φ Ξ q => ?_
    simp only [m_are_settings, N_are_settings, b_are_settings, stp]
    refine all_of (f := settingD) (by simp) (fun x h => setting_run (hx x h) s) ?_
    simp only [settingsD] at q
    cases ha : xs.all settingD with
    | false => rw [ha] at q; simpa only [stp, Bool.not_false, Bool.false_and] using q
    | true =>
      rw [ha, Bool.true_and] at q
      simp only [stp, Bool.not_true]
      refine comp_pure (fun x => .int (tixD x)) (fun a hm => ?_) ?_
      · have hs := List.all_eq_true.mp ha a hm
        unfold settingD at hs
        split at hs
        · rename_i t w
          have ht : t ∈ traits := by
            have := (Bool.and_eq_true_iff.mp hs).1
            exact of_decide_eq_true this
          simp only [gOne, wipeE, List.foldl_cons, List.foldl_nil, stp]
          exact (okz (tix_run ht s)).mpr ⟨rfl, rfl⟩
        · cases hs
      · have e : (xs.map fun x => D.int (tixD x)) = (xs.map tixD).map D.int := by rw [List.map_map]; rfl
        rw [e]
        exact riseI_z (by simpa using hn) q
  | _ => rfl
def placeD : D → Bool
  | .tup [a, b, c] => nameD a && (settingsD b && (Mr.isNon c || linesOkD c))
  | _ => false
theorem place_run {d : D} (h : Sane d) (s : Store) : m_is_place [d] s = .ok (.bl (placeD d)) s := by
  cases h with
  | tup xs hn hx =>
    refine run_of fun Φ Ξ q => ?_
    simp only [m_is_place, N_is_place, b_is_place, stp]
    rw [show (((xs.length : Nat) : Int) == 3) = decide (xs.length = 3) from beqN xs.length 3]
    cases h2 : decide (xs.length = 3) with
    | false =>
      have h2 := of_decide_eq_false h2
      simp only [stp, Bool.not_false]
      have : placeD (.tup xs) = false := by
        unfold placeD
        split
        · rename_i a b c e; cases e; exact (h2 rfl).elim
        · rfl
      rw [this] at q
      exact q
    | true =>
      have h2 := of_decide_eq_true h2
      match xs, h2, hx, q with
      | [a, b, c], _, hx, q =>
        simp only [stp, Bool.not_true]
        simp only [placeD] at q
        refine is_name_d (hx a (by simp)).kind ?_
        simp only [stp]
        cases ha : nameD a with
        | false => rw [ha] at q; simpa only [stp, Bool.not_false, Bool.false_and] using q
        | true =>
          rw [ha, Bool.true_and] at q
          simp only [stp, Bool.not_true]
          refine (okz (settings_run (hx b (by simp)) s)).mpr ?_
          simp only [stp]
          cases hb : settingsD b with
          | false => rw [hb] at q; simpa only [stp, Bool.not_false, Bool.false_and] using q
          | true =>
            rw [hb, Bool.true_and] at q
            simp only [stp, Bool.not_true]
            cases hc : Mr.isNon c with
            | true => rw [hc, Bool.true_or] at q; simpa only [stp] using q
            | false =>
              rw [hc, Bool.false_or] at q
              simp only [stp]
              exact (okz (lines_run (hx c (by simp)) s)).mpr q
  | _ => rfl
end
end Mr

namespace Mr
open PySem PySem.Spec PyProof.Rows L2
theorem wrong_len {f : D → Bool} {k : Nat} {xs : List D} (hf : ∀ ys, ys.length ≠ k → f (.tup ys) = false) (h : decide (xs.length = k) = false) : f (.tup xs) = false := hf xs (of_decide_eq_false h)
def name0 : D → Tx
  | .tup (.str t :: _) => t
  | _ => []
section
variable {s : Store} {Φ : D → Store → Prop} {Ξ : Xc → Store → Prop}
theorem unlike_any {l : List Tx} (hl : l.length ≤ 1000) (q : Φ (.bl (decide l.Nodup)) s) : wz (m_are_unlike [.lst (l.map .str)]) s Φ Ξ := by
  simp only [m_are_unlike, N_are_unlike, b_are_unlike, stp, List.length_map]
  rw [z_rng1 ⟨by omega, by omega⟩]
  refine comp_fm (f := fun k : Nat => D.int (0 + (k : Int))) (l := List.range (((l.length : Nat) : Int)).toNat) (fun k => some (.bl (!decide (l.getD k [] ∈ l.take k)))) (fun k hk => ?_) ?_
  · have hk : k < l.length := by have := List.mem_range.mp hk; omega
    have e1 : l[k]? = some l[k] := List.getElem?_eq_getElem hk
    have e2 : (l.map D.str)[k]? = some (.str l[k]) := by rw [List.getElem?_map, e1]; rfl
    have e3 : (0 : Int) + (k : Int) = ((k : Nat) : Int) := by omega
    simp only [gOne, wipeE, List.foldl_cons, List.foldl_nil, stp]
    rw [e3, z_ix_lst (Mr.atI_nat e2)]
    try simp only [stp]
    have e4 : cutL (l.map D.str) none (some ((k : Nat) : Int)) = (l.take k).map D.str := by
      rw [cut_take _ (by omega), List.map_take]
      rfl
    rw [e4, z_nin_lst _ _ (by rw [okD_str, okD_texts]; rfl), dIn_texts]
    refine ⟨rfl, ?_⟩
    rw [List.getD_eq_getElem?_getD, e1, Option.getD_some]
  · try simp only [stp]
    refine all_fm (f := fun k => !decide (l.getD k [] ∈ l.take k)) ?_
    rw [Int.toNat_natCast, nodup_all]
    exact q
def mstB : D → Bool
  | .tup [a, b, .tup own] => nameD a && ((Mr.isNon b || nameD b) && (decide (own.length ≤ 8) && (own.all placeD && decide (own.map name0).Nodup)))
  | _ => false
theorem place_name {d : D} (h : placeD d = true) : ∃ t b c, d = .tup [.str t, b, c] ∧ isName t = true := by
  unfold placeD at h
  split at h
  · rename_i a b c
    have := (Bool.and_eq_true_iff.mp h).1
    cases a with
    | str t => exact ⟨t, b, c, rfl, this⟩
    | _ => cases this
  · cases h
theorem mst_run {d : D} (h : Sane d) (s : Store) : m_is_master [d] s = .ok (.bl (mstB d)) s := by
  cases h with
  | tup xs hn hx =>
    refine run_of fun Φ Ξ q => ?_
    simp only [m_is_master, N_is_master, b_is_master, stp]
    rw [show (((xs.length : Nat) : Int) == 3) = decide (xs.length = 3) from beqN xs.length 3]
    cases h2 : decide (xs.length = 3) with
    | false =>
      simp only [stp, Bool.not_false]
      rw [wrong_len (f := mstB) (fun ys hy => by unfold mstB; split; (rename_i e; cases e; exact (hy rfl).elim); rfl) h2] at q
      exact q
    | true =>
      match xs, of_decide_eq_true h2, hx, q with
      | [a, b, c], _, hx, q =>
        simp only [stp, Bool.not_true]
        refine is_name_d (hx a (by simp)).kind ?_
        simp only [stp]
        cases ha : nameD a with
        | false =>
          have : mstB (.tup [a, b, c]) = false := by cases c <;> simp [mstB, ha]
          rw [this] at q
          simpa only [stp, Bool.not_false] using q
        | true =>
          simp only [stp, Bool.not_true, gMany, List.length_cons, List.length_nil, if_true, List.zip_cons_cons, List.zip_nil_right]
          have own : (Mr.isNon b || nameD b) = true → wzS (sSeq (sIf (tOr' (tNot' (tVal (eUn (fIs "tuple") (eVar 3)))) (tOr' (tBin opGt (eUn fLen (eVar 3)) (eC (D.int 8))) (tNot' (tVal (eUn fAll (eComp [4] (iSeq (eVar 3)) (gOne 4) cYes (eFn m_is_place (lCons (eVar 4) lNil)))))))) (sRet (eC (D.bl false))) sNext)
              (sRet (eFn m_are_unlike (lCons (eComp [4] (iSeq (eVar 3)) (gOne 4) cYes (eBin opIx (eVar 4) (eC (D.int 0)))) lNil)))) [some (.tup [a, b, c]), some a, some b, some c, none] s { nx := fun _ s' => if false = true then False else Φ D.non s', rt := Φ, ex := fun x _ s' => Ξ x s' } := fun ho => by
            simp only [stp]
            have hc : Sane c := hx c (by simp)
            cases c with
            | tup own =>
              have hw : ∀ x ∈ own, Sane x := by
                cases hx (.tup own) (by simp) with
                | tup _ _ h => exact h
              simp only [mstB, ha, ho, Bool.true_and] at q
              simp only [stp, Bool.not_true]
              by_cases h8 : (8 : Int) < ((own.length : Nat) : Int)
              · rw [decide_eq_false (by omega), Bool.false_and] at q
                simp only [decide_eq_true h8, stp]
                exact q
              · rw [decide_eq_true (by omega), Bool.true_and] at q
                simp only [decide_eq_false h8, stp]
                refine all_of (f := placeD) (by simp) (fun x hx => place_run (hw x hx) s) ?_
                cases hp : own.all placeD with
                | false =>
                  rw [hp, Bool.false_and] at q
                  simp only [stp, Bool.not_false]
                  exact q
                | true =>
                  rw [hp, Bool.true_and] at q
                  simp only [stp, Bool.not_true]
                  refine comp_pure (fun x => .str (name0 x)) (fun x hx => ?_) ?_
                  · obtain ⟨t, b', c', rfl, _⟩ := place_name (List.all_eq_true.mp hp x hx)
                    simp only [gOne, wipeE, List.foldl_cons, List.foldl_nil, stp]
                    rfl
                  · rw [show own.map (fun x => D.str (name0 x)) = (own.map name0).map D.str from by rw [List.map_map]; rfl]
                    try simp only [stp]
                    exact unlike_any (by rw [List.length_map]; omega) q
            | _ => first
              | (simp only [stp, Bool.not_false]; exact q)
              | (cases hc; done)
          cases hb : Mr.isNon b with
          | true =>
            have := own (by rw [hb]; rfl)
            simp only [stp, Bool.not_true] at this ⊢
            exact this
          | false =>
            simp only [stp, Bool.not_false]
            refine is_name_d (hx b (by simp)).kind ?_
            cases hnb : nameD b with
            | true =>
              have := own (by rw [hnb, Bool.or_true])
              simp only [stp, Bool.not_true] at this ⊢
              exact this
            | false =>
              have e : mstB (.tup [a, b, c]) = false := by cases c <;> simp [mstB, hb, hnb]
              rw [e] at q
              simp only [stp, Bool.not_false]
              exact q
  | _ => rfl
end
end Mr

namespace Mr
open PySem PySem.Spec PyProof PyProof.Rows L2
section
variable {s : Store} {Φ : D → Store → Prop} {Ξ : Xc → Store → Prop} {pool : List Tx} {ms : List Mst} {sl : List Sld}
def tgtB (names : List Tx) : Tgt → Bool
  | .to n => !decide (n ∈ names)
  | _ => false
def astrayB (names : List Tx) (p : Sld) : Bool := p.links.any fun k => tgtB names k.2
theorem any_fm {α : Type} {l : List α} (f : α → Bool) (q : Φ (.bl (l.any f)) s) : wz (fAny (.lst (l.filterMap fun x => some (D.bl (f x))))) s Φ Ξ := by
  rw [z_any (boolsOf_fm f l), List.any_map]
  exact q
end
end Mr

namespace Mr
open PySem PySem.Spec PyProof.Rows L2
theorem adj_pw {α : Type} {R : α → α → Prop} (tr : ∀ a b c, R a b → R b c → R a c) : ∀ {l : List α}, (∀ (k : Nat) (x y : α), l[k]? = some x → l[k + 1]? = some y → R x y) → l.Pairwise R
  | [], _ => .nil
  | [x], _ => List.pairwise_singleton _ _
  | x :: y :: l, h => by
    have ih : (y :: l).Pairwise R := adj_pw tr fun k a b h1 h2 => h (k + 1) a b (by simpa using h1) (by simpa using h2)
    have hxy := h 0 x y rfl rfl
    refine List.pairwise_cons.mpr ⟨fun z hz => ?_, ih⟩
    rcases List.mem_cons.mp hz with rfl | hz
    · exact hxy
    · exact tr _ _ _ hxy ((List.pairwise_cons.mp ih).1 z hz)
theorem sub_of_rise {m : List Tx} : ∀ {l : List Tx}, (∀ t ∈ l, t ∈ m) → (l.map fun t => m.idxOf t).Pairwise (· < ·) → l.Sublist m := fun {l} hm hp => by
  let is : List (Fin m.length) := l.attach.map fun t => ⟨m.idxOf t.1, List.idxOf_lt_length_of_mem (hm t.1 t.2)⟩
  have h1 : is.Pairwise (· < ·) := by
    refine List.pairwise_map.mpr ?_
    have := List.pairwise_map.mp hp
    rw [← List.attach_map_subtype_val l] at this
    exact (List.pairwise_map.mp this).imp fun h => h
  have h2 : is.map (fun i => m[i]) = l := by
    show (l.attach.map _).map _ = l
    rw [List.map_map]
    have : ∀ t : {x // x ∈ l}, ((fun i : Fin m.length => m[i]) ∘ fun t : {x // x ∈ l} => (⟨m.idxOf t.1, List.idxOf_lt_length_of_mem (hm t.1 t.2)⟩ : Fin m.length)) t = t.1 := fun t => List.getElem_idxOf (List.idxOf_lt_length_of_mem (hm t.1 t.2))
    rw [List.map_congr_left fun t _ => this t]
    exact List.attach_map_subtype_val l
  rw [← h2]
  exact List.map_getElem_sublist h1
theorem nameD_of {d : D} (h : nameD d = true) : ∃ t, d = .str t ∧ isName t = true := by
  cases d with
  | str t => exact ⟨t, rfl, h⟩
  | _ => cases h
theorem fromD_of {d : D} {a b : Int} (h : fromD d a b = true) : ∃ i, d = .int i ∧ a ≤ i ∧ i ≤ b := by
  cases d with
  | int i =>
    have h : (decide (a ≤ i) && decide (i ≤ b)) = true := h
    simp only [Bool.and_eq_true, decide_eq_true_eq] at h
    exact ⟨i, rfl, h⟩
  | _ => cases h
theorem worth_of {t : Tx} {d : D} (ht : t ∈ traits) (h : isWorthD t d = true) : WorthOk t d := by
  unfold isWorthD at h
  unfold WorthOk
  by_cases h1 : t = tInk
  · rw [if_pos h1] at h
    exact .inl ⟨h1, nameD_of h⟩
  · rw [if_neg h1] at h
    by_cases h2 : t = tLeft ∨ t = tTop
    · rw [if_pos h2] at h
      exact .inr (.inl ⟨h2, fromD_of h⟩)
    · rw [if_neg h2] at h
      by_cases h3 : t = tSize
      · rw [if_pos h3] at h
        exact .inr (.inr (.inl ⟨h3, fromD_of h⟩))
      · rw [if_neg h3] at h
        refine .inr (.inr (.inr ⟨?_, fromD_of h⟩))
        unfold traits at ht
        simp only [List.mem_cons, List.not_mem_nil, or_false] at ht
        rcases ht with z | z | z | z | z | z
        · exact absurd (.inl z) h2
        · exact absurd (.inr z) h2
        · exact .inl z
        · exact .inr z
        · exact absurd z h3
        · exact absurd z h1
theorem written_of {d : D} {n : Nat} (h : writtenD d n = true) : ∃ t, d = .str t ∧ t.length ≤ n ∧ ∀ c ∈ t, c ∈ okSigns := by
  cases d with
  | str t =>
    simp only [writtenD, Bool.and_eq_true, decide_eq_true_eq, List.all_eq_true] at h
    exact ⟨t, rfl, h.1, h.2⟩
  | _ => cases h
theorem list_of {α : Type} {f : α → D} {P : α → Prop} : ∀ {xs : List D}, (∀ x ∈ xs, ∃ a, x = f a ∧ P a) → ∃ l : List α, xs = l.map f ∧ ∀ a ∈ l, P a
  | [], _ => ⟨[], rfl, by intro _ z; cases z⟩
  | x :: xs, h => by
    obtain ⟨a, rfl, pa⟩ := h x (List.mem_cons_self ..)
    obtain ⟨l, rfl, pl⟩ := list_of fun y hy => h y (List.mem_cons_of_mem _ hy)
    refine ⟨a :: l, rfl, fun b hb => ?_⟩
    rcases List.mem_cons.mp hb with rfl | hb
    · exact pa
    · exact pl b hb
theorem lines_of {d : D} (h : linesOkD d = true) : ∃ l, d = .tup (l.map .str) ∧ LinesOk l := by
  cases d with
  | tup xs =>
    simp only [linesOkD, Bool.and_eq_true, decide_eq_true_eq, List.all_eq_true] at h
    obtain ⟨l, rfl, hl⟩ := list_of (f := D.str) (P := LineOk) (xs := xs) fun x hx => by
      obtain ⟨t, rfl, h1, h2⟩ := written_of (h.2 x hx)
      exact ⟨t, rfl, h1, h2⟩
    exact ⟨l, rfl, by simpa using h.1, hl⟩
  | _ => cases h
theorem setting_of {d : D} (h : settingD d = true) : ∃ p : Tx × D, d = setD p ∧ p.1 ∈ traits ∧ WorthOk p.1 p.2 := by
  unfold settingD at h
  split at h
  · rename_i t w
    simp only [Bool.and_eq_true, decide_eq_true_eq] at h
    exact ⟨(t, w), rfl, h.1, worth_of h.1 h.2⟩
  · cases h
theorem riseI_pw {l : List Int} (h : riseI l = true) : l.Pairwise (· < ·) := by
  refine adj_pw (fun a b c h1 h2 => by omega) fun k x y h1 h2 => ?_
  have hk := (List.getElem?_eq_some_iff.mp h2).1
  have := List.all_eq_true.mp h k (List.mem_range.mpr (by omega))
  simp only [List.getD_eq_getElem?_getD, h1, h2, Option.getD_some, decide_eq_true_eq] at this
  exact this
theorem settings_of {d : D} (h : settingsD d = true) : ∃ l : List (Tx × D), d = .tup (l.map setD) ∧ (l.map (·.1)).Sublist traits ∧ ∀ p ∈ l, WorthOk p.1 p.2 := by
  cases d with
  | tup xs =>
    simp only [settingsD, Bool.and_eq_true, List.all_eq_true] at h
    obtain ⟨l, rfl, hl⟩ := list_of (f := setD) (P := fun p => p.1 ∈ traits ∧ WorthOk p.1 p.2) (xs := xs) fun x hx => setting_of (h.1 x hx)
    refine ⟨l, rfl, sub_of_rise (fun t ht => ?_) ?_, fun p hp => (hl p hp).2⟩
    · obtain ⟨p, hp, rfl⟩ := List.mem_map.mp ht
      exact (hl p hp).1
    · have := riseI_pw h.2
      rw [List.map_map] at this ⊢
      refine List.pairwise_map.mpr ((List.pairwise_map.mp this).imp fun {a b} hab => ?_)
      have hab : ((traits.idxOf a.1 : Nat) : Int) < ((traits.idxOf b.1 : Nat) : Int) := hab
      show traits.idxOf a.1 < traits.idxOf b.1
      omega
  | _ => cases h
theorem place_of {d : D} (h : placeD d = true) : ∃ p : Plc, d = p.d ∧ PlcOk p ∧ isName p.name = true := by
  unfold placeD at h
  split at h
  · rename_i a b c
    simp only [Bool.and_eq_true, Bool.or_eq_true] at h
    obtain ⟨h1, h2, h3⟩ := h
    obtain ⟨n, rfl, hn⟩ := nameD_of h1
    obtain ⟨l, rfl, hs, hw⟩ := settings_of h2
    rcases h3 with h3 | h3
    · cases c with
      | non => exact ⟨⟨n, l, none⟩, rfl, ⟨hs, hw, fun _ e => by cases e⟩, hn⟩
      | _ => cases h3
    · obtain ⟨ls, rfl, hl⟩ := lines_of h3
      exact ⟨⟨n, l, some ls⟩, rfl, ⟨hs, hw, fun _ e => by cases e; exact hl⟩, hn⟩
  · cases h
structure MstX (m : Mst) : Prop where
  nm : isName m.name = true
  ov : ∀ o, m.over = some o → isName o = true
  own : OwnOk (m.own.map Plc.name) m
  pn : ∀ x ∈ m.own.map Plc.name, isName x = true
theorem mst_of {d : D} (h : mstB d = true) : ∃ m : Mst, d = m.d ∧ MstX m := by
  unfold mstB at h
  split at h
  · rename_i a b own
    simp only [Bool.and_eq_true, Bool.or_eq_true, decide_eq_true_eq, List.all_eq_true] at h
    obtain ⟨h1, h2, h3, h4, h5⟩ := h
    obtain ⟨n, rfl, hn⟩ := nameD_of h1
    obtain ⟨l, rfl, hl⟩ := list_of (f := Plc.d) (P := fun p => PlcOk p ∧ isName p.name = true) (xs := own) fun x hx => place_of (h4 x hx)
    have e : (l.map Plc.d).map name0 = l.map Plc.name := by rw [List.map_map]; rfl
    rw [e] at h5
    rw [List.length_map] at h3
    have fin : ∀ o : Option Tx, (∀ x, o = some x → isName x = true) → MstX ⟨n, o, l⟩ := fun o ho => ⟨hn, ho, ⟨fun p hp => ⟨(hl p hp).1, List.mem_map_of_mem hp⟩, h5, h3⟩, fun x hx => by
      obtain ⟨p, hp, rfl⟩ := List.mem_map.mp hx
      exact (hl p hp).2⟩
    rcases h2 with h2 | h2
    · cases b with
      | non => exact ⟨⟨n, none, l⟩, rfl, fin none fun _ e => by cases e⟩
      | _ => cases h2
    · obtain ⟨o, rfl, ho⟩ := nameD_of h2
      exact ⟨⟨n, some o, l⟩, rfl, fin (some o) fun x e => by cases e; exact ho⟩
  · cases h
section
variable {s : Store} {Φ : D → Store → Prop} {Ξ : Xc → Store → Prop}
def worthB : D → D → Bool
  | .str t, c => isWorthD t c
  | _, _ => false
end
end Mr

namespace Mr
open PySem PySem.Spec PyProof.Rows L2
section
variable {s : Store} {Φ : D → Store → Prop} {Ξ : Xc → Store → Prop}
theorem flat_strs (l : List Tx) : (l.map D.str).all D.flat = true := List.all_eq_true.mpr fun x hx => by
  obtain ⟨t, _, rfl⟩ := List.mem_map.mp hx
  rfl
theorem in_tupS (t : Tx) (l : List Tx) : wz (opIn (.str t) (.tup (l.map .str))) s Φ Ξ = Φ (.bl (decide (t ∈ l))) s := by
  have e : opIn (.str t) (.tup (l.map .str)) = (if D.flat (.str t) && (l.map D.str).all D.flat then pure (.bl (dIn (.str t) (l.map .str))) else bad) := by
    cases t with
    | nil => rfl
    | cons c cs => cases cs <;> rfl
  rw [e, flat_strs, dIn_texts]
  rfl
theorem nin_tupS (t : Tx) (l : List Tx) : wz (opNotIn (.str t) (.tup (l.map .str))) s Φ Ξ = Φ (.bl (!decide (t ∈ l))) s := by
  have e : opNotIn (.str t) (.tup (l.map .str)) = (if D.flat (.str t) && (l.map D.str).all D.flat then pure (.bl (!dIn (.str t) (l.map .str))) else bad) := by
    cases t with
    | nil => rfl
    | cons c cs => cases cs <;> rfl
  rw [e, flat_strs, dIn_texts]
  rfl
theorem nin_tupI {d : D} {l : List D} (h : (d.flat && l.all D.flat) = true) (hs : ∀ c, d ≠ .str [c]) : wz (opNotIn d (.tup l)) s Φ Ξ = Φ (.bl (!dIn d l)) s := by
  have e : opNotIn d (.tup l) = (if d.flat && l.all D.flat then pure (.bl (!dIn d l)) else bad) := by
    cases d with
    | str t => cases t with
      | nil => rfl
      | cons c cs => cases cs <;> rfl
    | _ => rfl
  rw [e, h]
  rfl
def StepsOk (l : List Stp) : Prop := l.length ≤ 24 ∧ ∀ p ∈ l, StpOk p
def LnkX (h : Lnk) : Prop := isName h.1 = true ∧ ∀ n, h.2 = .to n → isName n = true
structure LinksX (l : List Lnk) : Prop where
  x : ∀ h ∈ l, LnkX h
  up : l.Pairwise fun a b => ltT a.1 b.1 = true
  len : l.length ≤ 12
def tgts (l : List Lnk) : List Tx := l.filterMap fun k => match k.2 with
  | .to n => some n
  | _ => none
theorem LinksX.names {l : List Lnk} (h : LinksX l) : ∀ x ∈ tgts l, isName x = true := fun x hx => by
  obtain ⟨k, hk, e⟩ := List.mem_filterMap.mp hx
  split at e
  · rename_i n hn
    cases e
    exact (h.x k hk).2 x hn
  · cases e
theorem LinksX.ok {l : List Lnk} (h : LinksX l) : LinksOk (tgts l) l := ⟨fun k hk => (h.x k hk).1, fun k hk => by
  show TgtOk _ _
  cases e : k.2 with
  | to n => exact List.mem_filterMap.mpr ⟨k, hk, by rw [e]⟩
  | _ => trivial, h.up, h.len⟩
structure SldX (p : Sld) : Prop where
  nm : isName p.name = true
  ms : isName p.master = true
  hs : HandsOk p.hands
  fs : FillsOk p.fills
  ss : StepsOk p.steps
  ls : LinksX p.links
  nl : p.notes.length ≤ 200
  nt : ∀ c ∈ p.notes, c ∈ okSigns
theorem SldX.ok {p : Sld} (h : SldX p) : SldOk [p.master] (tgts p.links) p := ⟨h.nm, List.mem_singleton.mpr rfl, h.hs, h.fs, h.ss.1, h.ss.2, h.ls.ok, h.nl, h.nt⟩
theorem SldX.run {p : Sld} (h : SldX p) (s : Store) : m_is_slide [p.d] s = .ok (.bl true) s := run_of fun Φ Ξ q => is_slide_z h.ok (fun x hx => by rw [List.mem_singleton.mp hx]; exact h.ms) h.ls.names q
end
end Mr

namespace Mr
open PySem PySem.Spec PyProof.Rows L2
def N__law_is_master : List Str := ["thing"]
def b__law_is_master : SM := (sRet (eBin opNe (eFn m_fault_of (lCons (eTup (lCons (eTup (lCons (eVar 0) lNil)) (lCons (eTup lNil) lNil))) lNil)) (eTup (lCons (eC (.str ['m', 'a', 's', 't', 'e', 'r'])) (lCons (eC (.int (0))) lNil)))))
def m__law_is_master : List D → M D := runB false N__law_is_master b__law_is_master
end Mr

namespace Mr
open PySem PySem.Spec PyProof PyProof.Rows L2
section
variable {s : Store} {Φ : D → Store → Prop} {Ξ : Xc → Store → Prop} {pool : List Tx} {ms : List Mst} {sl : List Sld}
theorem OwnOk.more {pool pool' : List Tx} {m : Mst} (h : OwnOk pool m) (sub : ∀ x ∈ pool, x ∈ pool') : OwnOk pool' m := ⟨fun p hp => ⟨(h.ok p hp).1, sub _ (h.ok p hp).2⟩, h.nd, h.len⟩
theorem DeckOk.put (h : DeckOk pool ms sl) {m : Mst} {pool2 : List Tx} (hn : isName m.name = true) (hnew : m.name ∉ ms.map Mst.name) (ho : ∀ o, m.over = some o → o ∈ ms.map Mst.name) (hown : OwnOk pool2 m) (hp2 : ∀ x ∈ pool2, isName x = true) (hl : ms.length ≤ 11) : DeckOk (pool ++ pool2) (ms ++ [m]) sl := by
  have sub : ∀ x ∈ ms.map Mst.name, x ∈ (ms ++ [m]).map Mst.name := fun x hx => by rw [List.map_append]; exact List.mem_append_left _ hx
  refine ⟨⟨?_, fun x hx => ?_, fun x hx => ?_, ?_⟩, fun x hx => ?_, by simp, by simp; omega, h.nd, fun x hx => (h.s x hx).mono sub fun _ z => z, h.s40⟩
  · rw [List.map_append]
    refine List.nodup_append.mpr ⟨h.m.nd, by simp, fun a ha b hb e => ?_⟩
    have : b = m.name := by simpa using hb
    exact hnew (by rw [← this, ← e]; exact ha)
  · rcases List.mem_append.mp hx with z | z
    · exact h.m.nm x z
    · rw [List.mem_singleton.mp z]; exact hn
  · rcases List.mem_append.mp hx with z | z
    · exact (h.m.own x z).more fun y hy => List.mem_append_left _ hy
    · rw [List.mem_singleton.mp z]; exact hown.more fun y hy => List.mem_append_right _ hy
  · obtain ⟨rk, hrk⟩ := h.m.rk
    have ne : ∀ x ∈ ms, x.name ≠ m.name := fun x hx e => hnew (by rw [← e]; exact List.mem_map_of_mem hx)
    refine ⟨fun x => if x = m.name then ms.length else rk x, fun x hx => ?_⟩
    rcases List.mem_append.mp hx with z | z
    · have hr := hrk x z
      refine ⟨?_, fun o hov => ?_⟩
      · simp only [if_neg (ne x z), List.length_append, List.length_cons, List.length_nil]
        have := hr.1
        omega
      · obtain ⟨⟨m', hm', e⟩, hlt⟩ := hr.2 o hov
        refine ⟨⟨m', List.mem_append_left _ hm', e⟩, ?_⟩
        have hoo : o ≠ m.name := fun e2 => ne m' hm' (by rw [e, e2])
        simp only [if_neg (ne x z), if_neg hoo]
        exact hlt
    · rw [List.mem_singleton.mp z]
      refine ⟨by simp, fun o hov => ?_⟩
      have hin := ho o hov
      obtain ⟨m', hm', e⟩ := List.mem_map.mp hin
      have hoo : o ≠ m.name := fun e2 => hnew (by rw [← e2]; exact hin)
      refine ⟨⟨m', List.mem_append_left _ hm', e⟩, ?_⟩
      simp only [if_true, if_neg hoo]
      rw [← e]
      exact (hrk m' hm').1
  · rcases List.mem_append.mp hx with z | z
    · exact h.p x z
    · exact hp2 x z
theorem filter_lt {α : Type} {l : List α} {p q : α → Bool} (hpq : ∀ x ∈ l, p x = true → q x = true) {a : α} (ha : a ∈ l) (hp : p a = false) (hq : q a = true) : (l.filter p).length < (l.filter q).length := by
  induction l with
  | nil => cases ha
  | cons x l ih =>
    have le : ∀ l : List α, (∀ x ∈ l, p x = true → q x = true) → (l.filter p).length ≤ (l.filter q).length := fun l => by
      intro h
      induction l with
      | nil => exact Nat.le_refl _
      | cons y l ih2 =>
        have := ih2 fun z hz => h z (List.mem_cons_of_mem _ hz)
        rw [List.filter_cons, List.filter_cons]
        cases hy : p y with
        | true => rw [h y (List.mem_cons_self ..) hy]; simp; omega
        | false => cases q y <;> simp <;> omega
    have hpq' : ∀ y ∈ l, p y = true → q y = true := fun y hy => hpq y (List.mem_cons_of_mem _ hy)
    rw [List.filter_cons, List.filter_cons]
    rcases List.mem_cons.mp ha with rfl | ha
    · rw [hp, hq]
      have := le l hpq'
      simp
      omega
    · have := ih hpq' ha
      cases hx : p x with
      | true => rw [hpq x (List.mem_cons_self ..) hx]; simp; omega
      | false => cases q x <;> simp <;> omega
theorem DeckOk.drop (h : DeckOk pool ms sl) {t : Tx} (ht : t ∈ ms.map Mst.name) (hns : ∀ p ∈ sl, p.master ≠ t) (hno : ∀ m ∈ ms, m.over ≠ some t) (h2 : 2 ≤ ms.length) : DeckOk pool (ms.filter fun m => !(m.name == t)) sl := by
  have hsub : ∀ m, m ∈ (ms.filter fun m => !(m.name == t)) ↔ m ∈ ms ∧ m.name ≠ t := fun m => by simp [List.mem_filter]
  have hmem : ∀ x, x ∈ ms.map Mst.name → x ≠ t → x ∈ (ms.filter fun m => !(m.name == t)).map Mst.name := fun x hx hne => by
    obtain ⟨m, hm, rfl⟩ := List.mem_map.mp hx
    exact List.mem_map_of_mem ((hsub m).mpr ⟨hm, hne⟩)
  have hlen : (ms.filter fun m => !(m.name == t)).length ≤ ms.length := List.length_filter_le _ _
  have hpos : 1 ≤ (ms.filter fun m => !(m.name == t)).length := by
    -- two unlike names: one of them is another one
    obtain ⟨a, b, hab, ha, hb⟩ : ∃ a b : Mst, a.name ≠ b.name ∧ a ∈ ms ∧ b ∈ ms := by
      match ms, h2, h.m.nd with
      | a :: b :: l, _, nd =>
        refine ⟨a, b, fun e => ?_, List.mem_cons_self .., List.mem_cons_of_mem _ (List.mem_cons_self ..)⟩
        simp only [List.map_cons, List.nodup_cons, List.mem_cons] at nd
        exact nd.1 (.inl e)
    by_cases e : a.name = t
    · exact List.length_pos_of_mem ((hsub b).mpr ⟨hb, fun e2 => hab (e.trans e2.symm)⟩)
    · exact List.length_pos_of_mem ((hsub a).mpr ⟨ha, e⟩)
  refine ⟨⟨?_, fun x hx => h.m.nm x ((hsub x).mp hx).1, fun x hx => h.m.own x ((hsub x).mp hx).1, ?_⟩, h.p, hpos, Nat.le_trans hlen h.m12, h.nd, fun x hx => ?_, h.s40⟩
  · exact h.m.nd.sublist (List.Sublist.map _ List.filter_sublist)
  · obtain ⟨rk, hrk⟩ := h.m.rk
    refine ⟨fun x => ((ms.filter fun m => !(m.name == t)).filter fun m => decide (rk m.name < rk x)).length, fun x hx => ⟨?_, fun o ho => ?_⟩⟩
    · have := filter_lt (l := ms.filter fun m => !(m.name == t)) (p := fun m => decide (rk m.name < rk x.name)) (q := fun _ => true) (fun _ _ _ => rfl) hx (by simp) rfl
      simpa using this
    · have hx' := (hsub x).mp hx
      obtain ⟨⟨m', hm', e⟩, hlt⟩ := (hrk x hx'.1).2 o ho
      have hne : m'.name ≠ t := fun e2 => hno x hx'.1 (by rw [ho, ← e, e2])
      have hm2 := (hsub m').mpr ⟨hm', hne⟩
      refine ⟨⟨m', hm2, e⟩, ?_⟩
      refine filter_lt (fun y hy hy2 => ?_) hm2 (by simp [e]) (by simp [e]; exact hlt)
      simp only [decide_eq_true_eq] at hy2 ⊢
      omega
  · have hs := h.s x hx
    exact { hs with ms := hmem _ hs.ms (hns x hx) }
end
end Mr

namespace Mr
open PySem PySem.Spec PyProof PyProof.Rows L2
section
variable {s : Store} {Φ : D → Store → Prop} {Ξ : Xc → Store → Prop} {pool : List Tx} {ms : List Mst} {sl : List Sld}
theorem findM_in {n : Tx} (h : n ∈ ms.map Mst.name) : ∃ m, findM ms n = some m := by
  cases e : findM ms n with
  | some m => exact ⟨m, rfl⟩
  | none =>
    obtain ⟨m, hm, rfl⟩ := List.mem_map.mp h
    exact absurd (beq_self_eq_true m.name) (List.find?_eq_none.mp e m hm)
end
end Mr

namespace Mr
open PySem PySem.Spec PyProof PyProof.Rows L2
inductive Out where
  | no (c : Str) (w : Tx)
  | yes (d : D)
def Out.d : Out → D
  | .no _ w => .tup [.bl false, .str w]
  | .yes d => .tup [.bl true, d]
def Out.q (o : Out) (s : Store) (Φ : D → Store → Prop) (Ξ : Xc → Store → Prop) : Prop := match o with
  | .no c _ => Ξ ⟨c, []⟩ s
  | .yes d => Φ d s
end Mr

namespace Mr
open PySem PySem.Spec PyProof.Rows L2
section
variable {s : Store} {Φ : D → Store → Prop} {Ξ : Xc → Store → Prop} {pool : List Tx} {ms : List Mst} {sl : List Sld}
theorem LinksX.of {names : List Tx} {l : List Lnk} (h : LinksX l) {p : Sld} (hp : p.links = l) (ha : astrayB names p = false) : LinksOk names l := by
  refine ⟨fun k hk => (h.x k hk).1, fun k hk => ?_, h.up, h.len⟩
  unfold astrayB at ha
  rw [hp] at ha
  have := (List.any_eq_false.mp ha) k hk
  cases e : k.2 with
  | to n =>
    rw [e] at this
    have this : ¬ (!decide (n ∈ names)) = true := this
    simp only [Bool.not_eq_true', decide_eq_false_iff_not, Classical.not_not] at this
    exact this
  | _ => trivial
theorem SldX.of {over names : List Tx} {p : Sld} (h : SldX p) (hm : p.master ∈ over) (ha : astrayB names p = false) : SldOk over names p := ⟨h.nm, hm, h.hs, h.fs, h.ss.1, h.ss.2, h.ls.of rfl ha, h.nl, h.nt⟩
theorem LinksOk.x {names : List Tx} {l : List Lnk} (h : LinksOk names l) (hn : ∀ x ∈ names, isName x = true) : LinksX l := ⟨fun k hk => ⟨h.nm k hk, fun n e => hn n (by have := h.tg k hk; rw [e] at this; exact this)⟩, h.up, h.len⟩
theorem SldOk.x {over names : List Tx} {p : Sld} (h : SldOk over names p) (ho : ∀ x ∈ over, isName x = true) (hn : ∀ x ∈ names, isName x = true) : SldX p := ⟨h.nm, ho _ h.ms, h.hs, h.fs, ⟨h.sl, h.ss⟩, h.ls.x hn, h.nl, h.nt⟩
end
end Mr

namespace Mr
open PySem PySem.Spec PyProof.Rows L2
section
variable {s : Store} {Φ : D → Store → Prop} {Ξ : Xc → Store → Prop} {pool : List Tx} {ms : List Mst} {sl : List Sld}
def putS (sl : List Sld) (q : Sld) : List Sld := sl.map fun x => if (x.name == q.name) = true then q else x
theorem putS_names (sl : List Sld) (q : Sld) : (putS sl q).map Sld.name = sl.map Sld.name := by
  unfold putS
  rw [List.map_map]
  refine List.map_congr_left fun x _ => ?_
  show (if (x.name == q.name) = true then q else x).name = x.name
  cases h : x.name == q.name with
  | true => rw [if_pos rfl]; exact (beq_iff_eq.mp h).symm
  | false => rw [if_neg Bool.false_ne_true]
theorem putS_len (sl : List Sld) (q : Sld) : (putS sl q).length = sl.length := List.length_map ..
theorem deck_putS (h : DeckOk pool ms sl) {q : Sld} (hq : SldOk (ms.map Mst.name) (sl.map Sld.name) q) : DeckOk pool ms (putS sl q) := by
  refine ⟨h.m, h.p, h.m1, h.m12, by rw [putS_names]; exact h.nd, fun x hx => ?_, by rw [putS_len]; exact h.s40⟩
  rw [putS_names]
  obtain ⟨y, hy, rfl⟩ := List.mem_map.mp hx
  split
  · exact hq
  · exact h.s y hy
end
end Mr

namespace Mr
open PySem PySem.Spec PyProof.Rows L2
theorem eqv_refl : ∀ d : D, d.plain = true → D.eqv d d = true
  | .non, _ => rfl
  | .bl b, _ => by simp [D.eqv]
  | .int i, _ => by simp [D.eqv]
  | .str x, _ => by simp [D.eqv]
  | .lst xs, h => by
    simp only [D.eqv]
    exact eqvL_refl xs (by simpa [D.plain] using h)
  | .tup xs, h => by
    simp only [D.eqv]
    exact eqvL_refl xs (by simpa [D.plain] using h)
where eqvL_refl : ∀ xs : List D, D.plainL xs = true → D.eqvL xs xs = true
  | [], _ => rfl
  | x :: xs, h => by
    simp only [D.plainL, Bool.and_eq_true] at h
    simp only [D.eqvL, eqv_refl x h.1, eqvL_refl xs h.2, Bool.and_self]
section
variable {s : Store} {Φ : D → Store → Prop} {Ξ : Xc → Store → Prop} {pool : List Tx} {ms : List Mst} {sl : List Sld}
theorem z_mul_tup (a : List D) (b : Int) (h : b ≤ 1000 ∧ -1000 ≤ b ∧ a.length ≤ 1000) : wz (opMul (.tup a) (.int b)) s Φ Ξ = Φ (.tup (repL b.toNat a)) s := by
  unfold opMul
  simp only [if_pos h]
  rfl
end
end Mr

namespace Mr
open PySem PySem.Spec PyProof PyProof.Rows L2
section
variable {α : Type} {β : Type} [DecidableEq β]
def byMark (ts : List β) (f : α → β) (l : List α) : List α := ts.flatMap fun x => l.filter fun p => decide (f p = x)
theorem byMark_perm {f : α → β} : ∀ {ts : List β} {l : List α}, ts.Nodup → (∀ p ∈ l, f p ∈ ts) → (byMark ts f l).Perm l
  | [], l, _, h => by
    cases l with
    | nil => exact List.Perm.refl _
    | cons p l => exact absurd (h p (List.mem_cons_self ..)) (by simp)
  | x :: ts, l, nd, h => by
    obtain ⟨n1, n2⟩ := List.nodup_cons.mp nd
    have e : byMark ts f l = byMark ts f (l.filter fun p => !decide (f p = x)) := by
      unfold byMark
      rw [List.flatMap_def, List.flatMap_def]
      refine congrArg List.flatten (List.map_congr_left fun y hy => ?_)
      rw [List.filter_filter]
      refine List.filter_congr fun p _ => ?_
      by_cases q : f p = y
      · have : f p ≠ x := fun z => n1 (by rw [← z, q]; exact hy)
        simp [q, this]
        exact fun z => this (q.trans z)
      · simp [q]
    have ih := byMark_perm (f := f) (ts := ts) (l := l.filter fun p => !decide (f p = x)) n2 fun p hp => by
      obtain ⟨h1, h2⟩ := List.mem_filter.mp hp
      rcases List.mem_cons.mp (h p h1) with z | z
      · simp [z] at h2
      · exact z
    show (l.filter (fun p => decide (f p = x)) ++ byMark ts f l).Perm l
    rw [e]
    exact (List.Perm.append_left _ ih).trans (List.filter_append_perm (fun p => decide (f p = x)) l)
theorem nd_inj {f : α → β} : ∀ {l : List α}, (l.map f).Nodup → ∀ a ∈ l, ∀ b ∈ l, f a = f b → a = b
  | [], _, _, h, _, _, _ => by cases h
  | c :: l, nd, a, ha, b, hb, e => by
    obtain ⟨n1, n2⟩ := List.nodup_cons.mp nd
    rcases List.mem_cons.mp ha with ha | ha
    · rcases List.mem_cons.mp hb with hb | hb
      · rw [ha, hb]
      · rw [ha] at e
        exact absurd (List.mem_map.mpr ⟨b, hb, e.symm⟩) n1
    · rcases List.mem_cons.mp hb with hb | hb
      · rw [hb] at e
        exact absurd (List.mem_map.mpr ⟨a, ha, e⟩) n1
      · exact nd_inj n2 a ha b hb e
theorem byMark_sub {f : α → β} : ∀ {ts : List β} {l : List α}, (l.map f).Nodup → ((byMark ts f l).map f).Sublist ts
  | [], _, _ => List.Sublist.slnil
  | x :: ts, l, nd => by
    show ((l.filter (fun p => decide (f p = x)) ++ byMark ts f l).map f).Sublist (x :: ts)
    rw [List.map_append]
    have h1 : ((l.filter fun p => decide (f p = x)).map f).Sublist [x] := by
      have q : ((l.filter fun p => decide (f p = x)).map f).Nodup := nd.sublist ((List.filter_sublist ..).map f)
      cases e : (l.filter fun p => decide (f p = x)) with
      | nil => exact List.nil_sublist _
      | cons a r =>
        have ha : f a = x := of_decide_eq_true (List.mem_filter.mp (e ▸ List.mem_cons_self .. : a ∈ l.filter fun p => decide (f p = x))).2
        cases r with
        | nil => rw [List.map_cons, ha]; exact List.Sublist.refl _
        | cons b r =>
          have hb : f b = x := of_decide_eq_true (List.mem_filter.mp (e ▸ List.mem_cons_of_mem _ (List.mem_cons_self ..) : b ∈ l.filter fun p => decide (f p = x))).2
          rw [e, List.map_cons, List.map_cons, ha, hb] at q
          exact absurd (List.mem_cons_self ..) (List.nodup_cons.mp q).1
    exact (h1.append (byMark_sub nd) : _)
end
end Mr

namespace Mr
open PySem PySem.Spec PyProof PyProof.Rows L2
def cutT (l : List (Tx × D)) (t : Tx) : List (Tx × D) := l.filter fun p => !(p.1 == t)
def withL (l : List (Tx × D)) (t : Tx) (w : Option D) : List (Tx × D) := byMark traits Prod.fst (cutT l t ++ (w.map fun d => (t, d)).toList)
section
variable {s : Store} {Φ : D → Store → Prop} {Ξ : Xc → Store → Prop}
theorem cut_nd {l : List (Tx × D)} {t : Tx} {w : Option D} (nd : (l.map Prod.fst).Nodup) : ((cutT l t ++ (w.map fun d => (t, d)).toList).map Prod.fst).Nodup := by
  have h1 : ((cutT l t).map Prod.fst).Nodup := nd.sublist ((List.filter_sublist ..).map _)
  rw [List.map_append]
  cases w with
  | none => simpa using h1
  | some d =>
    refine List.nodup_append.mpr ⟨h1, by simp, fun a ha b hb => ?_⟩
    have hb : b = t := by simpa using hb
    obtain ⟨p, hp, rfl⟩ := List.mem_map.mp ha
    have := (List.mem_filter.mp hp).2
    rw [hb]
    exact fun z => by simp [z] at this
theorem cut_mem {l : List (Tx × D)} {t : Tx} {w : Option D} (h : ∀ p ∈ l, p.1 ∈ traits) (ht : t ∈ traits) : ∀ p ∈ cutT l t ++ (w.map fun d => (t, d)).toList, p.1 ∈ traits := by
  intro p hp
  rcases List.mem_append.mp hp with z | z
  · exact h p (List.mem_filter.mp z).1
  · cases w with
    | none => simp at z
    | some d =>
      have z : p = (t, d) := by simpa using z
      rw [z]; exact ht
theorem withL_sub {l : List (Tx × D)} {t : Tx} {w : Option D} (nd : (l.map Prod.fst).Nodup) : ((withL l t w).map Prod.fst).Sublist traits := byMark_sub (cut_nd nd)
theorem withL_mem {l : List (Tx × D)} {t : Tx} {w : Option D} (h : ∀ p ∈ l, p.1 ∈ traits) (ht : t ∈ traits) {p : Tx × D} : p ∈ withL l t w ↔ p ∈ cutT l t ∨ (p.1 = t ∧ w = some p.2) := by
  have tn : traits.Nodup := by decide
  rw [withL, (byMark_perm tn (cut_mem h ht)).mem_iff, List.mem_append]
  refine or_congr Iff.rfl ?_
  cases w with
  | none => simp
  | some d =>
    obtain ⟨a, b⟩ := p
    simp
    exact fun _ => eq_comm
end
end Mr

namespace Mr
open PySem PySem.Spec PyProof PyProof.Rows L2
def setM (ms : List Mst) (m : Mst) : List Mst := ms.map fun x => if (x.name == m.name) = true then m else x
section
variable {s : Store} {Φ : D → Store → Prop} {Ξ : Xc → Store → Prop} {pool : List Tx} {ms : List Mst} {sl : List Sld}
theorem zm0 (m : Mst) : wz (opIx m.d (.int 0)) s Φ Ξ = Φ (.str m.name) s := mst_ix0 m
theorem zm1 (m : Mst) : wz (opIx m.d (.int 1)) s Φ Ξ = Φ (overD m.over) s := mst_ix1 m
end
end Mr

namespace Mr
open PySem PySem.Spec PyProof PyProof.Rows L2
section
variable {s : Store} {Φ : D → Store → Prop} {Ξ : Xc → Store → Prop} {pool : List Tx} {ms : List Mst} {sl : List Sld}
theorem PlcOk.mem {p : Plc} (h : PlcOk p) : ∀ q ∈ p.sets, q.1 ∈ traits := fun q hq => h.sub.subset (List.mem_map_of_mem hq)
theorem PlcOk.nd {p : Plc} (h : PlcOk p) : (p.sets.map Prod.fst).Nodup := List.Nodup.sublist h.sub (by decide)
theorem PlcOk.len {p : Plc} (h : PlcOk p) : p.sets.length ≤ 6 := by
  have := h.sub.length_le
  rwa [List.length_map] at this
theorem PlcOk.with {p : Plc} (h : PlcOk p) {t : Tx} {w : Option D} (ht : t ∈ traits) (hw : ∀ d, w = some d → WorthOk t d) (n : Tx) : PlcOk ⟨n, withL p.sets t w, p.lines⟩ := by
  refine ⟨withL_sub h.nd, fun q hq => ?_, h.ls⟩
  rcases (withL_mem h.mem ht).mp hq with z | ⟨z1, z2⟩
  · exact h.ws q (List.mem_filter.mp z).1
  · rw [z1]; exact hw _ z2
theorem setM_names (ms : List Mst) (m : Mst) : (setM ms m).map Mst.name = ms.map Mst.name := by
  unfold setM
  rw [List.map_map]
  refine List.map_congr_left fun x _ => ?_
  show (if (x.name == m.name) = true then m else x).name = x.name
  cases h : x.name == m.name with
  | true => rw [if_pos rfl]; exact (beq_iff_eq.mp h).symm
  | false => rw [if_neg Bool.false_ne_true]
theorem setM_len (ms : List Mst) (m : Mst) : (setM ms m).length = ms.length := List.length_map ..
theorem setM_mem {ms : List Mst} {m x : Mst} (h : x ∈ setM ms m) : x = m ∨ (x ∈ ms ∧ x.name ≠ m.name) := by
  obtain ⟨y, hy, rfl⟩ := List.mem_map.mp h
  cases e : y.name == m.name with
  | true => exact .inl (if_pos rfl)
  | false => exact .inr ⟨by simpa using hy, by simpa using (beq_eq_false_iff_ne.mp e)⟩
theorem DeckOk.setM (h : DeckOk pool ms sl) {m m' : Mst} {pool2 : List Tx} (hm : m ∈ ms) (hn : m'.name = m.name) (ho : m'.over = m.over) (hown : OwnOk pool2 m') (hp2 : ∀ x ∈ pool2, isName x = true) : DeckOk (pool ++ pool2) (Mr.setM ms m') sl := by
  have hx : ∀ x ∈ Mr.setM ms m', ∃ y ∈ ms, y.name = x.name ∧ y.over = x.over := fun x hx => by
    rcases setM_mem hx with rfl | ⟨z, _⟩
    · exact ⟨m, hm, hn.symm, ho.symm⟩
    · exact ⟨x, z, rfl, rfl⟩
  refine ⟨⟨by rw [setM_names]; exact h.m.nd, fun x hxm => ?_, fun x hxm => ?_, ?_⟩, fun x hxp => ?_, by rw [setM_len]; exact h.m1, by rw [setM_len]; exact h.m12, h.nd, fun x hxs => by rw [setM_names]; exact h.s x hxs, h.s40⟩
  · obtain ⟨y, hy, e, _⟩ := hx x hxm
    rw [← e]
    exact h.m.nm y hy
  · rcases setM_mem hxm with rfl | ⟨z, _⟩
    · exact hown.more fun y hy => List.mem_append_right _ hy
    · exact (h.m.own x z).more fun y hy => List.mem_append_left _ hy
  · obtain ⟨rk, hrk⟩ := h.m.rk
    refine ⟨rk, fun x hxm => ?_⟩
    obtain ⟨y, hy, e1, e2⟩ := hx x hxm
    obtain ⟨h1, h2⟩ := hrk y hy
    rw [setM_len, ← e1]
    refine ⟨h1, fun o hov => ?_⟩
    rw [← e2] at hov
    obtain ⟨⟨z, hz, ez⟩, hlt⟩ := h2 o hov
    refine ⟨?_, hlt⟩
    have : o ∈ (Mr.setM ms m').map Mst.name := by rw [setM_names, ← ez]; exact List.mem_map_of_mem hz
    obtain ⟨z', hz', e'⟩ := List.mem_map.mp this
    exact ⟨z', hz', e'⟩
  · rcases List.mem_append.mp hxp with z | z
    · exact h.p x z
    · exact hp2 x z
end
end Mr

namespace Mr
open PySem PySem.Spec PyProof PyProof.Rows L2
def Vd (x : Str) : Prop := ∀ c ∈ x.cps.toList, Nat.isValidChar c
theorem Vd.app {x y : Str} (hx : Vd x) (hy : Vd y) : Vd (x ++ y) := fun c hc => by
  have e : (x ++ y).cps.toList = x.cps.toList ++ y.cps.toList := by
    show (x.cps ++ y.cps).toList = _
    simp
  rw [e] at hc
  rcases List.mem_append.mp hc with z | z
  · exact hx c z
  · exact hy c z
theorem Vd.of (s : String) : Vd (Str.ofString s) := fun c hc => by
  rw [Str.ofString_eq_toList] at hc
  have hc : c ∈ s.toList.map Char.toNat := by simpa using hc
  obtain ⟨ch, _, rfl⟩ := List.mem_map.mp hc
  exact ch.valid
theorem Vd.toS (t : Tx) : Vd (Mr.toS t) := fun c hc => by
  have hc : c ∈ t.map Char.toNat := by simpa [Mr.toS] using hc
  obtain ⟨ch, _, rfl⟩ := List.mem_map.mp hc
  exact ch.valid
theorem valid_small {c : Nat} (h : c < 128) : Nat.isValidChar c := Or.inl (by omega)
theorem digit_small (n : Nat) : ∀ c ∈ (Nat.toDigits 16 n).map Char.toNat, Nat.isValidChar c := fun c hc => by
  obtain ⟨ch, _, rfl⟩ := List.mem_map.mp hc
  exact ch.valid
theorem reprChar_vd {q c : Nat} (hq : q < 128) (hc : Nat.isValidChar c) : ∀ d ∈ PySem.Builtin.Str.reprChar q c, Nat.isValidChar d := by
  have hex : ∀ w : Nat, ∀ d ∈ List.replicate (w - ((Nat.toDigits 16 c).map Char.toNat).length) 48 ++ (Nat.toDigits 16 c).map Char.toNat, Nat.isValidChar d := fun w d hd => by
    rcases List.mem_append.mp hd with z | z
    · rw [(List.mem_replicate.mp z).2]
      exact valid_small (by decide)
    · exact digit_small c d z
  intro d hd
  unfold PySem.Builtin.Str.reprChar at hd
  dsimp only at hd
  have two : ∀ a b : Nat, Nat.isValidChar a → Nat.isValidChar b → d ∈ [a, b] → Nat.isValidChar d := fun a b ha hb z => by
    rcases List.mem_cons.mp z with e | z
    · rw [e]; exact ha
    · rw [List.mem_singleton.mp z]; exact hb
  split at hd
  · exact two _ _ (valid_small (by decide)) hc hd
  split at hd
  · exact two _ _ (valid_small (by decide)) (valid_small (by decide)) hd
  split at hd
  · exact two _ _ (valid_small (by decide)) (valid_small (by decide)) hd
  split at hd
  · exact two _ _ (valid_small (by decide)) (valid_small (by decide)) hd
  split at hd
  · rw [List.mem_singleton.mp hd]; exact hc
  split at hd
  · rcases List.mem_append.mp hd with z | z
    · exact two _ _ (valid_small (by decide)) (valid_small (by decide)) z
    · exact hex _ d z
  split at hd
  · rcases List.mem_append.mp hd with z | z
    · exact two _ _ (valid_small (by decide)) (valid_small (by decide)) z
    · exact hex _ d z
  · rcases List.mem_append.mp hd with z | z
    · exact two _ _ (valid_small (by decide)) (valid_small (by decide)) z
    · exact hex _ d z
theorem reprText_vd {x : Str} (h : Vd x) : Vd (reprText x) := by
  have hq : reprQuote x < 128 := by
    unfold reprQuote
    split <;> decide
  have key : ∀ (l : List Nat) (acc : Array Nat), (∀ c ∈ l, Nat.isValidChar c) → (∀ c ∈ acc.toList, Nat.isValidChar c) → ∀ c ∈ (l.foldl (fun out c => out ++ (PySem.Builtin.Str.reprChar (reprQuote x) c).toArray) acc).toList, Nat.isValidChar c := by
    intro l
    induction l with
    | nil => exact fun acc _ ha => ha
    | cons a l ih =>
      intro acc hl ha
      refine ih _ (fun c hc => hl c (List.mem_cons_of_mem _ hc)) fun c hc => ?_
      have hc : c ∈ acc.toList ++ PySem.Builtin.Str.reprChar (reprQuote x) a := by simpa using hc
      rcases List.mem_append.mp hc with z | z
      · exact ha c z
      · exact reprChar_vd hq (hl a (List.mem_cons_self ..)) c z
  intro c hc
  unfold reprText at hc
  have hc : c ∈ (x.cps.foldl (fun out c => out ++ (PySem.Builtin.Str.reprChar (reprQuote x) c).toArray) #[reprQuote x]).toList ++ [reprQuote x] := by simpa using hc
  rcases List.mem_append.mp hc with z | z
  · rw [← Array.foldl_toList] at z
    exact key x.cps.toList #[reprQuote x] h (fun c hc => by
      have e : c = reprQuote x := by simpa using hc
      rw [e]; exact valid_small hq) c z
  · rw [List.mem_singleton.mp z]
    exact valid_small hq
theorem textFrom_vd : ∀ (ts : List Str) (k : Nat) (acc : Str), (∀ t ∈ ts, Vd t) → Vd acc → Vd (textFrom k acc ts)
  | [], _, _, _, h => h
  | t :: ts, k, acc, ht, h => by
    unfold textFrom
    refine textFrom_vd ts _ _ (fun x hx => ht x (List.mem_cons_of_mem _ hx)) (.app (.app h ?_) (ht t (List.mem_cons_self ..)))
    split
    · exact Vd.of ", "
    · exact Vd.of ""
theorem listText_vd {ts : List Str} (h : ∀ t ∈ ts, Vd t) : Vd (listText ts) := .app (textFrom_vd ts 0 _ h (Vd.of "[")) (Vd.of "]")
theorem join_vd {p : Str} (hp : Vd p) : ∀ {ts : List Str}, (∀ t ∈ ts, Vd t) → Vd (Str.join p ts)
  | [], _ => fun c hc => by
    have hc : c ∈ ([] : List Nat) := hc
    cases hc
  | [x], h => h x (List.mem_cons_self ..)
  | x :: y :: r, h => by
    show Vd (x ++ p ++ Str.join p (y :: r))
    exact .app (.app (h x (List.mem_cons_self ..)) hp) (join_vd hp fun t ht => h t (List.mem_cons_of_mem _ ht))
theorem tupleText_vd {ts : List Str} (h : ∀ t ∈ ts, Vd t) : Vd (tupleText ts) := by
  refine .app (.app (Vd.of "(") (join_vd (Vd.of ", ") h)) ?_
  split
  · exact Vd.of ",)"
  · exact Vd.of ")"
theorem toNat_ofNat {c : Nat} (h : Nat.isValidChar c) : (Char.ofNat c).toNat = c := by
  unfold Char.ofNat
  rw [dif_pos h]
  rfl
theorem toS_ofS {x : Str} (h : Vd x) : toS (ofS x) = x := by
  unfold toS ofS
  have e : (x.cps.toList.map Char.ofNat).map Char.toNat = x.cps.toList := by
    rw [List.map_map]
    refine (List.map_congr_left fun c hc => toNat_ofNat (h c hc)).trans (List.map_id _)
  rw [e]
mutual
def D.wt : D → Nat
  | .str t => t.length
  | .tup xs => D.wtL xs
  | .lst xs => D.wtL xs
  | .int _ => 32
  | _ => 0
def D.wtL : List D → Nat
  | [] => 0
  | x :: xs => x.wt + 1 + D.wtL xs
end
mutual
def D.tame : D → Bool
  | .int i => decide (i.natAbs < 1000000000)
  | .tup xs => D.tameL xs
  | .lst xs => D.tameL xs
  | .non => true
  | .bl _ => true
  | .str _ => true
  | _ => false
def D.tameL : List D → Bool
  | [] => true
  | x :: xs => x.tame && D.tameL xs
end
end Mr

namespace Mr
open PySem PySem.Spec PyProof PyProof.Rows L2
structure Lm (n B : Nat) (d : D) : Prop where
  tm : d.tame = true
  dp : d.depth ≤ n
  wt : d.wt ≤ B
theorem Lm.mono {n B n' B' : Nat} {d : D} (h : Lm n B d) (hn : n ≤ n' := by omega) (hB : B ≤ B' := by omega) : Lm n' B' d := ⟨h.tm, Nat.le_trans h.dp hn, Nat.le_trans h.wt hB⟩
theorem tameL_all : ∀ {xs : List D}, (∀ x ∈ xs, x.tame = true) → D.tameL xs = true
  | [], _ => by simp [D.tameL]
  | x :: xs, h => by simp [D.tameL, h x (List.mem_cons_self ..), tameL_all fun y hy => h y (List.mem_cons_of_mem _ hy)]
theorem depthL_le {n : Nat} : ∀ {xs : List D}, (∀ x ∈ xs, x.depth ≤ n) → D.depthL xs ≤ n
  | [], _ => by simp [D.depthL]
  | x :: xs, h => by
    have h1 := h x (List.mem_cons_self ..)
    have h2 := depthL_le (n := n) (xs := xs) fun y hy => h y (List.mem_cons_of_mem _ hy)
    simp only [D.depthL]
    omega
theorem wtL_le {n : Nat} : ∀ {xs : List D}, (∀ x ∈ xs, x.wt ≤ n) → D.wtL xs ≤ xs.length * (n + 1)
  | [], _ => by simp [D.wtL]
  | x :: xs, h => by
    have h1 := h x (List.mem_cons_self ..)
    have h2 := wtL_le (n := n) (xs := xs) fun y hy => h y (List.mem_cons_of_mem _ hy)
    simp only [D.wtL, List.length_cons, Nat.add_mul]
    omega
theorem Lm.tup {α : Type} {f : α → D} {l : List α} {n B m : Nat} (h : ∀ x ∈ l, Lm n B (f x)) (hm : l.length ≤ m) : Lm (n + 1) (m * (B + 1)) (.tup (l.map f)) := by
  have h' : ∀ x ∈ l.map f, Lm n B x := fun x hx => by
    obtain ⟨y, hy, rfl⟩ := List.mem_map.mp hx
    exact h y hy
  refine ⟨by simp only [D.tame]; exact tameL_all fun x hx => (h' x hx).tm, ?_, ?_⟩
  · have := depthL_le fun x hx => (h' x hx).dp
    simp only [D.depth]
    omega
  · have := wtL_le fun x hx => (h' x hx).wt
    rw [List.length_map] at this
    simp only [D.wt]
    exact Nat.le_trans this (Nat.mul_le_mul_right _ hm)
theorem Lm.str {t : Tx} {n : Nat} (h : t.length ≤ n) : Lm 0 n (.str t) := ⟨by simp only [D.tame], by simp [D.depth], by simp only [D.wt]; exact h⟩
theorem Lm.int {i : Int} (h : i.natAbs < 1000000000) : Lm 0 32 (.int i) := ⟨by simp only [D.tame]; exact decide_eq_true h, by simp [D.depth], by simp [D.wt]⟩
theorem Lm.non : Lm 0 0 .non := ⟨by simp only [D.tame], by simp [D.depth], by simp [D.wt]⟩
theorem Lm.row {n : Nat} {xs : List D} (ht : ∀ x ∈ xs, x.tame = true) (hd : ∀ x ∈ xs, x.depth ≤ n) {B : Nat} (hw : D.wtL xs ≤ B) : Lm (n + 1) B (.tup xs) := by
  refine ⟨by simp only [D.tame]; exact tameL_all ht, ?_, by simp only [D.wt]; exact hw⟩
  have := depthL_le hd
  simp only [D.depth]
  omega
theorem lm_name {t : Tx} (h : isName t = true) : Lm 0 8 (.str t) := .str (isName_len h).2
theorem lm_worth {t : Tx} {d : D} (h : WorthOk t d) : Lm 0 32 d := by
  rcases h with ⟨_, x, rfl, hx⟩ | ⟨_, i, rfl, h1, h2⟩ | ⟨_, i, rfl, h1, h2⟩ | ⟨_, i, rfl, h1, h2⟩
  · exact (lm_name hx).mono
  · exact .int (by omega)
  · exact .int (by omega)
  · exact .int (by omega)
theorem trait_len5 {t : Tx} (h : t ∈ traits) : t.length ≤ 5 := by
  have : ∀ t ∈ traits, t.length ≤ 5 := by decide
  exact this t h
theorem lm_two {n1 B1 n2 B2 : Nat} {a b : D} (ha : Lm n1 B1 a) (hb : Lm n2 B2 b) : Lm (max n1 n2 + 1) (B1 + B2 + 2) (.tup [a, b]) := by
  refine .row (fun x hx => ?_) (fun x hx => ?_) ?_
  · simp only [List.mem_cons, List.not_mem_nil, or_false] at hx
    rcases hx with rfl | rfl
    · exact ha.tm
    · exact hb.tm
  · simp only [List.mem_cons, List.not_mem_nil, or_false] at hx
    rcases hx with rfl | rfl
    · have := ha.dp; omega
    · have := hb.dp; omega
  · have := ha.wt
    have := hb.wt
    simp only [D.wtL]
    omega
theorem lm_row {n : Nat} : ∀ {ps : List (Nat × D)}, (∀ p ∈ ps, Lm n p.1 p.2) → Lm (n + 1) ((ps.map fun p => p.1 + 1).sum) (.tup (ps.map Prod.snd)) := fun {ps} h => by
  refine .row (fun x hx => ?_) (fun x hx => ?_) ?_
  · obtain ⟨p, hp, rfl⟩ := List.mem_map.mp hx
    exact (h p hp).tm
  · obtain ⟨p, hp, rfl⟩ := List.mem_map.mp hx
    exact (h p hp).dp
  · induction ps with
    | nil => simp [D.wtL]
    | cons p ps ih =>
      have h1 := (h p (List.mem_cons_self ..)).wt
      have h2 := ih fun q hq => h q (List.mem_cons_of_mem _ hq)
      simp only [List.map_cons, D.wtL, List.sum_cons]
      omega
theorem lm_lines {l : List Tx} (h : l.length ≤ 12 ∧ ∀ t ∈ l, LineOk t) : Lm 1 732 (.tup (l.map D.str)) := Lm.tup (n := 0) (B := 60) (fun t ht => .str (h.2 t ht).len) h.1
theorem lm_place {p : Plc} (h : PlcOk p) (hn : isName p.name = true) : Lm 3 1160 p.d := by
  have hs : Lm 2 402 (.tup (p.sets.map setD)) := (Lm.tup (n := 1) (B := 39) (m := 6) (fun q hq => (lm_two (Lm.str (trait_len5 (h.mem q hq))) (lm_worth (h.ws q hq))).mono) h.len).mono
  have hl : Lm 1 732 (linesD p.lines) := by
    cases e : p.lines with
    | none => exact Lm.non.mono
    | some l => exact lm_lines (h.ls l e)
  exact (lm_row (n := 2) (ps := [(8, .str p.name), (402, .tup (p.sets.map setD)), (732, linesD p.lines)]) (fun q hq => by
    simp only [List.mem_cons, List.not_mem_nil, or_false] at hq
    rcases hq with rfl | rfl | rfl
    · exact (lm_name hn).mono
    · exact hs
    · exact hl.mono)).mono (by omega) (by simp only [List.map_cons, List.map_nil, List.sum_cons, List.sum_nil]; omega)
section
variable {pool : List Tx} {ms : List Mst} {sl : List Sld}
theorem DeckOk.lm_mst (h : DeckOk pool ms sl) {m : Mst} (hm : m ∈ ms) : Lm 5 9400 m.d := by
  have ho : Lm 0 8 (overD m.over) := by
    cases e : m.over with
    | none => exact Lm.non.mono
    | some o =>
      obtain ⟨rk, hrk⟩ := h.m.rk
      obtain ⟨⟨m', hm', e'⟩, _⟩ := (hrk m hm).2 o e
      exact lm_name (by rw [← e']; exact h.m.nm m' hm')
  have hown : Lm 4 (8 * 1161) (.tup (m.own.map Plc.d)) := Lm.tup (n := 3) (B := 1160) (fun p hp => lm_place ((h.m.own m hm).ok p hp).1 (h.p _ ((h.m.own m hm).ok p hp).2)) (h.m.own m hm).len
  exact (lm_row (n := 4) (ps := [(8, .str m.name), (8, overD m.over), (8 * 1161, .tup (m.own.map Plc.d))]) (fun q hq => by
    simp only [List.mem_cons, List.not_mem_nil, or_false] at hq
    rcases hq with rfl | rfl | rfl
    · exact (lm_name (h.m.nm m hm)).mono
    · exact ho.mono
    · exact hown)).mono (by omega) (by simp only [List.map_cons, List.map_nil, List.sum_cons, List.sum_nil]; omega)
theorem DeckOk.lm_sld (h : DeckOk pool ms sl) {p : Sld} (hp : p ∈ sl) : Lm 5 14800 p.d := by
  have s := h.s p hp
  have hh : Lm 2 (48 * 49) (.tup (p.hands.map handD)) := Lm.tup (n := 1) (B := 48) (fun q hq => (lm_row (n := 0) (ps := [(8, .str q.1), (5, .str q.2.1), (32, q.2.2)]) (fun z hz => by
    simp only [List.mem_cons, List.not_mem_nil, or_false] at hz
    rcases hz with rfl | rfl | rfl
    · exact lm_name (s.hs.nm q hq)
    · exact .str (trait_len5 (worth_is (s.hs.ws q hq)).1)
    · exact lm_worth (s.hs.ws q hq))).mono (by omega) (by simp only [List.map_cons, List.map_nil, List.sum_cons, List.sum_nil]; omega)) s.hs.len
  have hf : Lm 3 (12 * 743) (.tup (p.fills.map fillD)) := Lm.tup (n := 2) (B := 742) (fun q hq => (lm_two (lm_name (s.fs.nm q hq)) (lm_lines (s.fs.ls q hq))).mono) s.fs.len
  have hk : ∀ t ∈ kindsL, t.length ≤ 5 := by decide
  have hd : ∀ t ∈ deedsL, t.length ≤ 5 := by decide
  have hst : Lm 2 (24 * 88) (.tup (p.steps.map Stp.d)) := Lm.tup (n := 1) (B := 87) (fun q hq => (lm_row (n := 0) (ps := [(5, .str q.kind), (32, .int q.wait), (5, .str q.deed), (8, .str q.place), (32, lineD q.line)]) (fun z hz => by
    have so := s.ss q hq
    simp only [List.mem_cons, List.not_mem_nil, or_false] at hz
    rcases hz with rfl | rfl | rfl | rfl | rfl
    · exact .str (hk _ so.k)
    · have := so.w; exact .int (by omega)
    · exact .str (hd _ so.e)
    · exact lm_name so.n
    · cases e : q.line with
      | none => exact Lm.non.mono
      | some i => have := so.l i e; exact .int (by omega))).mono (by omega) (by simp only [List.map_cons, List.map_nil, List.sum_cons, List.sum_nil]; omega)) s.sl
  have ht : ∀ t : Tgt, TgtOk (sl.map Sld.name) t → Lm 1 15 t.d := fun t ht => by
    cases t with
    | to n =>
      obtain ⟨x, hx, e⟩ := List.mem_map.mp (show n ∈ sl.map Sld.name from ht)
      exact (lm_two (Lm.str (n := 5) (by decide)) (lm_name (by rw [← e]; exact (h.s x hx).nm))).mono
    | first => exact ⟨by decide, by decide, by decide⟩
    | last => exact ⟨by decide, by decide, by decide⟩
    | back => exact ⟨by decide, by decide, by decide⟩
  have hl : Lm 3 (12 * 26) (.tup (p.links.map linkD)) := Lm.tup (n := 2) (B := 25) (fun q hq => (lm_two (lm_name (s.ls.nm q hq)) (ht q.2 (s.ls.tg q hq))).mono) s.ls.len
  obtain ⟨mm, hmm, em⟩ := List.mem_map.mp s.ms
  exact (lm_row (n := 4) (ps := [(8, .str p.name), (8, .str p.master), (48 * 49, .tup (p.hands.map handD)), (12 * 743, .tup (p.fills.map fillD)), (24 * 88, .tup (p.steps.map Stp.d)), (12 * 26, .tup (p.links.map linkD)), (32, hidD p.hidden), (200, .str p.notes)]) (fun q hq => by
    simp only [List.mem_cons, List.not_mem_nil, or_false] at hq
    rcases hq with rfl | rfl | rfl | rfl | rfl | rfl | rfl | rfl
    · exact (lm_name s.nm).mono
    · exact (lm_name (by rw [← em]; exact h.m.nm mm hmm)).mono
    · exact hh.mono
    · exact hf.mono
    · exact hst.mono
    · exact hl.mono
    · unfold hidD; split <;> exact (Lm.int (by decide)).mono
    · exact (Lm.str s.nl).mono)).mono (by omega) (by simp only [List.map_cons, List.map_nil, List.sum_cons, List.sum_nil]; omega)
theorem DeckOk.lm (h : DeckOk pool ms sl) : Lm 7 800000 (deckD ms sl) := by
  have h1 : Lm 6 (12 * 9401) (.tup (ms.map Mst.d)) := Lm.tup (fun m hm => h.lm_mst hm) h.m12
  have h2 : Lm 6 (40 * 14801) (.tup (sl.map Sld.d)) := Lm.tup (fun m hm => h.lm_sld hm) h.s40
  exact (lm_two h1 h2).mono (by omega) (by decide)
end
end Mr

namespace Mr
open PySem PySem.Spec PyProof PyProof.Rows L2
section
variable {s : Store} {Φ : D → Store → Prop} {Ξ : Xc → Store → Prop} {pool : List Tx} {ms : List Mst} {sl : List Sld}
theorem fm_head {α : Type} {p : α → Bool} {f : α → D} {a : α} : ∀ {l : List α}, l.find? p = some a → ∃ r, l.filterMap (fun x => if p x = true then some (f x) else none) = f a :: r
  | [], h => by cases h
  | x :: l, h => by
    rw [List.find?_cons] at h
    rw [List.filterMap_cons]
    cases hp : p x with
    | true =>
      rw [hp] at h
      obtain rfl : x = a := Option.some.inj h
      exact ⟨_, rfl⟩
    | false =>
      rw [hp] at h
      obtain ⟨r, e⟩ := fm_head (f := f) h
      exact ⟨r, by simp only [Bool.false_eq_true, if_false]; exact e⟩
end
end Mr

namespace Mr
open PySem PySem.Spec PyProof PyProof.Rows L2
theorem ltT_of {a b : Tx} (h : leT a b = true) (n : a ≠ b) : ltT a b = true := by
  cases e : ltT a b with
  | true => rfl
  | false =>
    have h2 : leT b a = true := by unfold leT; rw [e]; rfl
    have := List.le_antisymm ((leT_iff a b).mp h) ((leT_iff b a).mp h2)
    have inj : Function.Injective Char.toNat := fun x y e => by
      have := congrArg Char.ofNat e
      rwa [Char.ofNat_toNat, Char.ofNat_toNat] at this
    exact absurd (List.map_inj_right (fun x y e => inj e) |>.mp this) n
end Mr

namespace Mr
open PySem PySem.Spec PyProof PyProof.Rows L2
section
variable {s : Store} {Φ : D → Store → Prop} {Ξ : Xc → Store → Prop} {pool : List Tx} {ms : List Mst} {sl : List Sld}
theorem FillsOk.nd {l : List Fil} (h : FillsOk l) : (l.map Prod.fst).Nodup := by
  refine List.pairwise_map.mpr (h.up.imp fun {a b} z e => ?_)
  rw [e] at z
  unfold ltT at z
  exact absurd (of_decide_eq_true z) (List.lt_irrefl _)
theorem DeckOk.fills (h : DeckOk pool ms sl) {p : Sld} {F : List Fil} (hp : p ∈ sl) (hF : FillsOk F) : DeckOk pool ms (putS sl { p with fills := F }) := by
  have s := h.s p hp
  exact deck_putS h ⟨s.nm, s.ms, s.hs, hF, s.sl, s.ss, s.ls, s.nl, s.nt⟩
end
end Mr

namespace Mr
open PySem PySem.Spec PyProof PyProof.Rows L2
def ltH (a b : Hnd) : Bool := if a.1 = b.1 then decide (traits.idxOf a.2.1 < traits.idxOf b.2.1) else ltT a.1 b.1
def leH (a b : Hnd) : Bool := !ltH b a
def sortH (l : List Hnd) : List Hnd := l.mergeSort leH
theorem sortH_perm (l : List Hnd) : (sortH l).Perm l := List.mergeSort_perm l _
end Mr

namespace Mr
open PySem PySem.Spec PyProof PyProof.Rows L2
def placesM (ms : List Mst) (m : Mst) : List Tx := placesL (chain ms m.name)
end Mr

namespace Mr
open PySem PySem.Spec PyProof PyProof.Rows L2
theorem nd_sub_len : ∀ {l m : List Tx}, l.Nodup → (∀ x ∈ l, x ∈ m) → l.length ≤ m.length
  | [], _, _, _ => Nat.zero_le _
  | a :: l, m, nd, h => by
    obtain ⟨n1, n2⟩ := List.nodup_cons.mp nd
    have hm := h a (List.mem_cons_self ..)
    have := nd_sub_len (l := l) (m := m.erase a) n2 fun x hx => by
      have : x ≠ a := fun z => n1 (by rw [← z]; exact hx)
      exact (List.mem_erase_of_ne this).mpr (h x (List.mem_cons_of_mem _ hx))
    rw [List.length_erase_of_mem hm] at this
    have := List.length_pos_of_mem hm
    rw [List.length_cons]
    omega
def rnd (ms : List Mst) : Nat → Option Tx → List Tx → Bool
  | _, none, _ => false
  | 0, some _, _ => true
  | n + 1, some t, met => if t ∈ met then true else rnd ms n ((findM ms t).bind Mst.over) (met ++ [t])
def Shut (ms : List Mst) : Prop := ∀ m ∈ ms, ∀ o, m.over = some o → o ∈ ms.map Mst.name
def ringB (ms : List Mst) (t : Tx) : Bool := rnd ms (ms.length + 1) (some t) []
section
variable {s : Store} {Φ : D → Store → Prop} {Ξ : Xc → Store → Prop} {pool : List Tx} {ms : List Mst} {sl : List Sld}
theorem findM_mem {ms : List Mst} {t : Tx} {m : Mst} (e : findM ms t = some m) : m ∈ ms ∧ m.name = t := by
  unfold findM at e
  exact ⟨List.mem_of_find?_eq_some e, by have := List.find?_some e; exact beq_iff_eq.mp this⟩
theorem ring_z {t : Tx} (hl : ms.length ≤ 900) (sh : Shut ms) (ht : t ∈ ms.map Mst.name) (q : Φ (.bl (ringB ms t)) s) : wz (m_comes_round [msD ms, .str t]) s Φ Ξ := by
  simp only [m_comes_round, N_comes_round, b_comes_round, stp]
  refine whilez (fun j e s' => s' = s ∧ ∃ (p : List Tx) (o : Option Tx), e = [some (msD ms), some (overD o), some (.lst (p.map .str))] ∧ p.length + j = ms.length + 1 ∧ p.Nodup ∧ (∀ x ∈ p, x ∈ ms.map Mst.name) ∧ (∀ x, o = some x → x ∈ ms.map Mst.name) ∧ rnd ms j o p = ringB ms t) (n := ms.length + 1) (by omega) ⟨rfl, [], some t, rfl, by simp, List.nodup_nil, fun x hx => (by cases hx), fun x hx => (by cases hx; exact ht), rfl⟩ fun j e s' hI => ?_
  obtain ⟨rfl, p, o, rfl, hlen, nd, hp, ho, hr⟩ := hI
  cases o with
  | none =>
    have : Mr.isNon (overD none) = true := rfl
    simp only [this, Bool.not_true, stp]
    have e : ringB ms t = false := by rw [← hr]; cases j <;> rfl
    rw [e] at q
    exact q
  | some u =>
    have hn : Mr.isNon (overD (some u)) = false := rfl
    have hpl := nd_sub_len nd hp
    rw [List.length_map] at hpl
    cases j with
    | zero => omega
    | succ j =>
      simp only [hn, Bool.not_false, stp]
      refine ⟨by omega, ?_⟩
      have eo : overD (some u) = .str u := rfl
      rw [eo, z_in_lst _ _ (by rw [okD_str, okD_texts]; rfl), dIn_texts]
      unfold rnd at hr
      by_cases hu : u ∈ p
      · rw [if_pos hu] at hr
        rw [← hr] at q
        simp only [hu, decide_true, stp, if_true]
        exact q
      · rw [if_neg hu] at hr
        simp only [hu, decide_false, stp, Bool.false_eq_true, if_false]
        refine ⟨by unfold ltZ sizeLine; simp; omega, ?_⟩
        refine master_by_ok ms u ?_
        obtain ⟨m, em⟩ := findM_in (ho u rfl)
        obtain ⟨hm, hmn⟩ := findM_mem em
        rw [em] at hr ⊢
        try simp only [stp]
        refine (mst_ix1 m).mpr ?_
        try simp only [stp]
        refine ⟨p ++ [u], m.over, by rw [List.map_append]; rfl, by simp; omega, ?_, fun x hx => ?_, fun x hx => sh m hm x hx, hr⟩
        · refine List.nodup_append.mpr ⟨nd, by simp, fun a ha b hb e => ?_⟩
          rw [List.mem_singleton.mp hb] at e
          exact hu (by rw [← e]; exact ha)
        · rcases List.mem_append.mp hx with z | z
          · exact hp x z
          · rw [List.mem_singleton.mp z]; exact ho u rfl
def layM (m : Mst) (o : Option Tx) : Mst := ⟨m.name, o, m.own⟩
theorem DeckOk.shut (h : DeckOk pool ms sl) : Shut ms := fun m hm o ho => by
  obtain ⟨rk, hrk⟩ := h.m.rk
  obtain ⟨⟨m', h1, h2⟩, _⟩ := (hrk m hm).2 o ho
  exact List.mem_map.mpr ⟨m', h1, h2⟩
theorem shut_lay {m : Mst} {o : Option Tx} (sh : Shut ms) (ho : ∀ u, o = some u → u ∈ ms.map Mst.name) : Shut (setM ms (layM m o)) := fun x hx u hu => by
  rw [setM_names]
  rcases setM_mem hx with rfl | ⟨h1, _⟩
  · exact ho u hu
  · exact sh x h1 u hu
theorem rank_low {r : Tx → Nat} (h : ∀ m ∈ ms, ∀ o, m.over = some o → (∃ m' ∈ ms, m'.name = o) ∧ r o < r m.name) : ∃ rk : Tx → Nat, ∀ m ∈ ms, rk m.name < ms.length ∧ ∀ o, m.over = some o → (∃ m' ∈ ms, m'.name = o) ∧ rk o < rk m.name := by
  refine ⟨fun t => (ms.filter fun x => decide (r x.name < r t)).length, fun m hm => ⟨?_, fun o ho => ?_⟩⟩
  · have := filter_lt (l := ms) (p := fun x => decide (r x.name < r m.name)) (q := fun _ => true) (fun _ _ _ => rfl) hm (by simp) rfl
    rw [List.filter_eq_self.mpr (fun _ _ => rfl)] at this
    exact this
  · obtain ⟨⟨m', h1, h2⟩, h3⟩ := h m hm o ho
    refine ⟨⟨m', h1, h2⟩, filter_lt (fun x _ hx => ?_) h1 ?_ ?_⟩
    · have := of_decide_eq_true hx
      exact decide_eq_true (by omega)
    · rw [h2]; simp
    · rw [h2]; exact decide_eq_true h3
inductive Way (ms : List Mst) : Option Tx → List Tx → Prop
  | nil : Way ms none []
  | cons {t : Tx} {m : Mst} {l : List Tx} (e : findM ms t = some m) (w : Way ms m.over l) : Way ms (some t) (t :: l)
theorem way_of (sh : Shut ms) : ∀ (n : Nat) (o : Option Tx) (met : List Tx), (∀ x, o = some x → x ∈ ms.map Mst.name) → rnd ms n o met = false → ∃ l, Way ms o l ∧ l.Nodup ∧ ∀ x ∈ l, x ∉ met
  | n, none, met, _, _ => ⟨[], .nil, List.nodup_nil, fun x hx => by cases hx⟩
  | 0, some t, met, _, h => by cases h
  | n + 1, some t, met, ho, h => by
    unfold rnd at h
    by_cases ht : t ∈ met
    · rw [if_pos ht] at h; cases h
    rw [if_neg ht] at h
    obtain ⟨m, em⟩ := findM_in (ho t rfl)
    obtain ⟨hm, hmn⟩ := findM_mem em
    rw [em] at h
    obtain ⟨l, w, nd, hl⟩ := way_of sh n m.over (met ++ [t]) (fun x hx => sh m hm x hx) h
    refine ⟨t :: l, .cons em w, List.nodup_cons.mpr ⟨fun z => hl t z (List.mem_append_right _ (List.mem_singleton.mpr rfl)), nd⟩, fun x hx => ?_⟩
    rcases List.mem_cons.mp hx with rfl | hx
    · exact ht
    · exact fun z => hl x hx (List.mem_append_left _ z)
theorem idx_ne {a b : Tx} (l : List Tx) (h : ¬ a = b) : (a :: l).idxOf b = l.idxOf b + 1 := by
  rw [List.idxOf_cons, beq_eq_false_iff_ne.mpr h]
  rfl
theorem way_in : ∀ {o : Option Tx} {l : List Tx}, Way ms o l → ∀ x ∈ l, ∀ m, findM ms x = some m → ∀ u, m.over = some u → u ∈ l ∧ (l.Nodup → l.length - l.idxOf u < l.length - l.idxOf x)
  | _, _, .nil, x, hx, _, _, _, _ => by cases hx
  | _, _, .cons (t := t) (m := m0) (l := l) e w, x, hx, m, em, u, hu => by
    rcases List.mem_cons.mp hx with rfl | hx
    · rw [e] at em
      cases em
      rw [hu] at w
      cases w with
      | cons e2 w2 =>
        refine ⟨List.mem_cons_of_mem _ (List.mem_cons_self ..), fun nd => ?_⟩
        have hne : ¬ (u = x) := fun z => (List.nodup_cons.mp nd).1 (by rw [← z]; exact List.mem_cons_self ..)
        rw [List.idxOf_cons_self, idx_ne _ (fun z => hne z.symm), List.idxOf_cons_self]
        simp only [List.length_cons]
        omega
    · obtain ⟨h1, h2⟩ := way_in w x hx m em u hu
      refine ⟨List.mem_cons_of_mem _ h1, fun nd => ?_⟩
      obtain ⟨n1, n2⟩ := List.nodup_cons.mp nd
      have := h2 n2
      have a1 : ¬ (t = u) := fun z => n1 (by rw [z]; exact h1)
      have a2 : ¬ (t = x) := fun z => n1 (by rw [z]; exact hx)
      have b1 := List.idxOf_lt_length_of_mem h1
      have b2 := List.idxOf_lt_length_of_mem hx
      rw [idx_ne _ a1, idx_ne _ a2]
      simp only [List.length_cons]
      omega
theorem setM_find {m' : Mst} {x : Mst} (nd : (ms.map Mst.name).Nodup) (hx : x ∈ setM ms m') : findM (setM ms m') x.name = some x := by
  have nd' : ((setM ms m').map Mst.name).Nodup := by rw [setM_names]; exact nd
  obtain ⟨y, e⟩ := findM_in (ms := setM ms m') (n := x.name) (List.mem_map_of_mem hx)
  obtain ⟨h1, h2⟩ := findM_mem e
  rw [e]
  exact congrArg some (nd_inj nd' y h1 x hx h2)
theorem DeckOk.lay (h : DeckOk pool ms sl) {m : Mst} {o : Option Tx} (hm : m ∈ ms) (ho : ∀ u, o = some u → u ∈ ms.map Mst.name) (hr : ringB (Mr.setM ms (layM m o)) m.name = false) : DeckOk pool (Mr.setM ms (layM m o)) sl := by
  have sh := shut_lay (m := m) h.shut ho
  have hmn : m.name ∈ (Mr.setM ms (layM m o)).map Mst.name := by rw [setM_names]; exact List.mem_map_of_mem hm
  obtain ⟨A, w, nd, _⟩ := way_of sh _ _ _ (fun x hx => by cases hx; exact hmn) hr
  obtain ⟨rk, hrk⟩ := h.m.rk
  have hA : m.name ∈ A := by cases w with | cons e w => exact List.mem_cons_self ..
  refine ⟨⟨by rw [setM_names]; exact h.m.nd, fun x hx => ?_, fun x hx => ?_, ?_⟩, h.p, by rw [setM_len]; exact h.m1, by rw [setM_len]; exact h.m12, h.nd, fun x hx => by rw [setM_names]; exact h.s x hx, h.s40⟩
  · rcases setM_mem hx with rfl | ⟨h1, _⟩
    · exact h.m.nm m hm
    · exact h.m.nm x h1
  · rcases setM_mem hx with rfl | ⟨h1, _⟩
    · exact ⟨(h.m.own m hm).ok, (h.m.own m hm).nd, (h.m.own m hm).len⟩
    · exact h.m.own x h1
  · refine rank_low (r := fun t => if t ∈ A then A.length - A.idxOf t else A.length + 1 + rk t) fun x hx u hu => ?_
    obtain ⟨m', h1, h2⟩ := List.mem_map.mp (sh x hx u hu)
    refine ⟨⟨m', h1, h2⟩, ?_⟩
    by_cases hxA : x.name ∈ A
    · obtain ⟨a1, a2⟩ := way_in w x.name hxA x (setM_find h.m.nd hx) u hu
      rw [if_pos hxA, if_pos a1]
      exact a2 nd
    · rw [if_neg hxA]
      rcases setM_mem hx with rfl | ⟨hx1, hx2⟩
      · exact absurd hA hxA
      · have := ((hrk x hx1).2 u hu).2
        by_cases huA : u ∈ A
        · rw [if_pos huA]; omega
        · rw [if_neg huA]; omega
theorem OwnOk.sub {pool : List Tx} {m : Mst} (h : OwnOk pool m) {own : List Plc} (hs : own.Sublist m.own) (o : Option Tx) : OwnOk pool ⟨m.name, o, own⟩ :=
  ⟨fun p hp => h.ok p (hs.subset hp), h.nd.sublist (hs.map _), Nat.le_trans hs.length_le h.len⟩
theorem PlcOk.bare (n : Tx) : PlcOk ⟨n, [], none⟩ := ⟨List.nil_sublist _, fun q z => (by cases z), fun l z => (by cases z)⟩
theorem PlcOk.text {p : Plc} (h : PlcOk p) (n : Tx) {o : Option (List Tx)} (ho : ∀ l, o = some l → LinesOk l) : PlcOk ⟨n, p.sets, o⟩ := ⟨h.sub, h.ws, fun l z => ho l z⟩
theorem DeckOk.place_name (h : DeckOk pool ms sl) {m : Mst} {p : Tx} (hp : p ∈ placesM ms m) : isName p = true := by
  obtain ⟨x, hx, y, hy, e⟩ := (mem_places p _).mp hp
  rw [← e]
  exact h.p _ ((h.m.own x (chain_mem hx)).ok y hy).2
end
end Mr

namespace Mr
open PySem PySem.Spec PyProof PyProof.Rows L2
def Out.ok : Out → Prop
  | .no c w => (c, w) ∈ wordL
  | .yes d => ∃ pool ms sl, DeckOk pool ms sl ∧ d = deckD ms sl
section
variable {s : Store} {Φ : D → Store → Prop} {Ξ : Xc → Store → Prop} {pool : List Tx} {ms : List Mst} {sl : List Sld}
def cutH (l : List Hnd) (p t : Tx) : List Hnd := l.filter fun h => !(h.1 == p && h.2.1 == t)
theorem leT_anti {a b : Tx} (h1 : leT a b = true) (h2 : leT b a = true) : a = b := by
  refine Decidable.byContradiction fun n => ?_
  have := ltT_of h1 n
  unfold leT at h2
  rw [this] at h2
  cases h2
theorem leH_iff (a b : Hnd) : leH a b = true ↔ (a.1 = b.1 ∧ traits.idxOf a.2.1 ≤ traits.idxOf b.2.1) ∨ (a.1 ≠ b.1 ∧ leT a.1 b.1 = true) := by
  unfold leH ltH leT
  by_cases e : a.1 = b.1
  · rw [if_pos e.symm]
    simp [e]
  · rw [if_neg (fun z => e z.symm)]
    simp [e]
theorem leH_trans (a b c : Hnd) (h1 : leH a b = true) (h2 : leH b c = true) : leH a c = true := by
  rw [leH_iff] at h1 h2 ⊢
  rcases h1 with ⟨e1, h1⟩ | ⟨e1, h1⟩ <;> rcases h2 with ⟨e2, h2⟩ | ⟨e2, h2⟩
  · exact .inl ⟨e1.trans e2, Nat.le_trans h1 h2⟩
  · exact .inr ⟨fun z => e2 (e1.symm.trans z), by rw [e1]; exact h2⟩
  · exact .inr ⟨fun z => e1 (z.trans e2.symm), by rw [← e2]; exact h1⟩
  · refine .inr ⟨fun z => e1 (leT_anti h1 (by rw [z]; exact h2)), leT_trans _ _ _ h1 h2⟩
theorem leH_total (a b : Hnd) : (leH a b || leH b a) = true := by
  rw [Bool.or_eq_true, leH_iff, leH_iff]
  by_cases e : a.1 = b.1
  · rcases Nat.le_total (traits.idxOf a.2.1) (traits.idxOf b.2.1) with h | h
    · exact .inl (.inl ⟨e, h⟩)
    · exact .inr (.inl ⟨e.symm, h⟩)
  · have := leT_total a.1 b.1
    rw [Bool.or_eq_true] at this
    rcases this with h | h
    · exact .inl (.inr ⟨e, h⟩)
    · exact .inr (.inr ⟨fun z => e z.symm, h⟩)
theorem idx_tr {a b : Tx} (ha : a ∈ traits) (hb : b ∈ traits) (e : traits.idxOf a = traits.idxOf b) : a = b := by
  have g : ∀ x ∈ traits, ∀ y ∈ traits, traits.idxOf x = traits.idxOf y → x = y := by decide
  exact g a ha b hb e
def hkey (h : Hnd) : Tx × Tx := (h.1, h.2.1)
theorem sortH_up {l : List Hnd} (ht : ∀ h ∈ l, h.2.1 ∈ traits) (nd : (l.map hkey).Nodup) : (sortH l).Pairwise lessH := by
  have h1 : (sortH l).Pairwise fun a b => leH a b = true := List.pairwise_mergeSort leH_trans leH_total l
  have h2 : ((sortH l).map hkey).Nodup := ((sortH_perm l).map hkey).nodup_iff.mpr nd
  have h3 : (sortH l).Pairwise fun a b => hkey a ≠ hkey b := List.pairwise_map.mp h2
  have h4 : (sortH l).Pairwise fun a b => a.2.1 ∈ traits ∧ b.2.1 ∈ traits := by
    refine List.Pairwise.imp_of_mem (R := fun _ _ => True) (fun {a b} ha hb _ => ⟨ht a ((sortH_perm l).mem_iff.mp ha), ht b ((sortH_perm l).mem_iff.mp hb)⟩) ?_
    exact List.pairwise_of_forall fun _ _ => trivial
  refine ((h1.and h3).and h4).imp fun {a b} z => ?_
  obtain ⟨⟨z1, z2⟩, z3, z4⟩ := z
  unfold lessH
  rcases (leH_iff a b).mp z1 with ⟨e, h⟩ | ⟨e, h⟩
  · rw [if_pos e]
    refine decide_eq_true (Nat.lt_of_le_of_ne h fun ee => z2 ?_)
    exact Prod.ext e (idx_tr z3 z4 ee)
  · rw [if_neg e]
    exact ltT_of h e
theorem HandsOk.mem {l : List Hnd} (h : HandsOk l) : ∀ x ∈ l, x.2.1 ∈ traits := fun x hx => (worth_is (h.ws x hx)).1
theorem HandsOk.nd {l : List Hnd} (h : HandsOk l) : (l.map hkey).Nodup := by
  refine List.pairwise_map.mpr (h.up.imp fun {a b} z e => ?_)
  have e1 : a.1 = b.1 := congrArg (fun x : Tx × Tx => x.1) e
  have e2 : a.2.1 = b.2.1 := congrArg (fun x : Tx × Tx => x.2) e
  unfold lessH at z
  rw [if_pos e1, e2] at z
  exact absurd (of_decide_eq_true z) (Nat.lt_irrefl _)
theorem HandsOk.sub {l m : List Hnd} (h : HandsOk l) (hs : m.Sublist l) : HandsOk m :=
  ⟨fun x hx => h.nm x (hs.subset hx), fun x hx => h.ws x (hs.subset hx), h.up.sublist hs, Nat.le_trans hs.length_le h.len⟩
theorem HandsOk.put {l : List Hnd} (h : HandsOk l) {p t : Tx} {w : D} (hp : isName p = true) (hw : WorthOk t w) (h48 : (cutH l p t).length + 1 ≤ 48) : HandsOk (sortH (cutH l p t ++ [(p, t, w)])) := by
  have hm : ∀ x ∈ sortH (cutH l p t ++ [(p, t, w)]), x ∈ l ∨ x = (p, t, w) := fun x hx => by
    rcases List.mem_append.mp ((sortH_perm _).mem_iff.mp hx) with z | z
    · exact .inl (List.mem_filter.mp z).1
    · exact .inr (List.mem_singleton.mp z)
  refine ⟨fun x hx => ?_, fun x hx => ?_, sortH_up (fun x hx => ?_) ?_, ?_⟩
  · rcases hm x hx with z | rfl
    · exact h.nm x z
    · exact hp
  · rcases hm x hx with z | rfl
    · exact h.ws x z
    · exact hw
  · rcases List.mem_append.mp hx with z | z
    · exact h.mem x (List.mem_filter.mp z).1
    · rw [List.mem_singleton.mp z]; exact (worth_is hw).1
  · rw [List.map_append]
    refine List.nodup_append.mpr ⟨h.nd.sublist ((List.filter_sublist ..).map _), by simp, fun a ha b hb e => ?_⟩
    obtain ⟨x, hx, rfl⟩ := List.mem_map.mp ha
    have hb' : b = (p, t) := by simpa [hkey] using hb
    rw [hb'] at e
    have h2 := (List.mem_filter.mp hx).2
    have e1 : x.1 = p := congrArg Prod.fst e
    have e2 : x.2.1 = t := congrArg Prod.snd e
    simp [e1, e2] at h2
  · rw [(sortH_perm _).length_eq, List.length_append]
    exact h48
theorem DeckOk.hands (h : DeckOk pool ms sl) {p : Sld} {H : List Hnd} (hp : p ∈ sl) (hH : HandsOk H) : DeckOk pool ms (putS sl { p with hands := H }) := by
  have := h.s p hp
  exact deck_putS h (q := { p with hands := H }) ⟨this.nm, this.ms, hH, this.fs, this.sl, this.ss, this.ls, this.nl, this.nt⟩
end
end Mr

namespace Mr
open PySem PySem.Spec PyProof PyProof.Rows L2
def goodC (c : Char) : Bool := decide (32 ≤ c.toNat) && decide (c.toNat ≤ 126) && !(decide (c.toNat = 37) || decide (c.toNat = 92))
theorem good_iff (c : Char) : goodC c = decide (c ∈ okSigns) := by
  have h1 : ∀ c ∈ okSigns, goodC c = true := by decide
  have h2 : ∀ n < 127, goodC (Char.ofNat n) = true → Char.ofNat n ∈ okSigns := by decide
  by_cases h : c ∈ okSigns
  · rw [h1 c h, decide_eq_true h]
  · rw [decide_eq_false h]
    cases g : goodC c with
    | false => rfl
    | true =>
      have hc : c.toNat < 127 := by
        unfold goodC at g
        simp only [Bool.and_eq_true, decide_eq_true_eq] at g
        omega
      have e : Char.ofNat c.toNat = c := Char.ofNat_toNat c
      have := h2 c.toNat hc (by rw [e]; exact g)
      rw [e] at this
      exact absurd this h
section
variable {s : Store} {Φ : D → Store → Prop} {Ξ : Xc → Store → Prop}
theorem nin37 (n : Nat) : wz (opNotIn (.int (n : Nat)) (.tup [.int 37, .int 92])) s Φ Ξ = Φ (.bl (!(decide (n = 37) || decide (n = 92)))) s := by
  have e : dIn (.int (n : Nat)) [.int 37, .int 92] = (decide (n = 37) || decide (n = 92)) := by
    unfold dIn
    simp only [List.any_cons, List.any_nil, D.eqv, Bool.or_false]
    congr 1
    · by_cases h : n = 37
      · subst h; rfl
      · rw [decide_eq_false h, beq_eq_false_iff_ne]; omega
    · by_cases h : n = 92
      · subst h; rfl
      · rw [decide_eq_false h, beq_eq_false_iff_ne]; omega
  rw [nin_tupI (by rfl) (fun c z => by cases z), e]
theorem name2_run {u : D} (hk : Sane u) (s : Store) : m__law_is_name2 [u] s = .ok (.bl (nameD u)) s := run_of fun Φ Ξ q => by
  cases hk with
  | str t ht =>
    have q : Φ (.bl (isName t)) s := q
    cases t with
    | nil =>
      simp only [m__law_is_name2, N__law_is_name2, b__law_is_name2, stp]
      exact q
    | cons c cs =>
      have h1 : (1 : Int) ≤ ((c :: cs).length : Nat) := by simp only [List.length_cons]; omega
      simp only [m__law_is_name2, N__law_is_name2, b__law_is_name2, stp, decide_eq_true h1, Bool.not_true]
      have q : Φ (.bl (decide (cs.length < 8) && decide (c ∈ lets) && (c :: cs).all fun c => decide (c ∈ lets) || decide (c ∈ figs))) s := q
      by_cases h8 : cs.length < 8
      · have h2 : (((c :: cs).length : Nat) : Int) ≤ 8 := by simp only [List.length_cons]; omega
        rw [decide_eq_true h8, Bool.true_and] at q
        simp only [decide_eq_true h2, Bool.not_true, stp, sign_at0]
        have e0 := let_code c
        have fin : (decide (c ∈ lets) = true) → wz (compM [1] (gOne 1) cYes (eBin opIn (eVar 1) (eC (.str ['a', 'b', 'c', 'd', 'e', 'f', 'g', 'h', 'i', 'j', 'k', 'l', 'm', 'n', 'o', 'p', 'q', 'r', 's', 't', 'u', 'v', 'w', 'x', 'y', 'z', '0', '1', '2', '3', '4', '5', '6', '7', '8', '9']))) [some (.str (c :: cs)), none] (Mr.signs (c :: cs))) s (fun ys s => wz (fAll (.lst ys)) s Φ Ξ) Ξ := fun hc => by
          rw [hc, Bool.true_and] at q
          have e : Mr.signs (c :: cs) = (c :: cs).map fun x => D.str [x] := rfl
          rw [e]
          generalize c :: cs = l at q
          refine comp_fm (f := fun x => D.str [x]) (l := l) (fun x => some (.bl (decide (x ∈ lets) || decide (x ∈ figs)))) (fun x hx => ?_) (all_fm q)
          simp only [gOne, wipeE, List.foldl_cons, List.foldl_nil, stp]
          have e2 : decide (x ∈ ['a', 'b', 'c', 'd', 'e', 'f', 'g', 'h', 'i', 'j', 'k', 'l', 'm', 'n', 'o', 'p', 'q', 'r', 's', 't', 'u', 'v', 'w', 'x', 'y', 'z', '0', '1', '2', '3', '4', '5', '6', '7', '8', '9']) = (decide (x ∈ lets) || decide (x ∈ figs)) := by
            rw [show (['a', 'b', 'c', 'd', 'e', 'f', 'g', 'h', 'i', 'j', 'k', 'l', 'm', 'n', 'o', 'p', 'q', 'r', 's', 't', 'u', 'v', 'w', 'x', 'y', 'z', '0', '1', '2', '3', '4', '5', '6', '7', '8', '9'] : List Char) = lets ++ figs from rfl, ← Bool.decide_or]
            congr 1
            exact propext List.mem_append
          rw [e2]
        cases ha : ltT [c] ['a'] with
        | true =>
          rw [ha] at e0
          rw [← e0] at q
          simp only [Bool.not_true, Bool.not_false, stp]
          simpa using q
        | false =>
          rw [ha] at e0
          cases hz : ltT ['z'] [c] with
          | true =>
            rw [hz] at e0
            rw [← e0] at q
            simp only [Bool.not_true, Bool.not_false, stp]
            simpa using q
          | false =>
            rw [hz] at e0
            have := fin e0.symm
            simp only [Bool.not_true, Bool.not_false, stp] at this ⊢
            exact this
      · have h2 : ¬ (((c :: cs).length : Nat) : Int) ≤ 8 := by simp only [List.length_cons]; omega
        rw [decide_eq_false h8, Bool.false_and] at q
        simp only [decide_eq_false h2, Bool.not_false, stp]
        exact q
  | _ => exact q
theorem written2_run {d : D} (h : Sane d) (n : Nat) (s : Store) : m__law_is_written [d, .int (n : Int)] s = .ok (.bl (writtenD d n)) s := run_of fun Φ Ξ q => by
  cases h with
  | str t ht =>
    have q : Φ (.bl (decide (t.length ≤ n) && t.all fun c => decide (c ∈ okSigns))) s := q
    simp only [m__law_is_written, N__law_is_written, b__law_is_written, stp, Bool.not_true]
    rw [gtN]
    cases b1 : decide (t.length ≤ n) with
    | false =>
      rw [b1, Bool.false_and] at q
      simp only [Bool.not_false, stp]
      exact q
    | true =>
      rw [b1, Bool.true_and] at q
      simp only [Bool.not_true, stp]
      rw [show Mr.signs t = t.map (fun c => D.str [c]) from rfl]
      refine comp_fm (f := fun c : Char => D.str [c]) (l := t) (fun c => some (.bl (decide (c ∈ okSigns)))) (fun c _ => ?_) (all_fm q)
      simp only [gOne, wipeE, List.foldl_cons, List.foldl_nil, stp]
      rw [okz (show fOrd (.str [c]) s = .ok (.int (c.toNat : Nat)) s from rfl)]
      simp only [stp]
      have a1 : decide ((32 : Int) ≤ ((c.toNat : Nat) : Int)) = decide (32 ≤ c.toNat) := by congr 1; exact propext ⟨fun _ => by omega, fun _ => by omega⟩
      have a2 : decide (((c.toNat : Nat) : Int) ≤ 126) = decide (c.toNat ≤ 126) := leN _ _
      rw [a1, a2, ← good_iff]
      unfold goodC
      cases b1 : decide (32 ≤ c.toNat) with
      | false => simp
      | true =>
        cases b2 : decide (c.toNat ≤ 126) with
        | false => simp
        | true =>
          simp only [if_true, Bool.true_and]
          rw [okz (show fOrd (.str [c]) s = .ok (.int (c.toNat : Nat)) s from rfl)]
          simp only [stp]
          rw [nin37]
          exact ⟨rfl, rfl⟩
  | _ => exact q
theorem lines2_run {d : D} (h : Sane d) (s : Store) : m__law_is_lines [d] s = .ok (.bl (linesOkD d)) s := run_of fun Φ Ξ q => by
  cases h with
  | tup xs hn hx =>
    have q : Φ (.bl (decide (xs.length ≤ 12) && xs.all fun x => writtenD x 60)) s := q
    simp only [m__law_is_lines, N__law_is_lines, b__law_is_lines, stp]
    have a1 : decide (((xs.length : Nat) : Int) < 13) = decide (xs.length ≤ 12) := by congr 1; exact propext ⟨fun _ => by omega, fun _ => by omega⟩
    rw [a1]
    cases b1 : decide (xs.length ≤ 12) with
    | false =>
      rw [b1, Bool.false_and] at q
      simp only [stp, Bool.false_eq_true, if_false]
      exact q
    | true =>
      rw [b1, Bool.true_and] at q
      simp only [stp, if_true]
      have e0 : xs.map id = xs := List.map_id _
      rw [← e0]
      refine comp_fm (f := id) (l := xs) (fun x => some (.bl (writtenD x 60))) (fun x hxm => ?_) (all_fm q)
      simp only [gOne, wipeE, List.foldl_cons, List.foldl_nil, id, stp]
      rw [okz (show m__law_is_written [x, .int 60] s = _ from written2_run (hx x hxm) 60 s)]
      exact ⟨rfl, rfl⟩
  | _ => exact q
theorem whole_law_run {d : D} (h : Sane d) (s : Store) : m__law_whole [d] s = .ok (.bl (wholeD d)) s := by
  cases h <;> rfl
theorem worth2_run {t : D} {d : D} (ht : Sane t) (h : Sane d) (s : Store) : m__law_is_worth [t, d] s = .ok (.bl (worthB t d && traitD t)) s := run_of fun Φ Ξ q0 => by
  cases ht with
  | str t htl =>
    have q : Φ (.bl (isWorthD t d && decide (t ∈ traits))) s := q0
    clear q0
    simp only [m__law_is_worth, N__law_is_worth, b__law_is_worth, stp, Bool.not_true]
    have e1 : [D.str ['l', 'e', 'f', 't'], D.str ['t', 'o', 'p'], D.str ['w', 'i', 'd', 'e'], D.str ['h', 'i', 'g', 'h'], D.str ['s', 'i', 'z', 'e'], D.str ['i', 'n', 'k']] = traits.map .str := rfl
    rw [e1, nin_tupS]
    by_cases hm : t ∈ traits
    · rw [decide_eq_true hm, Bool.and_true] at q
      simp only [hm, decide_true, Bool.not_true, stp, Bool.false_eq_true, if_false]
      have e2 : [D.str ['l', 'e', 'f', 't'], D.str ['t', 'o', 'p']] = [tLeft, tTop].map .str := rfl
      have e3 : (['i', 'n', 'k'] : Tx) = tInk := rfl
      have e4 : (['s', 'i', 'z', 'e'] : Tx) = tSize := rfl
      rw [e2, e3, e4]
      unfold isWorthD at q
      by_cases hi : t = tInk
      · rw [if_pos hi] at q
        subst hi
        simp only [beq_self_eq_true, stp, if_true]
        rw [okz (name2_run h s)]
        exact q
      rw [if_neg hi] at q
      have hib : (t == tInk) = false := beq_eq_false_iff_ne.mpr hi
      simp only [hib, stp, Bool.false_eq_true, if_false]
      rw [in_tupS]
      by_cases hlt : t = tLeft ∨ t = tTop
      · rw [if_pos hlt] at q
        have hlt' : decide (t ∈ [tLeft, tTop]) = true := decide_eq_true (by simpa using hlt)
        rw [hlt']
        simp only [stp, if_true]
        rw [okz (whole_law_run h s)]
        cases h with
        | int i =>
          have q1 : Φ (.bl (decide (-999 ≤ i) && decide (i ≤ 999))) s := q
          simp only [wholeD, stp, if_true]
          cases b1 : decide (-999 ≤ i) with
          | false =>
            rw [b1, Bool.false_and] at q1
            simp only [stp, Bool.false_eq_true, if_false]
            exact q1
          | true =>
            rw [b1, Bool.true_and] at q1
            simp only [stp, if_true]
            exact q1
        | _ => exact q
      rw [if_neg hlt] at q
      have hlt' : decide (t ∈ [tLeft, tTop]) = false := decide_eq_false (by simpa using hlt)
      rw [hlt']
      simp only [stp, Bool.false_eq_true, if_false]
      rw [okz (whole_law_run h s)]
      cases h with
      | int i =>
        simp only [wholeD, stp, if_true]
        by_cases hz : t = tSize
        · rw [if_pos hz] at q
          subst hz
          have q1 : Φ (.bl (decide (1 ≤ i) && decide (i ≤ 99))) s := q
          simp only [beq_self_eq_true, stp, if_true]
          cases b1 : decide (1 ≤ i) with
          | false =>
            rw [b1, Bool.false_and] at q1
            simp only [stp, Bool.false_eq_true, if_false]
            exact q1
          | true =>
            rw [b1, Bool.true_and] at q1
            simp only [stp, if_true]
            rw [okz (show fInt (.bl true) s = .ok (.int 1) s from rfl), z_ix_lst (show L2.atI [D.int 999, D.int 99] 1 = some (D.int 99) from rfl)]
            simp only [stp]
            exact q1
        · rw [if_neg hz] at q
          have q1 : Φ (.bl (decide (1 ≤ i) && decide (i ≤ 999))) s := q
          have hzb : (t == tSize) = false := beq_eq_false_iff_ne.mpr hz
          simp only [hzb, stp]
          cases b1 : decide (1 ≤ i) with
          | false =>
            rw [b1, Bool.false_and] at q1
            simp only [stp, Bool.false_eq_true, if_false]
            exact q1
          | true =>
            rw [b1, Bool.true_and] at q1
            simp only [stp, if_true]
            rw [okz (show fInt (.bl false) s = .ok (.int 0) s from rfl)]
            simp only [stp]
            exact q1
      | _ => (split at q <;> exact q)
    · rw [decide_eq_false hm, Bool.and_false] at q
      simp only [hm, decide_false, Bool.not_false, stp, if_true]
      exact q
  | _ => exact q0
variable {ms : List Mst}
theorem rounds_z {t : Tx} (hl : ms.length ≤ 900) (nd : (ms.map Mst.name).Nodup) (sh : Shut ms) (ht : t ∈ ms.map Mst.name) (q : Φ (.bl (ringB ms t)) s) : wz (m__law_rounds [msD ms, .str t]) s Φ Ξ := by
  simp only [m__law_rounds, N__law_rounds, b__law_rounds, stp]
  refine whilez (fun j e s' => s' = s ∧ ∃ (p : List Tx) (o : Option Tx), e = [some (msD ms), some (overD o), some (.lst (p.map .str)), none] ∧ p.length + j = ms.length + 1 ∧ p.Nodup ∧ (∀ x ∈ p, x ∈ ms.map Mst.name) ∧ (∀ x, o = some x → x ∈ ms.map Mst.name) ∧ rnd ms j o p = ringB ms t) (n := ms.length + 1) (by omega) ⟨rfl, [], some t, rfl, by simp, List.nodup_nil, fun x hx => (by cases hx), fun x hx => (by cases hx; exact ht), rfl⟩ fun j e s' hI => ?_
  obtain ⟨rfl, p, o, rfl, hlen, ndp, hp, ho, hr⟩ := hI
  cases o with
  | none =>
    have hn : Mr.isNon (overD none) = true := rfl
    simp only [hn, Bool.not_true, stp, Bool.false_eq_true, if_false]
    have e : ringB ms t = false := by rw [← hr]; cases j <;> rfl
    rw [e] at q
    exact q
  | some u =>
    have hn : Mr.isNon (overD (some u)) = false := rfl
    have hpl := nd_sub_len ndp hp
    rw [List.length_map] at hpl
    cases j with
    | zero => omega
    | succ j =>
      have eo : overD (some u) = .str u := rfl
      simp only [hn, Bool.not_false, stp, if_true]
      rw [eo, nin_texts]
      unfold rnd at hr
      by_cases hu : u ∈ p
      · rw [if_pos hu] at hr
        rw [← hr] at q
        have hn2 : Mr.isNon (.str u) = false := rfl
        simp only [hu, decide_true, Bool.not_true, stp, Bool.false_eq_true, if_false, hn2, Bool.not_false]
        exact q
      · rw [if_neg hu] at hr
        simp only [hu, decide_false, Bool.not_false, stp, if_true]
        refine ⟨by omega, by unfold ltZ sizeLine; simp; omega, ?_⟩
        obtain ⟨m, em⟩ := findM_in (ho u rfl)
        obtain ⟨hm, hmn⟩ := findM_mem em
        rw [em] at hr
        unfold msD
        try simp only [stp]
        refine comp_fm (f := Mst.d) (l := ms) (fun x => if (x.name == u) = true then some x.d else none) (fun x _ => ?_) ?_
        · simp only [gOne, wipeE, List.foldl_cons, List.foldl_nil, stp, zm0]
          cases x.name == u <;> simp [stp]
        obtain ⟨r, er⟩ := fm_head (f := Mst.d) em
        rw [er]
        simp only [stp, zm1]
        refine ⟨p ++ [u], m.over, by rw [List.map_append]; rfl, by simp; omega, ?_, fun x hx => ?_, fun x hx => sh m hm x hx, hr⟩
        · refine List.nodup_append.mpr ⟨ndp, by simp, fun a ha b hb e => ?_⟩
          rw [List.mem_singleton.mp hb] at e
          exact hu (by rw [← e]; exact ha)
        · rcases List.mem_append.mp hx with z | z
          · exact hp x z
          · rw [List.mem_singleton.mp z]; exact ho u rfl
end
end Mr

namespace Mr
open PySem PySem.Spec PyProof PyProof.Rows L2
mutual
def D.tameE : D → Bool
  | .int i => decide (i.natAbs < 1000000000)
  | .tup xs => D.tameEL xs
  | .lst xs => D.tameEL xs
  | .non => true
  | .bl _ => true
  | .str _ => true
  | .dic [] [] => true
  | _ => false
def D.tameEL : List D → Bool
  | [] => true
  | x :: xs => x.tameE && D.tameEL xs
end
theorem dictText_nil : dictText [] = Str.ofString "{}" := by decide +kernel
theorem str_short (t : Tx) : (PyData.str (toS t)).leavesShort 13 = true := by
  have : (D.str t).plain = true := by simp only [D.plain]
  exact PyData.leavesShort_of_canLay0 13 _ (D.lay (.str t) this) (by simp only [PyData.intsShort, D.toP])
mutual
theorem tameE_facts : ∀ d : D, d.tameE = true → d.plainE = true ∧ d.toPE.showable = true ∧ d.toPE.leavesShort 13 = true ∧ d.toPE.weight ≤ d.wt ∧ d.toPE.depth ≤ d.depth + 1 ∧ Vd d.toPE.shown
  | .non, _ => by
    simp only [D.plainE, D.toPE, PyData.showable, PyData.leavesShort, PyData.weight, D.wt, PyData.shown, PyData.depth]
    exact ⟨trivial, trivial, trivial, Nat.le_refl _, Nat.zero_le _, Vd.of "None"⟩
  | .bl b, _ => by
    simp only [D.plainE, D.toPE, PyData.showable, PyData.leavesShort, PyData.weight, D.wt, PyData.shown, PyData.depth]
    refine ⟨trivial, trivial, trivial, Nat.le_refl _, Nat.zero_le _, ?_⟩
    cases b
    · exact Vd.of "False"
    · exact Vd.of "True"
  | .int i, h => by
    have hi : i.natAbs < 1000000000 := by simpa [D.tameE] using h
    have hl : i.natAbs.log2 < 30 := by
      by_cases z : i.natAbs = 0
      · rw [z]; decide
      · exact (Nat.log2_lt z).mpr (Nat.lt_trans hi (by decide))
    simp only [D.plainE, D.toPE, PyData.showable, PyData.leavesShort, PyData.weight, D.wt, decide_eq_true_eq, PyData.depth]
    refine ⟨trivial, by omega, PyData.shown_int_le (Nat.lt_trans hi (by decide)), ?_, Nat.zero_le _, ?_⟩
    · split <;> omega
    · simp only [PyData.shown]
      exact Vd.of _
  | .str t, _ => by
    refine ⟨by simp only [D.plainE], by simp only [D.toPE, PyData.showable], by simpa only [D.toPE] using str_short t, ?_, by simp only [D.toPE, PyData.depth]; omega, ?_⟩
    · simp only [D.toPE, PyData.weight, D.wt]
      exact Nat.le_of_eq (toS_length t)
    · simp only [D.toPE, PyData.shown]
      exact reprText_vd (Vd.toS t)
  | .tup xs, h => by
    obtain ⟨a1, a2, a3, a4, a5, a6⟩ := tameE_factsL xs (by simpa [D.tameE] using h)
    simp only [D.plainE, D.toPE, PyData.showable, PyData.leavesShort, PyData.weight, D.wt, PyData.shown, PyData.depth, D.depth]
    exact ⟨a1, a2, a3, a4, by omega, tupleText_vd a6⟩
  | .lst xs, h => by
    obtain ⟨a1, a2, a3, a4, a5, a6⟩ := tameE_factsL xs (by simpa [D.tameE] using h)
    simp only [D.plainE, D.toPE, PyData.showable, PyData.leavesShort, PyData.weight, D.wt, PyData.shown, PyData.depth, D.depth]
    exact ⟨a1, a2, a3, a4, by omega, listText_vd a6⟩
  | .dic [] [], _ => by
    simp only [D.plainE, D.toPE, PyData.showable, PyData.showableKv, PyData.leavesShort, PyData.leavesShortKv, PyData.weight, PyData.weightKv, D.wt, PyData.shown, PyData.shownKv, PyData.depth]
    refine ⟨trivial, trivial, trivial, Nat.zero_le _, by simp [PyData.depthKv], ?_⟩
    rw [dictText_nil]
    exact Vd.of "{}"
theorem tameE_factsL : ∀ xs : List D, D.tameEL xs = true → D.plainEL xs = true ∧ PyData.showableAll (D.toPEL xs) = true ∧ PyData.leavesShortAll 13 (D.toPEL xs) = true ∧ PyData.weightAll (D.toPEL xs) ≤ D.wtL xs ∧ PyData.depthAll (D.toPEL xs) ≤ D.depthL xs + 1 ∧ ∀ t ∈ PyData.shownAll (D.toPEL xs), Vd t
  | [], _ => by
    simp only [D.plainEL, D.toPEL, PyData.showableAll, PyData.leavesShortAll, PyData.weightAll, D.wtL, PyData.depthAll, D.depthL, PyData.shownAll]
    exact ⟨trivial, trivial, trivial, Nat.le_refl _, Nat.zero_le _, fun t z => by cases z⟩
  | x :: xs, h => by
    have h' : x.tameE = true ∧ D.tameEL xs = true := by simpa [D.tameEL] using h
    obtain ⟨a1, a2, a3, a4, a5, a6⟩ := tameE_facts x h'.1
    obtain ⟨b1, b2, b3, b4, b5, b6⟩ := tameE_factsL xs h'.2
    simp only [D.plainEL, D.toPEL, PyData.showableAll, PyData.leavesShortAll, PyData.weightAll, D.wtL, PyData.depthAll, D.depthL, PyData.shownAll, a1, a2, a3, b1, b2, b3, Bool.and_self]
    refine ⟨trivial, trivial, trivial, by omega, by omega, fun t z => ?_⟩
    rcases List.mem_cons.mp z with rfl | z
    · exact a6
    · exact b6 t z
end
theorem reprE_run {d : D} (h : d.tameE = true) (hd : d.depth ≤ 50) (hw : d.wt ≤ 1000000) (s : Store) : fReprE d s = .ok (.str (ofS d.toPE.shown)) s := by
  obtain ⟨h1, h2, h3, h4, h5, h6⟩ := tameE_facts d h
  have hl : d.toPE.shown.length ≤ sizeLine := PyData.shown_fits (B := 13) (by decide) (by decide) h3 (by omega)
  unfold fReprE reprE
  rw [if_pos ⟨h1, h2, by omega, hl, toS_ofS h6⟩]
  rfl
end Mr

namespace Pf
open PySem PySem.Spec PyProof.Rows L2 Mr
def chB : Int → List Int → Bool
  | _, [] => true
  | a, b :: l => decide (a < b) && chB b l
theorem chB_pw : ∀ {l : List Int} {a : Int}, chB a l = true ↔ (a :: l).Pairwise (· < ·)
  | [], a => by simp [chB]
  | b :: l, a => by
    rw [chB, Bool.and_eq_true, chB_pw (l := l) (a := b), decide_eq_true_eq]
    constructor
    · intro ⟨h1, h2⟩
      refine List.pairwise_cons.mpr ⟨fun x hx => ?_, h2⟩
      rcases List.mem_cons.mp hx with rfl | hx
      · exact h1
      · have := (List.pairwise_cons.mp h2).1 x hx
        omega
    · intro h
      have h' := List.pairwise_cons.mp h
      exact ⟨h'.1 b (List.mem_cons_self ..), h'.2⟩
theorem riseI_iff {l : List Int} : riseI l = true ↔ l.Pairwise (· < ·) := by
  refine ⟨riseI_pw, fun h => ?_⟩
  unfold riseI
  refine List.all_eq_true.mpr fun k hk => ?_
  have hk : k < l.length - 1 := List.mem_range.mp hk
  rw [decide_eq_true_eq, List.getD_eq_getElem?_getD, List.getD_eq_getElem?_getD, List.getElem?_eq_getElem (by omega), List.getElem?_eq_getElem (by omega), Option.getD_some, Option.getD_some]
  exact List.pairwise_iff_getElem.mp h k (k + 1) (by omega) (by omega) (by omega)
def goB : Int → List D → Bool
  | _, [] => true
  | a, x :: r => settingD x && (decide (a < tixD x) && goB (tixD x) r)
theorem goB_eq : ∀ {xs : List D} {a : Int}, goB a xs = (xs.all settingD && chB a (xs.map tixD))
  | [], a => rfl
  | x :: xs, a => by
    rw [goB, goB_eq (xs := xs), List.map_cons, chB, List.all_cons]
    cases settingD x <;> cases (xs.all settingD) <;> cases (decide (a < tixD x)) <;> rfl
theorem tix_pos (x : D) : 0 ≤ tixD x := by
  unfold tixD
  split <;> omega
theorem goB_all {xs : List D} : goB (-1) xs = settingsD (.tup xs) := by
  rw [goB_eq, settingsD]
  congr 1
  rw [Bool.eq_iff_iff, chB_pw, riseI_iff, List.pairwise_cons]
  exact ⟨fun h => h.2, fun h => ⟨fun y hy => by
    obtain ⟨x, _, rfl⟩ := List.mem_map.mp hy
    have := tix_pos x
    omega, h⟩⟩
theorem goB_cons {a : Int} {x : D} {r : List D} : goB a (x :: r) = (settingD x && (decide (a < tixD x) && goB (tixD x) r)) := rfl
theorem set_two {a b : D} : settingD (.tup [a, b]) = (worthB a b && traitD a) := by
  cases a with
  | str t => simp only [settingD, worthB, traitD]; exact Bool.and_comm ..
  | _ => rfl
section
variable {s : Store} {Φ : D → Store → Prop} {Ξ : Xc → Store → Prop}
theorem place2_run {d : D} (h : Sane d) (s : Store) : m__law_is_place [d] s = .ok (.bl (placeD d)) s := by
  cases h with
  | tup xs hn hx =>
    refine run_of fun Φ Ξ q => ?_
    simp only [m__law_is_place, N__law_is_place, b__law_is_place]
    generalize hL : (sSeq (sSet 1 (eUn opNeg (eC (.int (1)))))
  (sSeq (sFor (iSeq (eBin opIx (eVar 0) (eC (.int (1))))) (gOne 2)
  (sSeq (sIf (tOr' (tNot' (tVal (eUn (fIs "tuple") (eVar 2)))) (tOr' (tBin opNe (eUn fLen (eVar 2)) (eC (.int (2)))) (tNot' (tVal (eFn m__law_is_worth (lCons (eBin opIx (eVar 2) (eC (.int (0)))) (lCons (eBin opIx (eVar 2) (eC (.int (1)))) lNil)))))))
  (sRet (eC (.bl false)))
  sNext)
  (sSeq (sSet 3 (eMthL fIndex (eLst (lCons (eC (.str ['l', 'e', 'f', 't'])) (lCons (eC (.str ['t', 'o', 'p'])) (lCons (eC (.str ['w', 'i', 'd', 'e'])) (lCons (eC (.str ['h', 'i', 'g', 'h'])) (lCons (eC (.str ['s', 'i', 'z', 'e'])) (lCons (eC (.str ['i', 'n', 'k'])) lNil))))))) (eBin opIx (eVar 2) (eC (.int (0))))))
  (sSeq (sIf (tBin opLe (eVar 3) (eVar 1))
  (sRet (eC (.bl false)))
  sNext)
  (sSet 1 (eVar 3))))))
  (sRet (eC (.bl true))))) = L
    simp only [stp]
    rw [show (((xs.length : Nat) : Int) == 3) = decide (xs.length = 3) from beqN xs.length 3]
    cases h2 : decide (xs.length = 3) with
    | false =>
      have h2 := of_decide_eq_false h2
      simp only [stp, Bool.not_false]
      have : placeD (.tup xs) = false := by
        unfold placeD
        split
        · rename_i a b c e; cases e; exact (h2 rfl).elim
        · rfl
      rw [this] at q
      exact q
    | true =>
      have h2 := of_decide_eq_true h2
      match xs, h2, hx, q with
      | [a, b, c], _, hx, q =>
        simp only [stp, Bool.not_true]
        simp only [placeD] at q
        have key : ∀ xs : List D, b = .tup xs → (∀ x ∈ xs, Sane x) → Φ (.bl (goB (-1) xs)) s → wzS L [some (.tup [a, b, c]), none, none, none] s { nx := fun e' s' => if false = true then False else Φ D.non s', rt := Φ, ex := fun x x_1 s' => Ξ x s' } := by
          intro xs hb hxs qk
          subst hb
          rw [← hL]
          simp only [stp]
          refine for_st (fun last : Int => [some (.tup [a, .tup xs, c]), some (.int last), none, none]) [2, 3] (fun j last st => st = s ∧ goB (-1) xs = goB last (xs.drop j)) (-1) (fl rfl) ⟨rfl, rfl⟩ (fun j d last v st hj hI => ?_) fun last v st hI => ?_
          · obtain ⟨rfl, hg⟩ := hI
            have hd : xs.drop j = d :: xs.drop (j + 1) := by
              have hlt := (List.getElem?_eq_some_iff.mp hj)
              rw [← hlt.2]
              exact (List.getElem_cons_drop ..).symm
            rw [hd, goB_cons] at hg
            have hsd := hxs d (List.mem_of_getElem? hj)
            simp only [gOne, fill_cons, fill_nil, stp]
            cases hsd with
            | tup ys hn2 hy =>
              simp only [stp, Bool.not_true]
              rw [show (((ys.length : Nat) : Int) == 2) = decide (ys.length = 2) from beqN ys.length 2]
              cases h2 : decide (ys.length = 2) with
              | false =>
                have h2 := of_decide_eq_false h2
                simp only [stp, Bool.not_false]
                have : settingD (.tup ys) = false := by
                  unfold settingD
                  split
                  · rename_i t w e; cases e; exact (h2 rfl).elim
                  · rfl
                rw [this, Bool.false_and] at hg
                rw [hg] at qk
                exact qk
              | true =>
                have h2 := of_decide_eq_true h2
                match ys, h2, hy, hg with
                | [y, w], _, hy, hg =>
                  simp only [stp, Bool.not_true]
                  refine (okz (worth2_run (hy y (by simp)) (hy w (by simp)) st)).mpr ?_
                  rw [← set_two]
                  simp only [stp]
                  cases hs : settingD (.tup [y, w]) with
                  | false =>
                    rw [hs, Bool.false_and] at hg
                    rw [hg] at qk
                    simp only [stp, Bool.not_false]
                    exact qk
                  | true =>
                    rw [hs, Bool.true_and] at hg
                    simp only [stp, Bool.not_true]
                    unfold settingD at hs
                    split at hs
                    · rename_i t w' e
                      cases e
                      have ht : t ∈ traits := of_decide_eq_true (Bool.and_eq_true_iff.mp hs).1
                      refine index_z (l := traits) ht ?_
                      simp only [stp]
                      have et : tixD (.tup [.str t, w]) = ((traits.idxOf t : Nat) : Int) := rfl
                      rw [et] at hg
                      by_cases hlt : last < ((traits.idxOf t : Nat) : Int)
                      · rw [decide_eq_true hlt, Bool.true_and] at hg
                        rw [decide_eq_false (by omega)]
                        simp only [stp]
                        exact ⟨_, fl rfl, hg⟩
                      · rw [decide_eq_false hlt, Bool.false_and] at hg
                        rw [hg] at qk
                        rw [decide_eq_true (by omega)]
                        simp only [stp]
                        exact qk
                    · cases hs
            | _ =>
              simp only [stp, Bool.not_false]
              have hg : goB (-1) xs = false := hg
              rw [hg] at qk
              exact qk
          · obtain ⟨rfl, hg⟩ := hI
            rw [List.drop_length] at hg
            have hg : goB (-1) xs = true := hg
            rw [hg] at qk
            simp only [fill_cons, fill_nil, stp]
            exact qk
        refine (okz (name2_run (hx a (by simp)) s)).mpr ?_
        simp only [stp]
        cases ha : nameD a with
        | false => rw [ha] at q; simpa only [stp, Bool.not_false, Bool.false_and] using q
        | true =>
          rw [ha, Bool.true_and] at q
          simp only [stp, Bool.not_true]
          have hb : Sane b := hx b (by simp)
          cases b with
          | tup xs =>
            have hxs : ∀ x ∈ xs, Sane x := by
              cases hb with
              | tup _ _ h => exact h
            simp only [stp, Bool.not_true]
            rw [← goB_all] at q
            cases hc : Mr.isNon c with
            | true =>
              rw [hc, Bool.true_or, Bool.and_true] at q
              simp only [stp, Bool.not_true]
              exact key xs rfl hxs q
            | false =>
              rw [hc, Bool.false_or] at q
              simp only [stp, Bool.not_false]
              refine (okz (lines2_run (hx c (by simp)) s)).mpr ?_
              simp only [stp]
              cases hl : linesOkD c with
              | false =>
                rw [hl, Bool.and_false] at q
                simp only [stp, Bool.not_false]
                exact q
              | true =>
                rw [hl, Bool.and_true] at q
                simp only [stp, Bool.not_true]
                exact key xs rfl hxs q
          | _ => first
            | (cases hb; done)
            | (simp only [stp, Bool.not_false]; exact q)
  | _ => rfl
theorem fm_dup {l : List Tx} : ((List.range l.length).filterMap fun k => if l.getD k [] ∈ l.take k then some (D.int (0 + (k : Int))) else none) = [] ↔ l.Nodup := by
  rw [List.filterMap_eq_nil_iff]
  have e := nodup_all (l := l)
  constructor
  · intro h
    refine of_decide_eq_true (e ▸ List.all_eq_true.mpr fun k hk => ?_)
    have := h k hk
    by_cases z : l.getD k [] ∈ l.take k
    · rw [if_pos z] at this; cases this
    · show (!decide (l.getD k [] ∈ l.take k)) = true
      rw [decide_eq_false z]
      rfl
  · intro h k hk
    have e2 := List.all_eq_true.mp (e.symm ▸ decide_eq_true h) k hk
    have e2 : (!decide (l.getD k [] ∈ l.take k)) = true := e2
    exact if_neg fun z => by rw [decide_eq_true z] at e2; cases e2
def dupD (l : List Tx) : List D := (List.range l.length).filterMap fun k => if l.getD k [] ∈ l.take k then some (D.int (0 + (k : Int))) else none
theorem dup_okD (l : List Tx) (h : l.length ≤ 1000) : D.okD (.lst (dupD l)) = true := by
  have h1 : ∀ ks : List Nat, D.plainL (ks.filterMap fun k => if l.getD k [] ∈ l.take k then some (D.int (0 + (k : Int))) else none) = true ∧ D.depthL (ks.filterMap fun k => if l.getD k [] ∈ l.take k then some (D.int (0 + (k : Int))) else none) = 0 := by
    intro ks
    induction ks with
    | nil => exact ⟨rfl, rfl⟩
    | cons k ks ih =>
      rw [List.filterMap_cons]
      split
      · exact ih
      · rename_i x e
        split at e
        · cases e
          exact ⟨by rw [D.plainL, ih.1]; rfl, by rw [D.depthL, ih.2]; rfl⟩
        · cases e
  have h2 := h1 (List.range l.length)
  unfold D.okD dupD
  rw [D.plain, h2.1, D.depth, h2.2]
  rfl
theorem dup_eqv (l : List Tx) : D.eqv (.lst (dupD l)) (.lst []) = decide l.Nodup := by
  rw [Bool.eq_iff_iff, decide_eq_true_eq, ← fm_dup]
  show D.eqv (.lst (dupD l)) (.lst []) = true ↔ dupD l = []
  cases dupD l with
  | nil => simp [D.eqv, D.eqvL]
  | cons x r => simp [D.eqv, D.eqvL]
theorem comp_dup {l : List Tx} (hl : l.length ≤ 1000) {e : Ev} {i j : Nat} (hi : ∀ v : D, ((e.set j none).set j (some v))[i]? = some (some (.lst (l.map .str)))) (hj : ∀ v : D, ((e.set j none).set j (some v))[j]? = some (some v)) {Ψ : List D → Store → Prop} (q : Ψ (dupD l) s) :
    wz (compM [j] (gOne j) (tBin opIn (eBin opIx (eVar i) (eVar j)) (eSl (eVar i) pNo (pSome (eVar j)))) (eVar j) e (nums 0 l.length)) s Ψ Ξ := by
  refine comp_fm (f := fun k : Nat => D.int (0 + (k : Int))) (l := List.range l.length) (fun k => if l.getD k [] ∈ l.take k then some (D.int (0 + (k : Int))) else none) (fun k hk2 => ?_) q
  have hk2 : k < l.length := List.mem_range.mp hk2
  have e1 : l[k]? = some l[k] := List.getElem?_eq_getElem hk2
  have e2 : (l.map D.str)[k]? = some (.str l[k]) := by rw [List.getElem?_map, e1]; rfl
  have e3 : (0 : Int) + (k : Int) = ((k : Nat) : Int) := by omega
  simp only [gOne, wipeE, List.foldl_cons, List.foldl_nil, stp, hi, hj]
  rw [e3, z_ix_lst (Mr.atI_nat e2)]
  simp only [stp, hi, hj]
  have e4 : cutL (l.map D.str) none (some ((k : Nat) : Int)) = (l.take k).map D.str := by
    rw [cut_take _ (by omega), List.map_take]
    rfl
  rw [e4, z_in_lst _ _ (by rw [okD_str, okD_texts]; rfl), dIn_texts]
  have e5 : l.getD k [] = l[k] := by rw [List.getD_eq_getElem?_getD, e1, Option.getD_some]
  rw [e5]
  by_cases z : l[k] ∈ l.take k
  · rw [decide_eq_true z, if_pos z]
    simp only [stp, hj]
  · rw [decide_eq_false z, if_neg z]
    simp [stp]
theorem master2_run {d : D} (h : Sane d) (s : Store) : m__law_is_master [d] s = .ok (.bl (mstB d)) s := by
  cases h with
  | tup xs hn hx =>
    refine run_of fun Φ Ξ q => ?_
    simp only [m__law_is_master, N__law_is_master, b__law_is_master]
    generalize hL : (sSeq (sIf (tOr' (tNot' (tVal (eUn (fIs "tuple") (eBin opIx (eVar 0) (eC (.int (2))))))) (tOr' (tBin opGt (eUn fLen (eBin opIx (eVar 0) (eC (.int (2))))) (eC (.int (8)))) (tNot' (tVal (eUn fAll (eComp [2] (iSeq (eBin opIx (eVar 0) (eC (.int (2))))) (gOne 2) cYes (eFn m__law_is_place (lCons (eVar 2) lNil))))))))
  (sRet (eC (.bl false)))
  sNext)
  (sSeq (sSet 1 (eComp [2] (iSeq (eBin opIx (eVar 0) (eC (.int (2))))) (gOne 2) cYes (eBin opIx (eVar 2) (eC (.int (0))))))
  (sRet (eBin opEq (eComp [3] (iRng (eUn fLen (eVar 1))) (gOne 3) (tBin opIn (eBin opIx (eVar 1) (eVar 3)) (eSl (eVar 1) pNo (pSome (eVar 3)))) (eVar 3)) (eLst lNil))))) = L
    simp only [stp]
    rw [show (((xs.length : Nat) : Int) == 3) = decide (xs.length = 3) from beqN xs.length 3]
    cases h2 : decide (xs.length = 3) with
    | false =>
      simp only [stp, Bool.not_false]
      rw [wrong_len (f := mstB) (fun ys hy => by unfold mstB; split; (rename_i e; cases e; exact (hy rfl).elim); rfl) h2] at q
      exact q
    | true =>
      match xs, of_decide_eq_true h2, hx, q with
      | [a, b, c], _, hx, q =>
        simp only [stp, Bool.not_true]
        refine (okz (name2_run (hx a (by simp)) s)).mpr ?_
        simp only [stp]
        cases ha : nameD a with
        | false =>
          have : mstB (.tup [a, b, c]) = false := by cases c <;> simp [mstB, ha]
          rw [this] at q
          simpa only [stp, Bool.not_false] using q
        | true =>
          simp only [stp, Bool.not_true]
          have own : (Mr.isNon b || nameD b) = true → wzS L [some (.tup [a, b, c]), none, none, none] s { nx := fun _ s' => if false = true then False else Φ D.non s', rt := Φ, ex := fun x x_1 s' => Ξ x s' } := fun ho => by
            rw [← hL]
            simp only [stp]
            have hc : Sane c := hx c (by simp)
            cases c with
            | tup own =>
              have hw : ∀ x ∈ own, Sane x := by
                cases hx (.tup own) (by simp) with
                | tup _ _ h => exact h
              simp only [mstB, ha, ho, Bool.true_and] at q
              simp only [stp, Bool.not_true]
              by_cases h8 : (8 : Int) < ((own.length : Nat) : Int)
              · rw [decide_eq_false (by omega), Bool.false_and] at q
                simp only [decide_eq_true h8, stp]
                exact q
              · rw [decide_eq_true (by omega), Bool.true_and] at q
                simp only [decide_eq_false h8, stp]
                refine all_of (f := placeD) (by simp) (fun x hx => place2_run (hw x hx) s) ?_
                cases hp : own.all placeD with
                | false =>
                  rw [hp, Bool.false_and] at q
                  simp only [stp, Bool.not_false]
                  exact q
                | true =>
                  rw [hp, Bool.true_and] at q
                  simp only [stp, Bool.not_true]
                  refine comp_pure (fun x => .str (name0 x)) (fun x hx => ?_) ?_
                  · obtain ⟨t, b', c', rfl, _⟩ := place_name (List.all_eq_true.mp hp x hx)
                    simp only [gOne, wipeE, List.foldl_cons, List.foldl_nil, stp]
                    rfl
                  · rw [show own.map (fun x => D.str (name0 x)) = (own.map name0).map D.str from by rw [List.map_map]; rfl]
                    have hl8 : (own.map name0).length ≤ 8 := by rw [List.length_map]; omega
                    generalize own.map name0 = l at q hl8 ⊢
                    simp only [stp]
                    rw [List.length_map, z_rng1 ⟨by omega, by omega⟩, Int.toNat_natCast]
                    refine comp_dup (l := l) (by omega) (fun v => rfl) (fun v => rfl) ?_
                    simp only [stp]
                    rw [z_eq (dup_okD l (by omega)) rfl, dup_eqv]
                    exact q
            | _ => first
              | (cases hc; done)
              | (simp only [stp, Bool.not_false]; exact q)
          cases hb : Mr.isNon b with
          | true =>
            have := own (by rw [hb]; rfl)
            simp only [stp, Bool.not_true] at this ⊢
            exact this
          | false =>
            simp only [stp, Bool.not_false]
            refine (okz (name2_run (hx b (by simp)) s)).mpr ?_
            simp only [stp]
            cases hnb : nameD b with
            | true =>
              have := own (by rw [hnb, Bool.or_true])
              simp only [stp, Bool.not_true] at this ⊢
              exact this
            | false =>
              have e : mstB (.tup [a, b, c]) = false := by cases c <;> simp [mstB, hb, hnb]
              rw [e] at q
              simp only [stp, Bool.not_false]
              exact q
  | _ => rfl
noncomputable def areM (ms : List Mst) : Bool := decide (ms.map Mst.name).Nodup && ((ms.all fun m => decide (∀ o, m.over = some o → o ∈ ms.map Mst.name)) && !((ms.map Mst.name).any (ringB ms)))
theorem over_ix (m : Mst) : wz (opIx m.d (.int 1)) s Φ Ξ = Φ (overD m.over) s := by
  rw [show Mst.d m = .tup [.str m.name, overD m.over, .tup (m.own.map Plc.d)] from rfl]
  simp only [stp]
theorem name_ix (m : Mst) : wz (opIx m.d (.int 0)) s Φ Ξ = Φ (.str m.name) s := by
  rw [show Mst.d m = .tup [.str m.name, overD m.over, .tup (m.own.map Plc.d)] from rfl]
  simp only [stp]
theorem shut_of {ms : List Mst} (h : (ms.all fun m => decide (∀ o, m.over = some o → o ∈ ms.map Mst.name)) = true) : Shut ms := fun m hm o ho => of_decide_eq_true (List.all_eq_true.mp h m hm) o ho
theorem are_one {ms : List Mst} (hx : ∀ m ∈ ms, MstX m) (h1 : 1 ≤ ms.length) (h12 : ms.length ≤ 12) (hs : ∀ x ∈ ms.map Mst.d, Sane x) (hb : (ms.map Mst.d).all mstB = true) (s : Store) : m_is_masters [msD ms] s = .ok (.bl (areM ms)) s := by
  refine run_of fun Φ Ξ q => ?_
  rw [show msD ms = .tup (ms.map Mst.d) from rfl]
  simp only [m_is_masters, N_is_masters, b_is_masters, stp, List.length_map]
  rw [decide_eq_true (show (1 : Int) ≤ ((ms.length : Nat) : Int) by omega)]
  simp only [stp]
  rw [decide_eq_true (show ((ms.length : Nat) : Int) ≤ (12 : Int) by omega)]
  simp only [stp, Bool.not_true]
  refine all_of (f := mstB) (by simp) (fun x hx => mst_run (hs x hx) s) ?_
  rw [hb]
  simp only [stp, Bool.not_true]
  refine comp_fm (fun m : Mst => some (D.str m.name)) (fun m _ => ?_) ?_
  · simp [gOne, wipeE, stp, name_ix]
  rw [List.filterMap_eq_map', show (ms.map fun m : Mst => D.str m.name) = (ms.map Mst.name).map D.str by rw [List.map_map]; rfl]
  simp only [stp]
  refine unlike_any (by rw [List.length_map]; omega) ?_
  unfold areM at q
  cases hnd : decide (ms.map Mst.name).Nodup with
  | false =>
    rw [hnd, Bool.false_and] at q
    simp only [stp, Bool.not_false]
    exact q
  | true =>
    rw [hnd, Bool.true_and] at q
    simp only [stp, Bool.not_true]
    refine comp_fm (fun m : Mst => some (.bl (decide (∀ o, m.over = some o → o ∈ ms.map Mst.name)))) (fun m _ => ?_) ?_
    · simp only [gOne, wipeE, List.foldl_cons, List.foldl_nil, stp, over_ix]
      cases ho : m.over with
      | none =>
        simp only [overD, stp, show Mr.isNon D.non = true from rfl]
        simp
      | some o =>
        simp only [overD, stp, over_ix, ho, show Mr.isNon (D.str o) = false from rfl]
        rw [z_in_lst _ _ (by rw [okD_str, okD_texts]; rfl), dIn_texts]
        simp
    · refine all_fm (f := fun m : Mst => decide (∀ o, m.over = some o → o ∈ ms.map Mst.name)) ?_
      cases hsh : ms.all fun m : Mst => decide (∀ o, m.over = some o → o ∈ ms.map Mst.name) with
      | false =>
        rw [hsh, Bool.false_and] at q
        simp only [stp, Bool.not_false]
        exact q
      | true =>
        rw [hsh, Bool.true_and] at q
        have sh := shut_of hsh
        simp only [stp, Bool.not_true]
        refine comp_fm (fun t : Tx => some (.bl (ringB ms t))) (fun t ht => ?_) ?_
        · simp only [gOne, wipeE, List.foldl_cons, List.foldl_nil, stp]
          rw [show D.tup (ms.map Mst.d) = msD ms from rfl]
          refine ring_z (by omega) sh ht ?_
          simp
        · refine any_fm (f := ringB ms) ?_
          simp only [stp]
          exact q
theorem neN_any {xs : List D} (q : Φ (.bl (!xs.isEmpty)) s) : wz (opNeN (.lst xs) (.lst [])) s Φ Ξ := by
  cases xs with
  | nil =>
    simp only [opNeN]
    rw [z_ne rfl rfl]
    exact q
  | cons x r =>
    have e : opNeN (.lst (x :: r)) (.lst []) s = .ok (.bl true) s := rfl
    rw [okz e]
    simpa using q
theorem eqN_any {xs : List D} (q : Φ (.bl xs.isEmpty) s) : wz (opEqN (.lst xs) (.lst [])) s Φ Ξ := by
  cases xs with
  | nil =>
    simp only [opEqN]
    rw [z_eq rfl rfl]
    exact q
  | cons x r =>
    have e : opEqN (.lst (x :: r)) (.lst []) s = .ok (.bl false) s := rfl
    rw [okz e]
    simpa using q
theorem dup_empty (l : List Tx) : (dupD l).isEmpty = decide l.Nodup := by
  rw [Bool.eq_iff_iff, List.isEmpty_iff, decide_eq_true_iff]
  exact fm_dup
theorem fm_empty {α : Type} (p : α → Bool) (g : α → D) (l : List α) : (l.filterMap fun x => if p x = true then some (g x) else none).isEmpty = !(l.any p) := by
  rw [Bool.eq_iff_iff, List.isEmpty_iff, List.filterMap_eq_nil_iff, Bool.not_eq_true', List.any_eq_false]
  refine forall_congr' fun x => forall_congr' fun _ => ?_
  cases p x <;> simp
theorem are_two {ms : List Mst} (hx : ∀ m ∈ ms, MstX m) (h1 : 1 ≤ ms.length) (h12 : ms.length ≤ 12) (hs : ∀ x ∈ ms.map Mst.d, Sane x) (hb : (ms.map Mst.d).all mstB = true) (s : Store) : m__law_are [msD ms] s = .ok (.bl (areM ms)) s := by
  refine run_of fun Φ Ξ q => ?_
  rw [show msD ms = .tup (ms.map Mst.d) from rfl]
  simp only [m__law_are, N__law_are, b__law_are, stp, List.length_map]
  rw [decide_eq_true (show (1 : Int) ≤ ((ms.length : Nat) : Int) by omega)]
  simp only [stp]
  rw [decide_eq_true (show ((ms.length : Nat) : Int) ≤ (12 : Int) by omega)]
  simp only [stp, Bool.not_true]
  refine all_of (f := mstB) (by simp) (fun x hx => master2_run (hs x hx) s) ?_
  rw [hb]
  simp only [stp, Bool.not_true]
  refine comp_fm (fun m : Mst => some (D.str m.name)) (fun m _ => ?_) ?_
  · simp [gOne, wipeE, stp, name_ix]
  rw [List.filterMap_eq_map', show (ms.map fun m : Mst => D.str m.name) = (ms.map Mst.name).map D.str by rw [List.map_map]; rfl]
  simp only [stp, List.length_map]
  rw [z_rng1 ⟨by omega, by omega⟩, Int.toNat_natCast]
  have hll : (ms.map Mst.name).length = ms.length := List.length_map ..
  rw [← hll]
  refine comp_dup (l := ms.map Mst.name) (by omega) (fun v => rfl) (fun v => rfl) ?_
  simp only [stp]
  refine neN_any ?_
  rw [dup_empty]
  unfold areM at q
  cases hnd : decide (ms.map Mst.name).Nodup with
  | false =>
    rw [hnd, Bool.false_and] at q
    simp only [stp, Bool.not_false]
    exact q
  | true =>
    rw [hnd, Bool.true_and] at q
    simp only [stp, Bool.not_true]
    refine comp_fm (fun m : Mst => if (!decide (∀ o, m.over = some o → o ∈ ms.map Mst.name)) = true then some m.d else none) (fun m _ => ?_) ?_
    · simp only [gOne, wipeE, List.foldl_cons, List.foldl_nil, stp, over_ix]
      cases ho : m.over with
      | none =>
        simp only [overD, stp, show Mr.isNon D.non = true from rfl]
        simp
      | some o =>
        simp only [overD, stp, over_ix, ho, show Mr.isNon (D.str o) = false from rfl]
        rw [z_nin_lst _ _ (by rw [okD_str, okD_texts]; rfl), dIn_texts]
        by_cases hoi : o ∈ ms.map Mst.name
        · rw [decide_eq_true hoi, decide_eq_true (show ∀ o', some o = some o' → o' ∈ ms.map Mst.name from fun o' e => by cases e; exact hoi)]
          simp [stp]
        · rw [decide_eq_false hoi, decide_eq_false (show ¬ ∀ o', some o = some o' → o' ∈ ms.map Mst.name from fun z => hoi (z o rfl))]
          simp [stp]
    · simp only [stp]
      refine neN_any ?_
      rw [fm_empty]
      have en : (ms.any fun m => !decide (∀ o, m.over = some o → o ∈ ms.map Mst.name)) = !(ms.all fun m => decide (∀ o, m.over = some o → o ∈ ms.map Mst.name)) := by rw [List.not_all_eq_any_not]
      rw [en]
      cases hsh : ms.all fun m : Mst => decide (∀ o, m.over = some o → o ∈ ms.map Mst.name) with
      | false =>
        rw [hsh, Bool.false_and] at q
        simp only [stp, Bool.not_false, Bool.not_true]
        exact q
      | true =>
        rw [hsh, Bool.true_and] at q
        have sh := shut_of hsh
        simp only [stp, Bool.not_true, Bool.not_false]
        refine comp_fm (fun t : Tx => if ringB ms t = true then some (.str t) else none) (fun t ht => ?_) ?_
        · simp only [gOne, wipeE, List.foldl_cons, List.foldl_nil, stp]
          rw [show D.tup (ms.map Mst.d) = msD ms from rfl]
          refine rounds_z (by omega) (of_decide_eq_true hnd) sh ht ?_
          cases ringB ms t <;> simp [stp]
        · simp only [stp]
          refine eqN_any ?_
          rw [fm_empty]
          exact q
theorem both_run {d : D} (h : Sane d) : ∃ b : Bool, ∀ s, m_is_masters [d] s = .ok (.bl b) s ∧ m__law_are [d] s = .ok (.bl b) s := by
  have ht := h
  cases h with
  | tup xs hn hx =>
    have bad : (¬ (1 ≤ xs.length ∧ xs.length ≤ 12) ∨ xs.all mstB = false) → ∀ s, m_is_masters [.tup xs] s = .ok (.bl false) s ∧ m__law_are [.tup xs] s = .ok (.bl false) s := by
      intro hc s
      constructor
      · refine run_of fun Φ Ξ q => ?_
        simp only [m_is_masters, N_is_masters, b_is_masters, stp]
        by_cases c1 : (1 : Int) ≤ ((xs.length : Nat) : Int)
        · rw [decide_eq_true c1]
          simp only [stp]
          by_cases c2 : ((xs.length : Nat) : Int) ≤ (12 : Int)
          · rw [decide_eq_true c2]
            simp only [stp, Bool.not_true]
            refine all_of (f := mstB) (by simp) (fun x hx2 => mst_run (hx x hx2) s) ?_
            rw [hc.resolve_left fun z => z ⟨by omega, by omega⟩]
            simp only [stp, Bool.not_false]
            exact q
          · rw [decide_eq_false c2]
            simp only [stp, Bool.not_false]
            exact q
        · rw [decide_eq_false c1]
          simp only [stp, Bool.not_false]
          exact q
      · refine run_of fun Φ Ξ q => ?_
        simp only [m__law_are, N__law_are, b__law_are, stp]
        by_cases c1 : (1 : Int) ≤ ((xs.length : Nat) : Int)
        · rw [decide_eq_true c1]
          simp only [stp]
          by_cases c2 : ((xs.length : Nat) : Int) ≤ (12 : Int)
          · rw [decide_eq_true c2]
            simp only [stp, Bool.not_true]
            refine all_of (f := mstB) (by simp) (fun x hx2 => master2_run (hx x hx2) s) ?_
            rw [hc.resolve_left fun z => z ⟨by omega, by omega⟩]
            simp only [stp, Bool.not_false]
            exact q
          · rw [decide_eq_false c2]
            simp only [stp, Bool.not_false]
            exact q
        · rw [decide_eq_false c1]
          simp only [stp, Bool.not_false]
          exact q
    by_cases c : 1 ≤ xs.length ∧ xs.length ≤ 12
    · cases hb : xs.all mstB with
      | false => exact ⟨false, bad (.inr hb)⟩
      | true =>
        obtain ⟨ms, rfl, hm⟩ := list_of (f := Mst.d) (P := MstX) fun x hx2 => mst_of (List.all_eq_true.mp hb x hx2)
        rw [List.length_map] at c
        exact ⟨areM ms, fun s => ⟨are_one hm c.1 c.2 hx hb s, are_two hm c.1 c.2 hx hb s⟩⟩
    · exact ⟨false, bad (.inl c)⟩
  | _ => exact ⟨false, fun s => ⟨rfl, rfl⟩⟩
end
end Pf

namespace Mr
open PySem PySem.Spec PyProof.Rows L2
theorem cut_mid {α : Type} (xs : List α) {a b : Int} (h0 : 0 ≤ a) (h1 : a ≤ b) (h2 : b ≤ xs.length) : cutL xs (some a) (some b) = (xs.drop a.toNat).take (b.toNat - a.toNat) := by
  unfold cutL
  have e : ∀ (n : Int) (z : Nat), 0 ≤ n → n ≤ xs.length → HT.sIx xs.length z (some n) = n.toNat := by
    intro n z h3 h4
    unfold HT.sIx
    have h5 : ¬ n < 0 := by omega
    simp [h5]
    omega
  rw [e a _ h0 (by omega), e b _ (by omega) h2]
end Mr

namespace Mr
open PySem PySem.Spec PyProof.Rows L2
mutual
def thaw (s : Store) (n0 : Nat) : D → Option D
  | .tup xs => (thawL s n0 xs).map .tup
  | .lst xs => (thawL s n0 xs).map .lst
  | .dic ks vs => (thawL s n0 ks).bind fun ks' => (thawL s n0 vs).map fun vs' => .dic ks' vs'
  | .ref n => if n < n0 then some (.ref n) else match s[n]? with
    | some (.lst xs) => if D.closedL xs ∧ xs.length ≤ 1000000 then some (.lst xs) else none
    | _ => none
  | .non => some .non
  | .bl b => some (.bl b)
  | .int i => some (.int i)
  | .str t => some (.str t)
  | .ty n => some (.ty n)
  | .glo x => some (.glo x)
  | .exc c xs => some (.exc c xs)
  | .clo a xs => some (.clo a xs)
def thawL (s : Store) (n0 : Nat) : List D → Option (List D)
  | [] => some []
  | x :: xs => (thaw s n0 x).bind fun y => (thawL s n0 xs).map fun ys => y :: ys
end
mutual
def D.und (n0 : Nat) : D → Bool
  | .tup xs | .lst xs => D.undL n0 xs
  | .dic ks vs => D.undL n0 ks && D.undL n0 vs
  | .ref n => decide (n < n0)
  | _ => true
def D.undL (n0 : Nat) : List D → Bool
  | [] => true
  | x :: xs => x.und n0 && D.undL n0 xs
end
section
variable {K : PySem.W.Frag} {mg : Str → Option Value} {G G' H H' U : Hp} {ρ ρ' : List Addr} {S S' : Store}
mutual
theorem Rep.und : ∀ {d : D} {v : V}, Rep K mg G ρ d v → d.und ρ.length = true
  | _, _, .non => rfl
  | _, _, .bl b => rfl
  | _, _, .int i => rfl
  | _, _, .str s h => rfl
  | _, _, .tup h z r => by simpa [D.und] using RepL.und r
  | _, _, .lst h z r => by simpa [D.und] using RepL.und r
  | _, _, .dic h r q => by simp [D.und, RepL.und r, RepL.und q]
  | _, _, .ref h => by simpa [D.und] using (List.getElem?_eq_some_iff.mp h).1
  | _, _, .ty n => rfl
  | _, _, .glo h => rfl
  | _, _, .exc h => rfl
  | _, _, .clo a => rfl
theorem RepL.und : ∀ {ds : List D} {vs : List V}, RepL K mg G ρ ds vs → D.undL ρ.length ds = true
  | _, _, .nil => rfl
  | d :: ds, _, .cons h t => by simp [D.undL, Rep.und h, RepL.und t]
end
mutual
theorem Rep.cutN {n0 : Nat} (e : Same G G') (p : ∀ (n : Nat) (a : Addr), n < n0 → ρ[n]? = some a → ρ'[n]? = some a) : ∀ {d : D} {v : V}, Rep K mg G ρ d v → d.und n0 = true → Rep K mg G' ρ' d v
  | _, _, .non, _ => .non
  | _, _, .bl b, _ => .bl b
  | _, _, .int i, _ => .int i
  | _, _, .str s h, _ => .str s h
  | _, _, .tup h z r, c => .tup (seqT e h) z (RepL.cutN e p r (by simpa [D.und] using c))
  | _, _, .lst h z r, c => .lst (e _ _ h) z (RepL.cutN e p r (by simpa [D.und] using c))
  | _, _, .dic h r q, c => .dic (h.elim fun o h => ⟨o, e _ _ h⟩) (RepL.cutN e p r (by simp [D.und] at c; exact c.1)) (RepL.cutN e p q (by simp [D.und] at c; exact c.2))
  | _, _, .ref h, c => .ref (p _ _ (by simpa [D.und] using c) h)
  | _, _, .ty n, _ => .ty n
  | _, _, .glo h, _ => .glo h
  | _, _, .exc h, _ => .exc (e _ _ h)
  | _, _, .clo a, _ => .clo a
theorem RepL.cutN {n0 : Nat} (e : Same G G') (p : ∀ (n : Nat) (a : Addr), n < n0 → ρ[n]? = some a → ρ'[n]? = some a) : ∀ {ds : List D} {vs : List V}, RepL K mg G ρ ds vs → D.undL n0 ds = true → RepL K mg G' ρ' ds vs
  | _, _, .nil, _ => .nil
  | d :: ds, _, .cons h t, c => by
    have c' : d.und n0 = true ∧ D.undL n0 ds = true := by simpa [D.undL] using c
    exact .cons (Rep.cutN e p h c'.1) (RepL.cutN e p t c'.2)
end
mutual
theorem Rep.thaw {n0 : Nat} (e : Same G U) (p : ∀ (n : Nat) (a : Addr), n < n0 → ρ[n]? = some a → ρ'[n]? = some a)
    (c : ∀ (n : Nat) (a : Addr) (xs : List D), n0 ≤ n → ρ[n]? = some a → S[n]? = some (.lst xs) → ∃ vs, U a = some (.lst vs) ∧ RepL K mg G ρ xs vs) : ∀ {d d' : D} {v : V}, Rep K mg G ρ d v → thaw S n0 d = some d' → Rep K mg U ρ' d' v
  | _, _, _, .non, h => by simp only [Mr.thaw, Option.some.injEq] at h; subst h; exact .non
  | _, _, _, .bl b, h => by simp only [Mr.thaw, Option.some.injEq] at h; subst h; exact .bl b
  | _, _, _, .int i, h => by simp only [Mr.thaw, Option.some.injEq] at h; subst h; exact .int i
  | _, _, _, .str s q, h => by simp only [Mr.thaw, Option.some.injEq] at h; subst h; exact .str s q
  | _, _, _, .tup (ds := ds) q z r, h => by
    simp only [Mr.thaw] at h
    cases e1 : thawL S n0 ds with
    | none => rw [e1] at h; cases h
    | some xs => rw [e1] at h; cases h; exact .tup (seqT e q) z (RepL.thaw e p c r e1)
  | _, _, _, .lst (ds := ds) q z r, h => by
    simp only [Mr.thaw] at h
    cases e1 : thawL S n0 ds with
    | none => rw [e1] at h; cases h
    | some xs => rw [e1] at h; cases h; exact .lst (e _ _ q) z (RepL.thaw e p c r e1)
  | _, _, _, .dic (ks := ks) (vs := vs) q r r2, h => by
    simp only [Mr.thaw] at h
    cases e1 : thawL S n0 ks with
    | none => rw [e1] at h; cases h
    | some ks' =>
      cases e2 : thawL S n0 vs with
      | none => rw [e1, e2] at h; cases h
      | some vs' =>
        rw [e1, e2] at h
        cases h
        exact .dic (q.elim fun o h => ⟨o, e _ _ h⟩) (RepL.thaw e p c r e1) (RepL.thaw e p c r2 e2)
  | _, _, _, .ref (n := n) q, h => by
    simp only [Mr.thaw] at h
    by_cases hn : n < n0
    · rw [if_pos hn] at h
      cases h
      exact .ref (p _ _ hn q)
    · rw [if_neg hn] at h
      cases e1 : S[n]? with
      | none => rw [e1] at h; cases h
      | some o =>
        rw [e1] at h
        cases o with
        | ins _ _ => cases h
        | lst xs =>
          simp only at h
          by_cases hc : D.closedL xs = true ∧ xs.length ≤ 1000000
          · rw [if_pos hc] at h
            cases h
            obtain ⟨vs, h1, h2⟩ := c n _ xs (Nat.le_of_not_lt hn) q e1
            exact .lst h1 (by rw [← h2.length, sizeLine_eq]; omega) (RepL.close ρ' (RepL.mono e (fun _ _ q => q) h2) hc.1)
          · rw [if_neg hc] at h; cases h
  | _, _, _, .ty n, h => by simp only [Mr.thaw, Option.some.injEq] at h; subst h; exact .ty n
  | _, _, _, .glo q, h => by simp only [Mr.thaw, Option.some.injEq] at h; subst h; exact .glo q
  | _, _, _, .exc q, h => by simp only [Mr.thaw, Option.some.injEq] at h; subst h; exact .exc (e _ _ q)
  | _, _, _, .clo a, h => by simp only [Mr.thaw, Option.some.injEq] at h; subst h; exact .clo a
theorem RepL.thaw {n0 : Nat} (e : Same G U) (p : ∀ (n : Nat) (a : Addr), n < n0 → ρ[n]? = some a → ρ'[n]? = some a)
    (c : ∀ (n : Nat) (a : Addr) (xs : List D), n0 ≤ n → ρ[n]? = some a → S[n]? = some (.lst xs) → ∃ vs, U a = some (.lst vs) ∧ RepL K mg G ρ xs vs) : ∀ {ds ds' : List D} {vs : List V}, RepL K mg G ρ ds vs → thawL S n0 ds = some ds' → RepL K mg U ρ' ds' vs
  | _, _, _, .nil, h => by simp only [Mr.thawL, Option.some.injEq] at h; subst h; exact .nil
  | d :: ds, _, _, .cons q t, h => by
    simp only [Mr.thawL] at h
    cases e1 : Mr.thaw S n0 d with
    | none => rw [e1] at h; cases h
    | some x =>
      cases e2 : thawL S n0 ds with
      | none => rw [e1, e2] at h; cases h
      | some xs => rw [e1, e2] at h; cases h; exact .cons (Rep.thaw e p c q e1) (RepL.thaw e p c t e2)
end
end
open Classical in
noncomputable def frzM (m : List D → M D) : List D → M D := fun ds s => match m ds s with
  | .ok d s' => if s'.take s.length = s then (match thaw s' s.length d with
    | some d' => .ok d' s
    | none => .bad) else .bad
  | .exc x s' => if s'.take s.length = s ∧ x.args = [] then .exc x s else .bad
  | .bad => .bad
section
variable {P : Program} {w : World} {K : PySem.W.Frag} {mg : Str → Option Value} {base : Heap} {G G' H H' U : Hp} {ρ ρ' : List Addr} {S S' : Store}
def frzG (G' : Hp) (ρ ρ' : List Addr) (H' : Hp) : Hp := fun a => if a ∈ ρ' ∧ a ∉ ρ then (match H' a with
  | some (.lst vs) => some (.lst vs)
  | _ => none) else G' a
theorem frzG_sub (st : StOk K mg G' ρ' S' H') : Same G' (frzG G' ρ ρ' H') := fun a o e => by
  unfold frzG
  rw [if_neg (fun z => by rw [st.out a z.1] at e; cases e)]
  exact e
theorem frzG_same (s : Same G' H') : Same (frzG G' ρ ρ' H') H' := fun a o e => by
  unfold frzG at e
  by_cases h : a ∈ ρ' ∧ a ∉ ρ
  · rw [if_pos h] at e
    cases q : H' a with
    | none => rw [q] at e; cases e
    | some u =>
      rw [q] at e
      cases u <;> first
        | exact e
        | (cases e; done)
  · rw [if_neg h] at e
    exact s a o e
theorem pre_nd (pre : ∀ (n : Nat) (a : Addr), ρ[n]? = some a → ρ'[n]? = some a) (nd : ρ'.Nodup) {n : Nat} {a : Addr} (h : ρ'[n]? = some a) (hn : ρ.length ≤ n) : a ∈ ρ' ∧ a ∉ ρ := by
  refine ⟨List.mem_of_getElem? h, fun z => ?_⟩
  obtain ⟨i, e⟩ := List.getElem?_of_mem z
  have hi := (List.getElem?_eq_some_iff.mp e).1
  have := ix_nodup nd (pre i a e) h
  omega
theorem pre_lt (pre : ∀ (n : Nat) (a : Addr), ρ[n]? = some a → ρ'[n]? = some a) {n : Nat} {a : Addr} (hn : n < ρ.length) (h : ρ'[n]? = some a) : ρ[n]? = some a := by
  have e : ρ[n]? = some ρ[n] := List.getElem?_eq_getElem hn
  rw [pre n _ e] at h
  rw [e]
  exact h
theorem frz_all (g : Grow G ρ H G' ρ' H') (s : Same G' H') (st0 : StOk K mg G ρ S H) (st : StOk K mg G' ρ' S' H') (ht : S'.take S.length = S) :
    Same (frzG G' ρ ρ' H') H' ∧ Grow G ρ H (frzG G' ρ ρ' H') ρ H' ∧ StOk K mg (frzG G' ρ ρ' H') ρ S H' ∧
    (∀ (n : Nat) (a : Addr) (xs : List D), S.length ≤ n → ρ'[n]? = some a → S'[n]? = some (.lst xs) → ∃ vs, frzG G' ρ ρ' H' a = some (.lst vs) ∧ RepL K mg G' ρ' xs vs) := by
  have fs := frzG_sub (ρ := ρ) st
  refine ⟨frzG_same s, ⟨g.sub.trans fs, fun _ _ q => q, g.keep, g.live, fun a o e => ?_, fun a z => .inl z⟩, ⟨st0.len, st0.nd, fun a ha => ?_, fun n a o h1 h2 => ?_, st.tb, fun a ps e => ?_⟩, fun n a xs hn h1 h2 => ?_⟩
  · unfold frzG at e
    by_cases h : a ∈ ρ' ∧ a ∉ ρ
    · exact .inr ((g.newr a h.1).resolve_left h.2)
    · rw [if_neg h] at e
      exact g.new a o e
  · unfold frzG
    rw [if_neg (fun z => z.2 ha)]
    obtain ⟨i, e⟩ := List.getElem?_of_mem ha
    exact st.out a (List.mem_of_getElem? (g.pre i a e))
  · have hn : n < ρ.length := (List.getElem?_eq_some_iff.mp h1).1
    have h3 : S'[n]? = some o := by
      have hl : n < S.length := by rw [← st0.len]; exact hn
      rw [← ht, List.getElem?_take, if_pos hl] at h2
      exact h2
    have q0 := st0.obj n a o h1 h2
    have q1 := st.obj n a o (g.pre n a h1) h3
    have cut : ∀ {ds : List D} {us vs : List V}, RepL K mg G ρ ds us → RepL K mg G' ρ' ds vs → RepL K mg (frzG G' ρ ρ' H') ρ ds vs := fun r0 r1 => RepL.cutN (n0 := ρ.length) fs (fun n a hn q => pre_lt g.pre hn q) r1 r0.und
    cases o with
    | lst xs =>
      obtain ⟨us, _, r0⟩ := q0
      obtain ⟨vs, hv, r1⟩ := q1
      exact ⟨vs, hv, cut r0 r1⟩
    | ins c xs =>
      obtain ⟨C0, dx0, fv0, _, _, _, r0⟩ := q0
      obtain ⟨C, dx, fv, e1, e2, e3, r1⟩ := q1
      exact ⟨C, dx, fv, e1, e2, e3, cut r0 r1⟩
  · unfold frzG at e
    by_cases h : a ∈ ρ' ∧ a ∉ ρ
    · rw [if_pos h] at e
      cases q : H' a with
      | none => rw [q] at e; cases e
      | some u => rw [q] at e; cases u <;> cases e
    · rw [if_neg h] at e
      exact st.gt a ps e
  · obtain ⟨vs, hv, r⟩ := st.obj n a _ h1 h2
    refine ⟨vs, ?_, r⟩
    unfold frzG
    rw [if_pos (pre_nd g.pre st.nd h1 (by rw [st0.len]; exact hn)), hv]
theorem frz_post {fr : Bool} {m : List D → M D} {ds : List D} {E : XK} {Q : VK} (st0 : StOk K mg G ρ S H) (p : Post K mg (rRes K mg fr) E Q G ρ H (frzM m ds S)) : Post K mg (rRes K mg fr) E Q G ρ H (m ds S) := by
  unfold frzM at p
  cases em : m ds S with
  | bad => simp only [em] at p; exact p
  | exc x S' =>
    simp only [em] at p
    by_cases hc : S'.take S.length = S ∧ x.args = []
    · rw [if_pos hc] at p
      intro G' ρ' H' cls od s g st ex
      obtain ⟨s1, g1, st1, _⟩ := frz_all g s st0 st hc.1
      refine p _ _ H' cls od s1 g1 st1 ?_
      obtain ⟨C, e1, e2, e3, e4, e5⟩ := ex
      refine ⟨C, e1, e2, e3, e4, .inl ?_⟩
      rcases e5 with e5 | ⟨d, v, e, e5, _⟩
      · exact e5
      · rw [hc.2] at e5; cases e5
    · rw [if_neg hc] at p
      exact (show False from p).elim
  | ok d S' =>
    simp only [em] at p
    by_cases hc : S'.take S.length = S
    · rw [if_pos hc] at p
      cases et : thaw S' S.length d with
      | none => simp only [et] at p; exact (show False from p).elim
      | some d' =>
        simp only [et] at p
        intro G' ρ' H' b s g st r
        obtain ⟨s1, g1, st1, c⟩ := frz_all g s st0 st hc
        refine p _ _ H' b s1 g1 st1 ?_
        have pr : ∀ (n : Nat) (a : Addr), n < S.length → ρ'[n]? = some a → ρ[n]? = some a := fun n a hn q => pre_lt g.pre (by rw [st0.len]; exact hn) q
        cases fr with
        | false => exact Rep.thaw (frzG_sub st) pr c (show Rep K mg G' ρ' d b from r) et
        | true =>
          obtain ⟨a, o, rfl, ha, ro, gn, nm, hn⟩ := r
          refine ⟨a, o, rfl, ha, ?_, ?_, fun z => ?_, hn⟩
          · cases d <;> cases o <;> first
              | exact (show False from ro).elim
              | skip
            simp only [thaw] at et
            rename_i xs vs
            cases e1 : thawL S' S.length xs with
            | none => rw [e1] at et; cases et
            | some ys =>
              rw [e1] at et
              cases et
              exact ⟨ro.1, RepL.thaw (frzG_sub st) pr c ro.2 e1⟩
          · unfold frzG
            rw [if_neg (fun z => nm z.1)]
            exact gn
          · obtain ⟨i, e⟩ := List.getElem?_of_mem z
            exact nm (List.mem_of_getElem? (g.pre i a e))
    · rw [if_neg hc] at p
      exact (show False from p).elim
theorem Df.frz {x : Str} {k : Nat} {fr : Bool} {n : Nat} {m : List D → M D} (d : Df P w K mg base x k fr n m) : Df P w K mg base x k fr n (frzM m) := by
  obtain ⟨f, fd, ps, h1, h2, h3, h4⟩ := d.ex
  exact ⟨⟨f, fd, ps, h1, h2, h3, h4.imp fun vs H Q E ⟨hl, G, ρ, S, ds, a, b, c, p⟩ => ⟨hl, G, ρ, S, ds, a, b, c, frz_post b p⟩⟩⟩
end
end Mr

namespace Mr
open PySem PySem.Spec PyProof.Rows L2
abbrev FD := List (Str × D)
end Mr

namespace Mr
open PySem PySem.Spec PyProof.Rows L2
theorem Df.vis {P : Program} {w : World} {K : PySem.W.Frag} {mg : Str → Option Value} {base : Heap} {x : Str} {k n : Nat} {m : List D → M D} (d : Df P w K mg base x k true n m) : Df P w K mg base x k false n m := by
  obtain ⟨f, fd, ps, h1, h2, h3, h4⟩ := d.ex
  refine ⟨⟨f, fd, ps, h1, h2, h3, h4.imp fun vs H Q E ⟨hl, G, ρ, S, ds, a, b, c, p⟩ => ⟨hl, G, ρ, S, ds, a, b, c, ?_⟩⟩⟩
  have p : Post K mg (rV K mg) E Q G ρ H (m ds S) := p
  show Post K mg (rF K mg) E Q G ρ H (m ds S)
  cases e : m ds S with
  | exc y s => rw [e] at p; exact p
  | bad => rw [e] at p; exact p
  | ok dd s' =>
    rw [e] at p
    intro G' ρ' H' v s g st ⟨y, o, h1, h2, h3, h4, h5, h6⟩
    subst h1
    obtain ⟨s1, _, r1⟩ := ownLay s h2 h3 h4
    exact p (upd G' y o) ρ' H' (.ref y) s1 (g.lay h6 h4) (stLay st h4 h5 h3.nt.1) r1
end Mr

namespace Mr
open PySem PySem.Spec PyProof PyProof.Rows L2
abbrev Spot := Tx × Nat
end Mr

namespace Mr
open PySem PySem.Spec PyProof PyProof.Rows L2
def But0 (s s' : Store) : Prop := ∀ n, n ≠ 0 → s'[n]? = s[n]?
theorem But0.refl (s : Store) : But0 s s := fun _ _ => rfl
theorem But0.trans {a b c : Store} (h : But0 a b) (g : But0 b c) : But0 a c := fun n hn => (g n hn).trans (h n hn)
section
variable {s : Store} {Φ : D → Store → Prop} {Ξ : Xc → Store → Prop} {pool : List Tx} {ms : List Mst} {sl : List Sld} {order : List Tx} {sp : Spot} {n c : Nat} {tr : List Spot}
theorem PenOk.set {k n : Nat} {o : SO} (h : PenOk k s) (hn : n ≠ 0) : PenOk k (s.set n o) := by
  obtain ⟨o', h1, h2⟩ := h
  exact ⟨o', by rw [List.getElem?_set_ne hn]; exact h1, h2⟩
theorem PenOk.app {k : Nat} {t : Store} (h : PenOk k s) : PenOk k (s ++ t) := by
  obtain ⟨o', h1, h2⟩ := h
  exact ⟨o', by rw [List.getElem?_append_left (List.getElem?_eq_some_iff.mp h1).1]; exact h1, h2⟩
theorem PenOk.pos {k : Nat} (h : PenOk k s) : 0 < s.length := by
  obtain ⟨o', h1, h2⟩ := h
  exact (List.getElem?_eq_some_iff.mp h1).1
end
end Mr

namespace Pf
open PySem PySem.Spec PyProof.Rows L2 Mr
mutual
def fineD (m : Nat) : D → Bool
  | .int i => decide (i.natAbs < 1000000000)
  | .str t => decide (t.length ≤ 1000)
  | .tup xs => decide (xs.length ≤ m) && fineL m xs
  | .lst xs => decide (xs.length ≤ m) && fineL m xs
  | .non => true
  | .bl _ => true
  | .dic [] [] => true
  | _ => false
def fineL (m : Nat) : List D → Bool
  | [] => true
  | x :: xs => fineD m x && fineL m xs
end
theorem fineL_iff {m : Nat} : ∀ {xs : List D}, fineL m xs = true ↔ ∀ x ∈ xs, fineD m x = true
  | [] => ⟨fun _ _ z => (by cases z), fun _ => by simp [fineL]⟩
  | x :: xs => by
    rw [fineL, Bool.and_eq_true, fineL_iff (xs := xs)]
    exact ⟨fun h y hy => (List.mem_cons.mp hy).elim (fun z => by rw [z]; exact h.1) (h.2 y), fun h => ⟨h x (List.mem_cons_self ..), fun y hy => h y (List.mem_cons_of_mem _ hy)⟩⟩
theorem fine_tup {m : Nat} {xs : List D} : fineD m (.tup xs) = true ↔ xs.length ≤ m ∧ ∀ x ∈ xs, fineD m x = true := by
  rw [fineD, Bool.and_eq_true, decide_eq_true_eq, fineL_iff]
theorem fine_lst {m : Nat} {xs : List D} : fineD m (.lst xs) = true ↔ xs.length ≤ m ∧ ∀ x ∈ xs, fineD m x = true := by
  rw [fineD, Bool.and_eq_true, decide_eq_true_eq, fineL_iff]
mutual
theorem fine_mono {m m' : Nat} (hm : m ≤ m') : ∀ d : D, fineD m d = true → fineD m' d = true
  | .int i, h => by simpa only [fineD] using h
  | .str t, h => by simpa only [fineD] using h
  | .tup xs, h => by
    simp only [fineD, Bool.and_eq_true, decide_eq_true_eq] at h ⊢
    exact ⟨by omega, fine_monoL hm xs h.2⟩
  | .lst xs, h => by
    simp only [fineD, Bool.and_eq_true, decide_eq_true_eq] at h ⊢
    exact ⟨by omega, fine_monoL hm xs h.2⟩
  | .non, _ => rfl
  | .bl _, _ => rfl
  | .dic [] [], _ => rfl
theorem fine_monoL {m m' : Nat} (hm : m ≤ m') : ∀ xs : List D, fineL m xs = true → fineL m' xs = true
  | [], _ => rfl
  | x :: xs, h => by
    simp only [fineL, Bool.and_eq_true] at h ⊢
    exact ⟨fine_mono hm x h.1, fine_monoL hm xs h.2⟩
end
mutual
theorem fine_sane {m : Nat} (hm : m ≤ 1000) : ∀ d : D, fineD m d = true → Sane d
  | .int i, _ => .int i
  | .str t, h => .str t (by simp only [fineD, decide_eq_true_eq] at h; omega)
  | .tup xs, h => by
    simp only [fineD, Bool.and_eq_true, decide_eq_true_eq] at h
    exact .tup xs (by omega) (fine_saneL hm xs h.2)
  | .lst xs, h => by
    simp only [fineD, Bool.and_eq_true, decide_eq_true_eq] at h
    exact .lst xs (by omega) (fine_saneL hm xs h.2)
  | .non, _ => .non
  | .bl b, _ => .bl b
  | .dic [] [], _ => .dic [] []
theorem fine_saneL {m : Nat} (hm : m ≤ 1000) : ∀ xs : List D, fineL m xs = true → ∀ x ∈ xs, Sane x
  | [], _, _, z => by cases z
  | x :: xs, h, y, hy => by
    simp only [fineL, Bool.and_eq_true] at h
    have h1 := fine_sane hm x h.1
    have h2 := fine_saneL hm xs h.2
    rcases List.mem_cons.mp hy with e | hy
    · rw [e]; exact h1
    · exact h2 y hy
end
mutual
theorem fine_tame {m : Nat} : ∀ d : D, fineD m d = true → d.tameE = true
  | .int i, h => by simpa only [fineD, D.tameE] using h
  | .str t, _ => by simp only [D.tameE]
  | .tup xs, h => by
    simp only [fineD, Bool.and_eq_true] at h
    simp only [D.tameE]
    exact fine_tameL xs h.2
  | .lst xs, h => by
    simp only [fineD, Bool.and_eq_true] at h
    simp only [D.tameE]
    exact fine_tameL xs h.2
  | .non, _ => rfl
  | .bl _, _ => rfl
  | .dic [] [], _ => rfl
theorem fine_tameL {m : Nat} : ∀ xs : List D, fineL m xs = true → D.tameEL xs = true
  | [], _ => rfl
  | x :: xs, h => by
    simp only [fineL, Bool.and_eq_true] at h
    simp only [D.tameEL, fine_tame x h.1, fine_tameL xs h.2, Bool.and_self]
end
structure Te (m n B : Nat) (d : D) : Prop where
  fi : fineD m d = true
  dp : d.depth ≤ n
  wt : d.wt ≤ B
theorem Te.mono {m n B m' n' B' : Nat} {d : D} (h : Te m n B d) (hm : m ≤ m' := by omega) (hn : n ≤ n' := by omega) (hB : B ≤ B' := by omega) : Te m' n' B' d := ⟨fine_mono hm d h.fi, Nat.le_trans h.dp hn, Nat.le_trans h.wt hB⟩
theorem wtL_app : ∀ (xs ys : List D), D.wtL (xs ++ ys) = D.wtL xs + D.wtL ys
  | [], ys => by simp [D.wtL]
  | x :: xs, ys => by simp only [List.cons_append, D.wtL, wtL_app xs ys]; omega
theorem depthL_iff {n : Nat} : ∀ {xs : List D}, D.depthL xs ≤ n ↔ ∀ x ∈ xs, x.depth ≤ n
  | [] => ⟨fun _ _ z => (by cases z), fun _ => Nat.zero_le _⟩
  | x :: xs => by
    simp only [D.depthL]
    have ih := depthL_iff (n := n) (xs := xs)
    constructor
    · intro h y hy
      rcases List.mem_cons.mp hy with rfl | hy
      · omega
      · exact ih.mp (by omega) y hy
    · intro h
      have h1 := h x (List.mem_cons_self ..)
      have h2 := ih.mpr fun y hy => h y (List.mem_cons_of_mem _ hy)
      omega
theorem Te.row {m n B : Nat} {xs : List D} (hl : xs.length ≤ m) (hf : ∀ x ∈ xs, fineD m x = true) (hd : ∀ x ∈ xs, x.depth ≤ n) (hw : D.wtL xs ≤ B) : Te m (n + 1) B (.tup xs) :=
  ⟨fine_tup.mpr ⟨hl, hf⟩, by rw [D.depth]; have := depthL_iff.mpr hd; omega, by rw [D.wt]; exact hw⟩
theorem Te.rowL {m n B : Nat} {xs : List D} (hl : xs.length ≤ m) (hf : ∀ x ∈ xs, fineD m x = true) (hd : ∀ x ∈ xs, x.depth ≤ n) (hw : D.wtL xs ≤ B) : Te m (n + 1) B (.lst xs) :=
  ⟨fine_lst.mpr ⟨hl, hf⟩, by rw [D.depth]; have := depthL_iff.mpr hd; omega, by rw [D.wt]; exact hw⟩
theorem wtL_le {n : Nat} : ∀ {xs : List D}, (∀ x ∈ xs, x.wt ≤ n) → D.wtL xs ≤ xs.length * (n + 1)
  | [], _ => by simp [D.wtL]
  | x :: xs, h => by
    have h1 := h x (List.mem_cons_self ..)
    have h2 := wtL_le (n := n) (xs := xs) fun y hy => h y (List.mem_cons_of_mem _ hy)
    simp only [D.wtL, List.length_cons, Nat.add_mul]
    omega
theorem Te.all {m n B l : Nat} {xs : List D} (h : ∀ x ∈ xs, Te m n B x) (hl : xs.length ≤ l) (hm : l ≤ m) : Te m (n + 1) (l * (B + 1)) (.tup xs) :=
  .row (by omega) (fun x hx => (h x hx).fi) (fun x hx => (h x hx).dp) (Nat.le_trans (wtL_le fun x hx => (h x hx).wt) (Nat.mul_le_mul_right _ hl))
section
variable {s : Store} {Φ : D → Store → Prop} {Ξ : Xc → Store → Prop}
theorem consts_te : ∀ x ∈ ([.non, .bl true, .int 0, .int 1, .int 999, .int 1000, .int (-999), .int (-1000), .int 99, .int 100, .str ['l', 'e', 'f', 't'], .str ['i', 'n', 'k'], .str ['a'], .str ['z', 'z', '9'], .str ['9', 'z'], .str [], .str ['A']] ++ [.tup [], .lst [], .dic [] [], .tup [.str ['l', 'e', 'f', 't'], .int 5], .tup [.str ['s', 'i', 'z', 'e'], .int 0], .tup [.str ['i', 'n', 'k'], .str ['9']], .tup [.str ['w', 'i', 'd', 'e'], .bl true], .tup [.str ['x']], .tup [.str ['a'], .tup [], .non]] : List D), Te 3 2 100 x := by
  intro x hx
  simp only [List.cons_append, List.nil_append, List.mem_cons, List.not_mem_nil, or_false] at hx
  rcases hx with rfl | rfl | rfl | rfl | rfl | rfl | rfl | rfl | rfl | rfl | rfl | rfl | rfl | rfl | rfl | rfl | rfl | rfl | rfl | rfl | rfl | rfl | rfl | rfl | rfl | rfl <;> exact ⟨by decide +kernel, by decide +kernel, by decide +kernel⟩
theorem bent_z : ∀ (f deep : Nat) {k m n B : Nat} {d : D} {s : Store} {Φ : D → Store → Prop} {Ξ : Xc → Store → Prop}, deep < f → Te m n B d → 3 ≤ m → m ≤ 900 → PenOk k s → k + 10 * f ≤ 900000000 → (∀ d' s', Te (m + 1) (n + 2) (2 * B + 200) d' → PenOk (k + 4 * (deep + 1)) s' → Φ d' s') →
    wz (m__law_bent f [.ref 0, d, .int (deep : Int)]) s Φ Ξ
  | 0, _, _, _, _, _, _, _, _, _, h, _, _, _, _, _, _ => absurd h (Nat.not_lt_zero _)
  | f + 1, deep, k, m, n, B, d, s, Φ, Ξ, hf, hd, h3, hm, hp, hk, q => by
    simp only [m__law_bent, N__law_bent, b__law_bent]
    generalize hR : (sSeq (sSet 3 (eLst (lCons (eC .non) (lCons (eC (.bl true)) (lCons (eC (.int (0))) (lCons (eC (.int (1))) (lCons (eC (.int (999))) (lCons (eC (.int (1000))) (lCons (eUn opNeg (eC (.int (999)))) (lCons (eUn opNeg (eC (.int (1000)))) (lCons (eC (.int (99))) (lCons (eC (.int (100))) (lCons (eC (.str ['l', 'e', 'f', 't'])) (lCons (eC (.str ['i', 'n', 'k'])) (lCons (eC (.str ['a'])) (lCons (eC (.str ['z', 'z', '9'])) (lCons (eC (.str ['9', 'z'])) (lCons (eC (.str [])) (lCons (eC (.str ['A'])) lNil)))))))))))))))))))
  (sSeq (sSet 3 (eBin opAdd (eVar 3) (eLst (lCons (eTup lNil) (lCons (eLst lNil) (lCons (eC (.dic [] [])) (lCons (eTup (lCons (eC (.str ['l', 'e', 'f', 't'])) (lCons (eC (.int (5))) lNil))) (lCons (eTup (lCons (eC (.str ['s', 'i', 'z', 'e'])) (lCons (eC (.int (0))) lNil))) (lCons (eTup (lCons (eC (.str ['i', 'n', 'k'])) (lCons (eC (.str ['9'])) lNil))) (lCons (eTup (lCons (eC (.str ['w', 'i', 'd', 'e'])) (lCons (eC (.bl true)) lNil))) (lCons (eTup (lCons (eC (.str ['x'])) lNil)) (lCons (eTup (lCons (eC (.str ['a'])) (lCons (eTup lNil) (lCons (eC .non) lNil)))) lNil))))))))))))
  (sSeq (sSet 3 (eBin opAdd (eVar 3) (eLst (lCons (eLst (lCons (eVar 1) lNil)) (lCons (eTup (lCons (eVar 1) lNil)) lNil)))))
  (sRet (eBin opIx (eVar 3) (eFn m__law_draw (lCons (eVar 0) (lCons (eUn fLen (eVar 3)) lNil)))))))) = R
    generalize hT : (sSeq (sPar [4, 5] (lCons (eFn m__law_draw (lCons (eVar 0) (lCons (eUn fLen (eVar 1)) lNil))) (lCons (eFn m__law_draw (lCons (eVar 0) (lCons (eC (.int (14))) lNil))) lNil)))
  (sSeq (sIf (tBin opEq (eVar 5) (eC (.int (0))))
  (sRet (eBin opAdd (eSl (eVar 1) pNo (pSome (eVar 4))) (eSl (eVar 1) (pSome (eBin opAdd (eVar 4) (eC (.int (1))))) pNo)))
  sNext)
  (sSeq (sIf (tBin opEq (eVar 5) (eC (.int (1))))
  (sRet (eBin opAdd (eBin opAdd (eSl (eVar 1) pNo (pSome (eVar 4))) (eSl (eVar 1) (pSome (eVar 4)) (pSome (eBin opAdd (eVar 4) (eC (.int (1))))))) (eSl (eVar 1) (pSome (eVar 4)) pNo)))
  sNext)
  (sSeq (sIf (tBin opEq (eVar 5) (eC (.int (2))))
  (sRet (eUn fList (eVar 1)))
  sNext)
  (sSeq (sIf (tAnd' (tBin opEq (eVar 5) (eC (.int (3)))) (tBin opGt (eVar 4) (eC (.int (0)))))
  (sRet (eBin opAdd (eBin opAdd (eSl (eVar 1) pNo (pSome (eBin opSub (eVar 4) (eC (.int (1)))))) (eTup (lCons (eBin opIx (eVar 1) (eVar 4)) (lCons (eBin opIx (eVar 1) (eBin opSub (eVar 4) (eC (.int (1))))) lNil)))) (eSl (eVar 1) (pSome (eBin opAdd (eVar 4) (eC (.int (1))))) pNo)))
  sNext)
  (sRet (eBin opAdd (eBin opAdd (eSl (eVar 1) pNo (pSome (eVar 4))) (eTup (lCons (eFn (m__law_bent f) (lCons (eVar 0) (lCons (eBin opIx (eVar 1) (eVar 4)) (lCons (eBin opSub (eVar 2) (eC (.int (1)))) lNil)))) lNil))) (eSl (eVar 1) (pSome (eBin opAdd (eVar 4) (eC (.int (1))))) pNo)))))))) = T
    have leaf : ∀ {s' : Store} {κ : Kt} {x3 x4 x5 : Option D}, PenOk (k + 1) s' → (∀ y s', κ.rt y s' = Φ y s') → wzS R [some (.ref 0), some d, some (.int (deep : Int)), x3, x4, x5] s' κ := by
      intro s' κ x3 x4 x5 hp' hr
      rw [← hR]
      simp only [stp]
      rw [z_add_lst _ _ (by simp)]
      simp only [stp]
      rw [z_add_lst _ _ (by simp)]
      simp only [stp]
      refine drawz hp' (fun r s2 a b hp2 => ?_) (by omega) (by simp) (by simp)
      try simp only [stp]
      refine ixz_any a b fun c hc => ?_
      rw [hr]
      refine q c s2 ?_ (hp2.mono (by omega))
      rcases List.mem_append.mp hc with hc | hc
      · exact (consts_te c hc).mono
      · simp only [List.mem_cons, List.not_mem_nil, or_false] at hc
        have hw : D.wtL [d] = d.wt + 1 := by simp [D.wtL]
        have hdw := hd.wt
        rcases hc with rfl | rfl
        · exact (Te.rowL (m := m + 1) (n := n) (B := B + 1) (by simp) (fun x hx => by rw [List.mem_singleton.mp hx]; exact fine_mono (by omega) _ hd.fi) (fun x hx => by rw [List.mem_singleton.mp hx]; exact hd.dp) (by omega)).mono
        · exact (Te.row (m := m + 1) (n := n) (B := B + 1) (by simp) (fun x hx => by rw [List.mem_singleton.mp hx]; exact fine_mono (by omega) _ hd.fi) (fun x hx => by rw [List.mem_singleton.mp hx]; exact hd.dp) (by omega)).mono
    have hs : Sane d := fine_sane (by omega) d hd.fi
    cases d with
    | tup xs =>
      have hfi := fine_tup.mp hd.fi
      have hdp : ∀ x ∈ xs, x.depth + 1 ≤ n := by
        have h1 := hd.dp
        rw [D.depth] at h1
        intro x hx
        have := depthL_iff.mp (Nat.le_refl (D.depthL xs)) x hx
        omega
      have hwt : D.wtL xs ≤ B := by have := hd.wt; rw [D.wt] at this; exact this
      simp only [stp, Bool.not_true]
      cases h0 : ((xs.length : Nat) : Int) == 0 with
      | true =>
        simp only [stp]
        exact leaf (hp.mono (by omega)) fun _ _ => rfl
      | false =>
        simp only [stp]
        cases hz : ((deep : Nat) : Int) == 0 with
        | true =>
          simp only [stp]
          exact leaf (hp.mono (by omega)) fun _ _ => rfl
        | false =>
          simp only [stp]
          have hl0 : ¬ ((xs.length : Nat) : Int) = 0 := fun z => by rw [z] at h0; cases h0
          have hd0 : ¬ ((deep : Nat) : Int) = 0 := fun z => by rw [z] at hz; cases hz
          have hxl := hfi.1
          refine drawz hp (fun r s1 a b hp1 => ?_) (by omega)
          simp only [stp]
          cases hr : r == 0 with
          | true =>
            simp only [stp]
            exact leaf hp1 fun _ _ => rfl
          | false =>
            simp only [stp]
            rw [← hT]
            simp only [stp]
            refine drawz hp1 (fun r2 s2 a2 b2 hp2 => ?_) (by omega) (by omega) (by omega)
            simp only [stp]
            refine drawz hp2 (fun r3 s3 a3 b3 hp3 => ?_) (by omega) (by omega) (by omega)
            simp only [stp]
            obtain ⟨P, x, S, rfl, hPl⟩ : ∃ P x S, xs = P ++ x :: S ∧ P.length = r2.toNat := by
              have hlt : r2.toNat < xs.length := by omega
              refine ⟨xs.take r2.toNat, xs[r2.toNat], xs.drop (r2.toNat + 1), ?_, by rw [List.length_take]; omega⟩
              rw [List.getElem_cons_drop]
              exact (List.take_append_drop ..).symm
            have e2 : r2 = ((P.length : Nat) : Int) := by omega
            subst e2
            have e3 : ((P.length : Nat) : Int) + 1 = ((P.length + 1 : Nat) : Int) := by omega
            have hlen : (P ++ x :: S).length = P.length + S.length + 1 := by simp; omega
            have hw : D.wtL (P ++ x :: S) = D.wtL P + (x.wt + 1 + D.wtL S) := by rw [wtL_app]; simp only [D.wtL]
            have hxm : x ∈ P ++ x :: S := by simp
            have hn1 := hdp x hxm
            have c1 : cutL (P ++ x :: S) none (some ((P.length : Nat) : Int)) = P := by rw [cut_to, List.take_left]
            have c2 : cutL (P ++ x :: S) (some ((P.length + 1 : Nat) : Int)) none = S := by rw [cut_from, List.drop_append]; simp
            have c3 : cutL (P ++ x :: S) (some ((P.length : Nat) : Int)) none = x :: S := by rw [cut_from, List.drop_left]
            have c4 : cutL (P ++ x :: S) (some ((P.length : Nat) : Int)) (some ((P.length + 1 : Nat) : Int)) = [x] := by rw [cut_win _ _ _ (by omega), List.drop_left]; simp
            have mk : ∀ ys : List D, ys.length ≤ m + 1 → (∀ y ∈ ys, y ∈ P ++ x :: S) → D.wtL ys ≤ 2 * B + 200 → Te (m + 1) (n + 2) (2 * B + 200) (.tup ys) := fun ys h1 h2 h3 =>
              (Te.row (m := m + 1) (n := n) h1 (fun y hy => fine_mono (by omega) _ (hfi.2 y (h2 y hy))) (fun y hy => by have := hdp y (h2 y hy); omega) h3).mono
            have inP : ∀ y ∈ P, y ∈ P ++ x :: S := fun y hy => List.mem_append_left _ hy
            have inS : ∀ y ∈ S, y ∈ P ++ x :: S := fun y hy => List.mem_append_right _ (List.mem_cons_of_mem _ hy)
            cases w0 : r3 == 0 with
            | true =>
              simp only [stp]
              rw [e3, c1, c2, z_add_tup _ _ (by omega)]
              refine q _ s3 (mk _ (by rw [List.length_append]; omega) (fun y hy => (List.mem_append.mp hy).elim (inP y) (inS y)) (by rw [wtL_app]; omega)) (hp3.mono (by omega))
            | false =>
              simp only [stp]
              cases w1 : r3 == 1 with
              | true =>
                simp only [stp]
                rw [e3, c1, c4, z_add_tup _ _ (by simp; omega)]
                simp only [stp]
                rw [c3, z_add_tup _ _ (by simp; omega)]
                refine q _ s3 (mk _ (by simp; omega) (fun y hy => ?_) (by rw [wtL_app, wtL_app]; simp only [D.wtL]; omega)) (hp3.mono (by omega))
                rcases List.mem_append.mp hy with hy | hy
                · rcases List.mem_append.mp hy with hy | hy
                  · exact inP y hy
                  · rw [List.mem_singleton.mp hy]; exact hxm
                · exact List.mem_append_right _ hy
              | false =>
                simp only [stp]
                cases w2 : r3 == 2 with
                | true =>
                  simp only [stp]
                  rw [okz (show fList (.tup (P ++ x :: S)) s3 = .ok (.lst (P ++ x :: S)) s3 from rfl)]
                  exact q _ s3 (Te.rowL (m := m + 1) (n := n) (by omega) (fun y hy => fine_mono (by omega) _ (hfi.2 y hy)) (fun y hy => by have := hdp y hy; omega) (by omega)).mono (hp3.mono (by omega))
                | false =>
                  simp only [stp]
                  have hix : L2.atI (P ++ x :: S) ((P.length : Nat) : Int) = some x := Mr.atI_nat (by rw [List.getElem?_append_right (Nat.le_refl _)]; simp)
                  have fin : ∀ κ : Kt, (∀ y s', κ.rt y s' = Φ y s') → wzS (sRet (eBin opAdd (eBin opAdd (eSl (eVar 1) pNo (pSome (eVar 4))) (eTup (lCons (eFn (m__law_bent f) (lCons (eVar 0) (lCons (eBin opIx (eVar 1) (eVar 4)) (lCons (eBin opSub (eVar 2) (eC (.int (1)))) lNil)))) lNil))) (eSl (eVar 1) (pSome (eBin opAdd (eVar 4) (eC (.int (1))))) pNo))) [some (.ref 0), some (.tup (P ++ x :: S)), some (.int (deep : Int)), none, some (.int (P.length : Int)), some (.int r3)] s3 κ := by
                    intro κ hκ
                    simp only [stp]
                    rw [z_ix_tup hix]
                    simp only [stp]
                    rw [show ((deep : Nat) : Int) - 1 = ((deep - 1 : Nat) : Int) by omega]
                    refine bent_z f (deep - 1) (m := m) (n := n - 1) (B := x.wt) (by omega) ⟨hfi.2 x hxm, by omega, Nat.le_refl _⟩ h3 hm hp3 (by omega) fun d' s4 hd' hp4 => ?_
                    simp only [stp]
                    rw [c1, z_add_tup _ _ (by simp; omega)]
                    simp only [stp]
                    rw [e3, c2, z_add_tup _ _ (by simp; omega), hκ]
                    refine q _ s4 (Te.row (m := m + 1) (n := n + 1) (by simp; omega) (fun y hy => ?_) (fun y hy => ?_) (by rw [wtL_app, wtL_app]; simp only [D.wtL]; have := hd'.wt; omega)) (hp4.mono (by omega))
                    · rcases List.mem_append.mp hy with hy | hy
                      · rcases List.mem_append.mp hy with hy | hy
                        · exact fine_mono (by omega) _ (hfi.2 y (inP y hy))
                        · rw [List.mem_singleton.mp hy]; exact hd'.fi
                      · exact fine_mono (by omega) _ (hfi.2 y (inS y hy))
                    · rcases List.mem_append.mp hy with hy | hy
                      · rcases List.mem_append.mp hy with hy | hy
                        · have := hdp y (inP y hy); omega
                        · rw [List.mem_singleton.mp hy]; have := hd'.dp; omega
                      · have := hdp y (inS y hy); omega
                  cases w3 : r3 == 3 with
                  | true =>
                    simp only [stp]
                    by_cases hP : P = []
                    · rw [decide_eq_false (by rw [hP]; simp)]
                      have t := fin { nx := fun x s' => if false = true then False else Φ D.non s', rt := Φ, ex := fun x x_1 s' => Ξ x s' } fun _ _ => rfl
                      simp only [stp] at t ⊢
                      exact t
                    · obtain ⟨P', y, rfl⟩ : ∃ P' y, P = P' ++ [y] := ⟨P.dropLast, P.getLast hP, (List.dropLast_concat_getLast hP).symm⟩
                      rw [decide_eq_true (by simp)]
                      simp only [stp]
                      rw [z_ix_tup hix]
                      simp only [stp]
                      have el : (((P' ++ [y]).length : Nat) : Int) - 1 = ((P'.length : Nat) : Int) := by simp
                      have hiy : L2.atI (P' ++ [y] ++ x :: S) ((P'.length : Nat) : Int) = some y := Mr.atI_nat (by simp)
                      rw [el, z_ix_tup hiy]
                      simp only [stp]
                      have c5 : cutL (P' ++ [y] ++ x :: S) none (some ((P'.length : Nat) : Int)) = P' := by rw [cut_to]; simp
                      rw [c5]
                      have hl9 : (P' ++ [y]).length = P'.length + 1 := by simp
                      rw [z_add_tup _ _ (by simp; omega)]
                      simp only [stp]
                      rw [e3, c2, z_add_tup _ _ (by simp; omega)]
                      have hym : y ∈ P' ++ [y] ++ x :: S := by simp
                      refine q _ s3 (mk _ (by simp; omega) (fun z hz => ?_) (by have hw2 := hw; rw [wtL_app P' [y]] at hw2; rw [wtL_app, wtL_app]; simp only [D.wtL] at hw2 ⊢; omega)) (hp3.mono (by omega))
                      rcases List.mem_append.mp hz with hz | hz
                      · rcases List.mem_append.mp hz with hz | hz
                        · exact inP z (List.mem_append_left _ hz)
                        · simp only [List.mem_cons, List.not_mem_nil, or_false] at hz
                          rcases hz with rfl | rfl
                          · exact hxm
                          · exact hym
                      · exact inS z hz
                  | false =>
                    simp only [stp]
                    have t := fin { nx := fun x s' => if false = true then False else Φ D.non s', rt := Φ, ex := fun x x_1 s' => Ξ x s' } fun _ _ => rfl
                    simp only [stp] at t
                    exact t
    | _ => first
      | (cases hs; done)
      | (simp only [stp, Bool.not_false]; exact leaf (hp.mono (by omega)) fun _ _ => rfl)
end
end Pf

namespace Pf
open PySem PySem.Spec PyProof.Rows L2 Mr
theorem fine0 {m B : Nat} {d : D} (h : Lm 0 B d) (hB : B ≤ 1000) : fineD m d = true := by
  have h1 := h.tm
  have h2 := h.dp
  have h3 := h.wt
  cases d with
  | non => rfl
  | bl b => rfl
  | int i => simpa only [fineD, D.tame] using h1
  | str t => simp only [fineD, decide_eq_true_eq]; simp only [D.wt] at h3; omega
  | tup xs => simp [D.depth] at h2
  | lst xs => simp [D.depth] at h2
  | _ => simp [D.tame] at h1
theorem plc_fine {p : Plc} (h : PlcOk p) (hn : isName p.name = true) : fineD 12 p.d = true := by
  rw [show p.d = .tup [.str p.name, .tup (p.sets.map setD), linesD p.lines] from rfl]
  refine fine_tup.mpr ⟨by simp, fun x hx => ?_⟩
  simp only [List.mem_cons, List.not_mem_nil, or_false] at hx
  rcases hx with rfl | rfl | rfl
  · exact fine0 (lm_name hn) (by omega)
  · refine fine_tup.mpr ⟨by rw [List.length_map]; have := h.len; omega, fun x hx => ?_⟩
    obtain ⟨q, hq, rfl⟩ := List.mem_map.mp hx
    rw [show setD q = .tup [.str q.1, q.2] from rfl]
    refine fine_tup.mpr ⟨by simp, fun x hx => ?_⟩
    simp only [List.mem_cons, List.not_mem_nil, or_false] at hx
    rcases hx with rfl | rfl
    · exact fine0 (Lm.str (trait_len5 (h.mem q hq))) (by omega)
    · exact fine0 (lm_worth (h.ws q hq)) (by omega)
  · cases e : p.lines with
    | none => rfl
    | some l =>
      have hl := h.ls l e
      rw [show linesD (some l) = .tup (l.map .str) from rfl]
      refine fine_tup.mpr ⟨by rw [List.length_map]; exact hl.1, fun x hx => ?_⟩
      obtain ⟨t, ht, rfl⟩ := List.mem_map.mp hx
      exact fine0 (Lm.str (hl.2 t ht).len) (by omega)
structure Mg (m : Mst) : Prop where
  nm : m.name.length ≤ 8
  ov : ∀ o, m.over = some o → o.length ≤ 8
  own : Te 12 4 9300 (.tup (m.own.map Plc.d))
theorem te_str {m n : Nat} {t : Tx} (h : t.length ≤ 8) : Te m n 8 (.str t) := ⟨by simp only [fineD, decide_eq_true_eq]; omega, by simp [D.depth], by simp only [D.wt]; exact h⟩
theorem te_over {m n : Nat} {o : Option Tx} (h : ∀ x, o = some x → x.length ≤ 8) : Te m n 8 (overD o) := by
  cases o with
  | none => exact ⟨rfl, by simp [overD, D.depth], by simp [overD, D.wt]⟩
  | some x => exact te_str (h x rfl)
theorem te_three {m n B1 B2 B3 : Nat} {a b c : D} (hm : 3 ≤ m) (ha : Te m n B1 a) (hb : Te m n B2 b) (hc : Te m n B3 c) : Te m (n + 1) (B1 + B2 + B3 + 3) (.tup [a, b, c]) := by
  have h1 := ha.wt
  have h2 := hb.wt
  have h3 := hc.wt
  refine .row hm (fun x hx => ?_) (fun x hx => ?_) (by simp only [D.wtL]; omega)
  all_goals
    simp only [List.mem_cons, List.not_mem_nil, or_false] at hx
    rcases hx with rfl | rfl | rfl
  · exact ha.fi
  · exact hb.fi
  · exact hc.fi
  · exact ha.dp
  · exact hb.dp
  · exact hc.dp
theorem Mg.te {m : Mst} (h : Mg m) : Te 12 5 9330 m.d := by
  rw [show Mst.d m = .tup [.str m.name, overD m.over, .tup (m.own.map Plc.d)] from rfl]
  exact (te_three (by omega) (te_str h.nm) (te_over h.ov) h.own).mono
theorem mg_of {pool : List Tx} {ms : List Mst} (h : MstsOk pool ms) (hp : ∀ x ∈ pool, isName x = true) {m : Mst} (hm : m ∈ ms) : Mg m := by
  refine ⟨(isName_len (h.nm m hm)).2, fun o ho => ?_, ?_⟩
  · obtain ⟨rk, hrk⟩ := h.rk
    obtain ⟨⟨m', hm', e'⟩, _⟩ := (hrk m hm).2 o ho
    rw [← e']
    exact (isName_len (h.nm m' hm')).2
  · have hown : Lm 4 (8 * 1161) (.tup (m.own.map Plc.d)) := Lm.tup (n := 3) (B := 1160) (fun p hpm => lm_place ((h.own m hm).ok p hpm).1 (hp _ ((h.own m hm).ok p hpm).2)) (h.own m hm).len
    refine ⟨fine_tup.mpr ⟨by rw [List.length_map]; have := (h.own m hm).len; omega, fun x hx => ?_⟩, hown.dp, Nat.le_trans hown.wt (by omega)⟩
    obtain ⟨p, hpm, rfl⟩ := List.mem_map.mp hx
    exact plc_fine ((h.own m hm).ok p hpm).1 (hp _ ((h.own m hm).ok p hpm).2)
theorem ms_te {ms : List Mst} (h : ∀ m ∈ ms, Mg m) (hl : ms.length ≤ 12) : Te 12 6 112000 (msD ms) :=
  (Te.all (m := 12) (n := 5) (B := 9330) (l := 12) (xs := ms.map Mst.d) (fun x hx => by
    obtain ⟨m, hm, rfl⟩ := List.mem_map.mp hx
    exact (h m hm).te) (by rw [List.length_map]; exact hl) (by omega)).mono
section
variable {s : Store} {Φ : D → Store → Prop} {Ξ : Xc → Store → Prop}
theorem over_z {k : Nat} {ms : List Mst} (hp : PenOk k s) (hk : k ≤ 800000000) (h : ∀ m ∈ ms, Mg m) (h1 : 1 ≤ ms.length) (h12 : ms.length ≤ 12) (q : ∀ (ms' : List Mst) (s' : Store), (∀ m ∈ ms', Mg m) → ms'.length = ms.length → PenOk (k + 3) s' → Φ (msD ms') s') : wz (m__law_over [.ref 0, msD ms]) s Φ Ξ := by
  rw [show msD ms = .tup (ms.map Mst.d) from rfl]
  simp only [m__law_over, N__law_over, b__law_over, stp, List.length_map]
  refine drawz hp (fun r s1 a b hp1 => ?_) (by omega) (by omega) (by omega)
  try simp only [stp, List.length_map]
  refine drawz hp1 (fun r2 s2 a2 b2 hp2 => ?_) (by omega) (by omega) (by omega)
  try simp only [stp]
  obtain ⟨m2, hm2, hix2⟩ : ∃ m2 ∈ ms, L2.atI (ms.map Mst.d) r2 = some m2.d := by
    have hlt : r2.toNat < ms.length := by omega
    refine ⟨ms[r2.toNat], List.getElem_mem hlt, ?_⟩
    have e : ((r2.toNat : Nat) : Int) = r2 := by omega
    have t := Mr.atI_nat (l := ms.map Mst.d) (k := r2.toNat) (d := ms[r2.toNat].d) (by simp [hlt])
    rw [e] at t
    exact t
  rw [z_ix_tup hix2]
  try simp only [stp]
  rw [name_ix]
  try simp only [stp]
  refine drawz hp2 (fun r3 s3 a3 b3 hp3 => ?_) (by omega) (by omega) (by omega)
  try simp only [stp]
  refine ixz_any a3 b3 fun c hc => ?_
  have ho : ∃ o : Option Tx, c = overD o ∧ ∀ x, o = some x → x.length ≤ 8 := by
    simp only [List.mem_cons, List.not_mem_nil, or_false] at hc
    rcases hc with rfl | rfl | rfl
    · exact ⟨some m2.name, rfl, fun x e => by cases e; exact (h m2 hm2).nm⟩
    · exact ⟨some _, rfl, fun x e => by cases e; decide⟩
    · exact ⟨none, rfl, fun x e => by cases e⟩
  obtain ⟨o, rfl, ho⟩ := ho
  obtain ⟨P, m, S, rfl, hPl⟩ : ∃ P x S, ms = P ++ x :: S ∧ P.length = r.toNat := by
    have hlt : r.toNat < ms.length := by omega
    refine ⟨ms.take r.toNat, ms[r.toNat], ms.drop (r.toNat + 1), ?_, by rw [List.length_take]; omega⟩
    rw [List.getElem_cons_drop]
    exact (List.take_append_drop ..).symm
  have e2 : r = ((P.length : Nat) : Int) := by omega
  subst e2
  try simp only [stp]
  have hix : L2.atI ((P ++ m :: S).map Mst.d) ((P.length : Nat) : Int) = some m.d := Mr.atI_nat (by simp)
  rw [z_ix_tup hix]
  rw [show Mst.d m = .tup [.str m.name, overD m.over, .tup (m.own.map Plc.d)] from rfl]
  try simp only [stp, gMany, List.length_cons, List.length_nil, if_true, List.zip_cons_cons, List.zip_nil_right]
  have c1 : cutL ((P ++ m :: S).map Mst.d) none (some ((P.length : Nat) : Int)) = P.map Mst.d := by rw [cut_to]; simp
  have c2 : cutL ((P ++ m :: S).map Mst.d) (some ((P.length + 1 : Nat) : Int)) none = S.map Mst.d := by rw [cut_from, List.map_append, List.map_cons, show P.length + 1 = (P.map Mst.d).length + 1 by simp, List.drop_append]; simp
  have hlen : (P ++ m :: S).length = P.length + S.length + 1 := by simp; omega
  rw [c1, z_add_tup _ _ (by simp; omega)]
  try simp only [stp]
  rw [show ((P.length : Nat) : Int) + 1 = ((P.length + 1 : Nat) : Int) by omega, c2, z_add_tup _ _ (by simp; omega)]
  have e9 : D.tup (P.map Mst.d ++ [.tup [.str m.name, overD o, .tup (m.own.map Plc.d)]] ++ S.map Mst.d) = msD (P ++ ⟨m.name, o, m.own⟩ :: S) := by
    rw [show msD (P ++ ⟨m.name, o, m.own⟩ :: S) = .tup ((P ++ ⟨m.name, o, m.own⟩ :: S).map Mst.d) from rfl, List.map_append, List.map_cons, List.append_assoc]
    rfl
  rw [e9]
  refine q _ s3 (fun x hx => ?_) (by simp) (hp3.mono (by omega))
  rcases List.mem_append.mp hx with hx | hx
  · exact h x (List.mem_append_left _ hx)
  · rcases List.mem_cons.mp hx with rfl | hx
    · have hm := h m (by simp)
      exact ⟨hm.nm, ho, hm.own⟩
    · exact h x (List.mem_append_right _ (List.mem_cons_of_mem _ hx))
theorem tup_lst (xs : List D) (st : Store) : fTuple (.lst xs) st = .ok (.tup xs) st := rfl
def bareP (t : Tx) : D := .tup [.str t, .tup [], .non]
theorem bareP_te {t : Tx} (h : t.length ≤ 8) : Te 3 2 20 (bareP t) := (te_three (m := 3) (n := 1) (B1 := 8) (B2 := 0) (B3 := 0) (by omega) (te_str h) ⟨by simp [fineD, fineL], by simp [D.depth, D.depthL], by simp [D.wt, D.wtL]⟩ ⟨rfl, by simp [D.depth], by simp [D.wt]⟩).mono
end
theorem main (ns : List Int) (_ : ns.length ≤ 63) : ∃ s, b_law (startL N_law 1) (pen0 ns) = .ret (.bl true) s := by
  refine law_z ?_
  have ev : startL N_law 1 = [none, some (D.ref 0), none, none, none, none, none, none, none, none, none, none, none, none, none] := rfl
  rw [ev]
  simp only [b_law, stp]
  refine drawz (pen0_ok ns) fun r s1 a b hp1 => ?_
  try simp only [stp]
  rw [z_rng1 ⟨by omega, by omega⟩]
  refine for_fr [2, 3, 4, 5, 6, 7, 8, 9, 10, 11, 12, 13] (fun j st => PenOk (1 + 1000000 * j) st) (show ∀ i ∈ [2, 3, 4, 5, 6, 7, 8, 9, 10, 11, 12, 13], i < 15 by decide) hp1 (fun j d v s2 hj hp2 => ?_) fun v s2 hp2 => ?_
  · obtain ⟨hjn, rfl⟩ := nums_get hj
    have hj2 : j < 9 := by omega
    simp only [gOne, fill_cons, fill_nil, stp]
    refine drawz hp2 (fun r1 s3 a1 b1 hp3 => ?_) (by omega)
    try simp only [stp]
    refine ixz_any a1 (by simpa using b1) fun c hc => ?_
    obtain ⟨n, hn4, rfl⟩ : ∃ n : Nat, (n = 4 ∨ n = 12) ∧ c = .int n := by
      simp only [List.mem_cons, List.not_mem_nil, or_false] at hc
      rcases hc with rfl | rfl
      · exact ⟨4, .inl rfl, rfl⟩
      · exact ⟨12, .inr rfl, rfl⟩
    try simp only [stp]
    refine names_ok hp3 (by omega) (by omega) (by omega) fun pool s4 hpl hpm hp4 => ?_
    have hp4 : PenOk (1 + 1000000 * j + 20) s4 := hp4.mono (by omega)
    have hpl : pool.length ≤ 12 := by omega
    try simp only [stp]
    refine drawz hp4 (fun r2 s5 a2 b2 hp5 => ?_) (by omega)
    try simp only [stp]
    refine ixz_any a2 (by simpa using b2) fun c hc2 => ?_
    obtain ⟨n2, hn7, rfl⟩ : ∃ n : Nat, (n = 7 ∨ n = 12) ∧ c = .int n := by
      simp only [List.mem_cons, List.not_mem_nil, or_false] at hc2
      rcases hc2 with rfl | rfl
      · exact ⟨7, .inl rfl, rfl⟩
      · exact ⟨12, .inr rfl, rfl⟩
    try simp only [stp]
    refine masters_okN hp5 (by omega) (by omega) (by omega) (by omega) hpm.nd fun ms s6 hms hdm hl1 hl12 hp6 => ?_
    have hl12 : ms.length ≤ 12 := by omega
    have hmg : ∀ m ∈ ms, Mg m := fun m hm => mg_of hms hpm.ok hm
    have hte := ms_te hmg hl12
    have hp6 : PenOk (1 + 1000000 * j + 200000) s6 := hp6.mono (by omega)
    simp only [show D.tup (ms.map Mst.d) = msD ms from rfl, stp]
    refine bent_z 20 5 (by omega) hte (by omega) (by omega) hp6 (by omega) fun t1 s7 ht1 hp7 => ?_
    try simp only [stp]
    refine bent_z 20 6 (by omega) hte (by omega) (by omega) hp7 (by omega) fun t2 s8 ht2 hp8 => ?_
    try simp only [stp]
    refine over_z hp8 (by omega) hmg hl1 hl12 fun ms2 s9 hmg2 hl2 hp9 => ?_
    try simp only [stp]
    refine bent_z 20 6 (by omega) hte (by omega) (by omega) hp9 (by omega) fun t3 s10 ht3 hp10 => ?_
    try simp only [stp]
    refine ⟨by unfold ltZ sizeLine; simp, ?_⟩
    refine names_ok (k := 1 + 1000000 * j + 300000) (hp10.mono (by omega)) (by omega) (by omega) (by omega) fun l9 s11 hl9 hn9 hp11 => ?_
    have hl9 : l9.length = 9 := hl9
    try simp only [stp]
    rw [z_add_lst _ _ (by simp; omega)]
    try simp only [stp]
    refine drawz (k := 1 + 1000000 * j + 300015) (hp11.mono (by omega)) (fun r3 s12 a3 b3 hp12 => ?_) (by omega)
    try simp only [stp]
    obtain ⟨lq, hlq, elq, hlq2⟩ : ∃ lq : List Tx, (∀ t ∈ lq, t.length ≤ 8) ∧ cutL (l9.map D.str ++ [.str ['q']]) none (some (8 + r3)) = lq.map .str ∧ lq.length ≤ 10 := by
      refine ⟨(l9 ++ [['q']]).take (8 + r3).toNat, fun t ht => ?_, ?_, ?_⟩
      · rcases List.mem_append.mp (List.mem_of_mem_take ht) with ht | ht
        · exact (isName_len (hn9.ok t ht)).2
        · rw [List.mem_singleton.mp ht]; decide
      · rw [cut_take _ (by omega), List.map_take, List.map_append]
        rfl
      · rw [List.length_take, List.length_append]
        simp
        omega
    rw [elq]
    try simp only [asLs, stp]
    refine comp_fm (fun t : Tx => some (bareP t)) (fun t _ => ?_) ?_
    · simp [gOne, wipeE, stp, bareP]
    rw [List.filterMap_eq_map']
    try simp only [stp]
    rw [okz (tup_lst _ _)]
    try simp only [stp]
    have hown : Te 12 3 210 (.tup (lq.map bareP)) := (Te.all (m := 12) (n := 2) (B := 20) (l := 10) (xs := lq.map bareP) (fun x hx => by
      obtain ⟨t, ht, rfl⟩ := List.mem_map.mp hx
      exact (bareP_te (hlq t ht)).mono) (by rw [List.length_map]; exact hlq2) (by omega)).mono
    rw [z_ix_lst (show L2.atI ([msD ms, t1, t2, msD ms2] ++ [t3]) 3 = some (msD ms2) from rfl)]
    try simp only [stp]
    refine over_z (k := 1 + 1000000 * j + 300016) (hp12.mono (by omega)) (by omega) hmg2 (by omega) (by omega) fun ms3 s13 hmg3 hl3 hp13 => ?_
    try simp only [stp]
    obtain ⟨m0, mr, rfl⟩ : ∃ m0 mr, ms = m0 :: mr := by
      cases ms with
      | nil => simp at hl1
      | cons a b => exact ⟨a, b, rfl⟩
    have hm0 := hmg m0 (List.mem_cons_self ..)
    have hms0 : msD (m0 :: mr) = .tup (m0.d :: mr.map Mst.d) := rfl
    generalize hMS : msD (m0 :: mr) = MS at hte ⊢
    have hMS2 : MS = .tup (m0.d :: mr.map Mst.d) := by rw [← hMS]; rfl
    rw [okz (show opSl MS none (some 1) s13 = .ok (.tup [m0.d]) s13 by rw [hMS2]; simp [opSl, cutL]; rfl)]
    try simp only [stp]
    rw [z_mul_tup _ _ (by simp), show repL (2 : Int).toNat [m0.d] = [m0.d, m0.d] from rfl]
    try simp only [stp]
    have hix0 : ∀ (st : Store) (Φ : D → Store → Prop) (Ξ : Xc → Store → Prop), wz (opIx MS (.int 0)) st Φ Ξ = Φ m0.d st := fun st Φ Ξ => by rw [hMS2, z_ix_tup0]
    rw [hix0]
    try simp only [stp]
    rw [name_ix]
    try simp only [stp]
    rw [okz (show fList MS s13 = .ok (.lst (m0.d :: mr.map Mst.d)) s13 by rw [hMS2]; rfl)]
    try simp only [stp]
    rw [z_addL (by simp)]
    try simp only [stp]
    refine drawz (k := 1 + 1000000 * j + 300020) (hp13.mono (by omega)) (fun r4 s14 a4 b4 hp14 => ?_) (by omega)
    try simp only [stp]
    refine names_ok (k := 1 + 1000000 * j + 300022) (hp14.mono (by omega)) (by omega) (by omega) (by omega) fun lm s15 hlm hnm hp15 => ?_
    have hlm2 : lm.length ≤ 13 := by omega
    have hlm3 : 12 ≤ lm.length := by omega
    try simp only [stp]
    refine comp_fm (fun t : Tx => some (.tup [.str t, .non, .tup []])) (fun t _ => ?_) ?_
    · simp [gOne, wipeE, stp]
    rw [List.filterMap_eq_map']
    try simp only [stp]
    rw [okz (tup_lst _ _)]
    try simp only [stp]
    refine names_ok (k := 1 + 1000000 * j + 300050) (hp15.mono (by omega)) (by omega) (by omega) (by omega) fun lf s16 hlf hnf hp16 => ?_
    try simp only [stp]
    rw [List.length_map, z_rng1 ⟨by omega, by omega⟩, Int.toNat_natCast]
    generalize hTH : [MS, t1, t2, msD ms2] ++ [t3] ++ _ = TH
    have hmsW : ∀ {l : List Mst}, (∀ m ∈ l, Mg m) → l.length ≤ 12 → Te 20 10 500000 (msD l) := fun h1 h2 => (ms_te h1 h2).mono
    have hm0te := hm0.te
    have hTHte : ∀ x ∈ TH, Te 20 10 500000 x := by
      rw [← hTH]
      intro x hx
      simp only [List.cons_append, List.nil_append, List.mem_cons, List.not_mem_nil, or_false] at hx
      rcases hx with rfl | rfl | rfl | rfl | rfl | rfl | rfl | rfl | rfl | rfl
      · exact hte.mono
      · exact ht1.mono
      · exact ht2.mono
      · exact hmsW hmg2 (by omega)
      · exact ht3.mono
      · exact hmsW hmg3 (by omega)
      · exact (Te.all (m := 12) (n := 5) (B := 9330) (l := 2) (xs := [m0.d, m0.d]) (fun x hx => by
          simp only [List.mem_cons, List.not_mem_nil, or_false] at hx
          rcases hx with rfl | rfl <;> exact hm0te) (by simp) (by omega)).mono
      · exact (Te.all (m := 12) (n := 4) (B := 300) (l := 1) (fun x hx => by
          rw [List.mem_singleton.mp hx]
          exact (te_three (m := 12) (n := 3) (B1 := 8) (B2 := 0) (B3 := 210) (by omega) (te_str hm0.nm) ⟨rfl, by simp [D.depth], by simp [D.wt]⟩ hown).mono) (by simp) (by omega)).mono
      · have h9 := hte.fi
        have h10 := hte.dp
        have h11 := hte.wt
        rw [hMS2] at h9 h10 h11
        refine Te.mono (m := 12) (n := 6) (B := 112000) ⟨?_, ?_, ?_⟩
        · exact fine_lst.mpr (fine_tup.mp h9)
        · simp only [D.depth] at h10 ⊢; exact h10
        · simp only [D.wt] at h11 ⊢; exact h11
      · exact ⟨rfl, by simp [D.depth], by simp [D.wt]⟩
    refine for_st (fun xs : List D => [none, some (.ref 0), some (.int (0 + (j : Nat))), some (.lst (pool.map .str)), some MS, some (.lst TH), none, some (.tup (lm.map fun t => D.tup [.str t, .non, .tup []])), some (.lst (lf.map .str)), some (.lst xs), none, v 11, v 12, v 13, none]) [6, 10] (fun i xs st => PenOk (1 + 1000000 * j + 300200) st ∧ xs.length = i ∧ ∀ x ∈ xs, Te 12 4 300 x) [] (fl rfl) ⟨hp16.mono (by omega), rfl, fun x hx => by cases hx⟩ (fun i d xs v2 s17 hi hI => ?_) fun xs v2 s17 hI => ?_
    · obtain ⟨hp17, hxl, hxs⟩ := hI
      obtain ⟨hin, rfl⟩ := nums_get hi
      simp only [gOne, fill_cons, fill_nil, stp]
      have hfm : ((0 : Int) + (i : Int)).fmod 12 = ((i % 12 : Nat) : Int) := by rw [Int.fmod_eq_emod_of_nonneg _ (by omega)]; omega
      have hmod : i % 12 < 12 := Nat.mod_lt _ (by omega)
      generalize i % 12 = w at hfm hmod
      rw [z_mod_int _ _ (by omega), hfm]
      try simp only [stp]
      rw [z_mul_int _ _ (.inl (by omega))]
      try simp only [asI, stp]
      rw [z_mod_int _ _ (by omega), hfm]
      try simp only [stp]
      rw [z_mul_int _ _ (.inl (by omega))]
      try simp only [asI, stp]
      have hlf2 : lf.length = 96 := hlf
      obtain ⟨lo, hlo, elo, hlo2⟩ : ∃ lo : List Tx, (∀ t ∈ lo, t.length ≤ 8) ∧ cutL (lf.map D.str) (some (8 * (w : Int))) (some (8 * (w : Int) + 8)) = lo.map .str ∧ lo.length ≤ 8 := by
        refine ⟨(lf.drop (8 * (w : Int)).toNat).take ((8 * (w : Int) + 8).toNat - (8 * (w : Int)).toNat), fun t ht => (isName_len (hnf.ok t (List.mem_of_mem_drop (List.mem_of_mem_take ht)))).2, ?_, ?_⟩
        · rw [cut_mid _ (by omega) (by omega) (by rw [List.length_map]; omega), List.map_take, List.map_drop]
        · rw [List.length_take]
          omega
      rw [elo]
      try simp only [asLs, stp]
      refine comp_fm (fun t : Tx => some (bareP t)) (fun t _ => ?_) ?_
      · simp [gOne, wipeE, stp, bareP]
      rw [List.filterMap_eq_map']
      try simp only [stp]
      rw [okz (tup_lst _ _)]
      try simp only [stp]
      have hown2 : Te 12 3 210 (.tup (lo.map bareP)) := (Te.all (m := 12) (n := 2) (B := 20) (l := 8) (xs := lo.map bareP) (fun x hx => by
        obtain ⟨t, ht, rfl⟩ := List.mem_map.mp hx
        exact (bareP_te (hlo t ht)).mono) (by rw [List.length_map]; exact hlo2) (by omega)).mono
      have hat : ∀ (p : Nat), (hp : p < lm.length) → L2.atI (lm.map fun t => D.tup [.str t, .non, .tup []]) ((p : Nat) : Int) = some (.tup [.str lm[p], .non, .tup []]) := fun p hp => Mr.atI_nat (by simp [hp])
      have hi2 : i < lm.length := hin
      rw [show (0 : Int) + (i : Int) = ((i : Nat) : Int) by omega, z_ix_tup (hat i hi2)]
      try simp only [stp]
      have hnmL : ∀ (p : Nat) (hp : p < lm.length), lm[p].length ≤ 8 := fun p hp => (isName_len (hnm.ok _ (List.getElem_mem hp))).2
      have hte3 : ∀ (o : Option Tx), (∀ x, o = some x → x.length ≤ 8) → Te 12 4 300 (.tup [.str lm[i], overD o, .tup (lo.map bareP)]) := fun o ho =>
        (te_three (m := 12) (n := 3) (B1 := 8) (B2 := 8) (B3 := 210) (by omega) (te_str (hnmL i hi2)) (te_over ho) hown2).mono
      have hnew : ∀ (o : Option Tx), (∀ x, o = some x → x.length ≤ 8) → ∀ x ∈ xs ++ [D.tup [.str lm[i], overD o, .tup (lo.map bareP)]], Te 12 4 300 x := fun o ho x hx => by
        rcases List.mem_append.mp hx with hx | hx
        · exact hxs x hx
        · rw [List.mem_singleton.mp hx]
          exact hte3 o ho
      cases hi0 : ((i : Nat) : Int) == 0 with
      | true =>
        simp only [stp]
        exact ⟨by unfold ltZ sizeLine; simp; omega, _, fl rfl, hp17, by simp; omega, hnew none fun x e => by cases e⟩
      | false =>
        have hi1 : ¬ ((i : Nat) : Int) = 0 := fun z => by rw [z] at hi0; cases hi0
        simp only [stp]
        have hi3 : i - 1 < lm.length := by omega
        rw [show ((i : Nat) : Int) - 1 = ((i - 1 : Nat) : Int) by omega, z_ix_tup (hat (i - 1) hi3)]
        try simp only [stp]
        exact ⟨by unfold ltZ sizeLine; simp; omega, _, fl rfl, hp17, by simp; omega, hnew (some lm[i - 1]) fun x e => by cases e; exact hnmL _ hi3⟩
    · obtain ⟨hp17, hxl, hxs⟩ := hI
      rw [nums_length] at hxl
      simp only [fill_cons, fill_nil, stp]
      rw [hix0]
      try simp only [stp]
      rw [okz (tup_lst _ _)]
      try simp only [stp]
      rw [z_add_lst _ _ (by rw [← hTH]; simp)]
      try simp only [stp]
      generalize hALL : TH ++ _ = ALL
      have hall : ∀ x ∈ ALL, Te 20 10 500000 x := by
        rw [← hALL]
        intro x hx
        rcases List.mem_append.mp hx with hx | hx
        · exact hTHte x hx
        · simp only [List.mem_cons, List.not_mem_nil, or_false] at hx
          rcases hx with rfl | rfl | rfl | rfl
          · exact (Te.all (m := 20) (n := 2) (B := 20) (l := 13) (fun x hx => by
              obtain ⟨t, ht, rfl⟩ := List.mem_map.mp hx
              exact (te_three (m := 20) (n := 1) (B1 := 8) (B2 := 0) (B3 := 0) (by omega) (te_str (isName_len (hnm.ok t ht)).2) ⟨rfl, by simp [D.depth], by simp [D.wt]⟩ ⟨by simp [fineD, fineL], by simp [D.depth, D.depthL], by simp [D.wt, D.wtL]⟩).mono) (by rw [List.length_map]; exact hlm2) (by omega)).mono
          · exact ⟨by simp [fineD, fineL], by simp [D.depth, D.depthL], by simp [D.wt, D.wtL]⟩
          · exact hm0te.mono
          · exact (Te.all (m := 20) (n := 4) (B := 300) (l := 13) (fun x hx => (hxs x hx).mono) (by omega) (by omega)).mono
      refine for_fr [11, 12, 13] (fun _ st => PenOk (1 + 1000000 * j + 300200) st) (show ∀ i ∈ [11, 12, 13], i < 15 by decide) hp17 (fun i d v5 s18 hi hp18 => ?_) fun v5 s18 hp18 => ?_
      · have hE := hall d (List.mem_of_getElem? hi)
        have hrep := reprE_run (fine_tame d hE.fi) (by have := hE.dp; omega) (by have := hE.wt; omega)
        obtain ⟨bb, hbb⟩ := both_run (fine_sane (m := 20) (by omega) d hE.fi)
        simp only [gOne, fill_cons, fill_nil, stp]
        rw [okz (hrep s18)]
        try simp only [stp]
        rw [okz (hbb s18).1]
        try simp only [stp, Bool.not_true]
        rw [okz (hbb s18).2]
        try simp only [stp]
        rw [if_neg (by cases bb <;> decide), okz (hrep s18)]
        try simp only [stp]
        rw [z_ne rfl rfl, eqv_refl (.str _) rfl]
        simp only [Bool.not_true, Bool.false_eq_true, if_false, stp]
        exact ⟨fl rfl, hp18⟩
      · simp only [fill_cons, fill_nil, stp]
        exact ⟨fl rfl, hp18.mono (by omega)⟩
  · simp only [fill_cons, fill_nil, stp]
end Pf

namespace Pf
open PySem PySem.Spec PyProof.Rows L2 Mr
theorem facts {P : Program} {w : World} {K : PySem.W.Frag} {h : Heap} {mg : Str → Option Value} {f : Addr} (X : K.In h) (G : h.Ns mainGlobals mg) (hfa : mg ("law" : Str) = some (.ref f)) (c : He.SaysX fa fn tabs tf (exC exs ts tf xs) w h K) :
    ∃ fd : FuncData, (∀ (s : Shared) (v : Value), BindsTo s fd ⟨[v], []⟩ [("script", v)]) ∧ ∀ base : Heap, K.In base → base.Ns mainGlobals mg → (∀ p ∈ tf.map (He.cT K), LamX.TabB base mg p.1 p.2) → RunC P w K mg base 23 f fd (spLaw K) := by
  have T : Tu K w mg h fa fn exs ts tabs := ⟨⟨X, G, c.t.d⟩, exC_b c.more, fun i t e => c.t.tab i e⟩
  obtain ⟨fdp, Fp⟩ := T.t.c.def_ 17 (d := d__law_pen) rfl
  obtain ⟨fd, F⟩ := T.t.c.def_ 37 (d := d_law) rfl
  have e := hfa.symm.trans (T.t.glo 60 (x := "law"))
  cases e
  have b := FunD.bindsA (ps := ["script"]) F fun _ _ _ _ _ _ us hl => match us, hl with | [_], _ => rfl
  exact ⟨fd, fun s v => b s [v] rfl, fun base _ _ TB => f_law (Tw.of X G c fun p hp => TB _ (List.mem_map.mpr ⟨p, hp, rfl⟩)) F Fp main⟩
end Pf
open PySem PySem.W PySem.Calls PyProof.Rows
theorem PySem.Challenge.cw_mastershow_k04_what_are_masters_holds : PySem.Challenge.rw_mastershow_k04_what_are_masters.Holds := by
  w_on; o_law
  refine HandSHeadRun.head_any (r := OpenLaw.row PySem.Challenge.rw_mastershow_k04_what_are_masters) (q := view (OpenLaw.row PySem.Challenge.rw_mastershow_k04_what_are_masters).prog [53]) (H := Pf.hk) (ob := Pf.ob) (M := 40000) (loose := Pf.loose) (d := HandSHeadRun.topDef (OpenLaw.row PySem.Challenge.rw_mastershow_k04_what_are_masters).prog 53) (kwd := []) Pf.ob_eq
    (by kernel_rfl) (fun s => by kernel_rfl) Pf.run (by kernel_rfl) (by kernel_rfl) (by kernel_rfl) (by rfl) (by first | assumption | decide +kernel) (by decide +kernel) ⟨rfl, rfl, rfl, rfl, rfl, by decide +kernel⟩ ?hw ?hc
  case hw => w_witness2
  case hc =>
    refine Mr.walk_lawC (l := PySem.Challenge.rw_mastershow_k04_what_are_masters) (k := 23) rfl (by kernel_rfl) ⟨rfl, by decide, by decide⟩ ?F
    intro w mg fa h Y G hmg0
    obtain ⟨K, KX, c⟩ := Y
    have hmg : mg ("law" : PySem.Str) = some (.ref fa) := by
      have e : (HandSHeadRun.topDef (OpenLaw.row PySem.Challenge.rw_mastershow_k04_what_are_masters).prog 53).name = ("law" : PySem.Str) := by kernel_rfl
      rw [← e]
      exact hmg0
    obtain ⟨fd, hb, hF⟩ := Pf.facts (P := (PySem.Challenge.rw_mastershow_k04_what_are_masters).prog) (w := w) KX G hmg c
    have at_ : ∀ {p}, p ∈ Pf.tf.map (He.cT K) → ∃ q ∈ Pf.tf, He.cT K q = p := fun hp => List.mem_map.mp hp
    exact ⟨K, fd, _, KX, fun p hp => (by obtain ⟨q, hq, rfl⟩ := at_ hp; exact c.empty q hq), fun p hp => (by obtain ⟨q, hq, rfl⟩ := at_ hp; exact c.out q hq), fun p hp => (by obtain ⟨q, hq, rfl⟩ := at_ hp; exact codeHd_of_K KX (c.hd q hq)), fun H t => Mr.tabs_start (Mr.exC_m c.more) c.hd t, hb, hF⟩

