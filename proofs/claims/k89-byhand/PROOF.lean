import PyProof.Rows.All
import Wide.All
import OpenK.AllK
import Wide.FinOn
import HandS.ForMost
import HandS.ForExc
import HandS.IsInst
import HandS.Flow
import HandS.Head0
import HandS.Head1
import HandS.Head2
import HandS.HeadEnd
import HandS.HeadHook1
import HandS.HeadHook2
import HandS.HeadHook4
import HandS.Lambda
import HandS.TupSets
import KE.KDictKeyed
import KE.GoesSet
import HandS.SortOrd
import KE.SortCalls
import KE.DataCmp
import HandS.SetFor
import HandS.SetBool
import HandS.Dict
import HandS.Deep
import HandS.TupAny
import HandS.Zip
import HandS.WordsExc
import HandS.WordsDict
import HandS.More
import KE.KTupSum
import KE.DataMinMax
import KE.SortData
import HandS.Property
import HandS.MakeKwOnly
import HandS.ExcOwn
import HandS.Small
import HandS.OwnEq
import HandS.Style
import PyProof.ReprRoads
import HandS.Strs
import HandS.SetIn
import HandS.Conv
import HandS.Star
import HandS.Iter
import HandS.CallSlots
import PyProof.SetRoads
import PyProof.WalksMore
import PyProof.TupleIter
import HandS.TryOnly
import HandS.ExcIs
import PyProof.ExcBaseAll.ValueError
import HandS.EndTab
import HandS.ExcValue
import KE.KExcIs
import KE.KExcSuper
import HandS.ExcInit
import HandS.Exc
import HandS.Text
import HandS.FStr
import KE.KDictWalk
import KE.KDictCopyH
import HandS.DictSubView
import HandS.DeepEq
import HandS.DictEq
import KE.KDictPairs
import KE.KDictDisplayH
import KE.KDictList
import PySem.Challenge.RW_heardfew_k89_texts_by_hand
set_option Elab.async false
set_option linter.all false
set_option maxRecDepth 100000
set_option maxHeartbeats 4000000
/-! MirHd: what the head's run asks of the written part (stands first, so that a law's run can stand early). -/
namespace MR
open PySem L2 PyProof.Rows
abbrev Frag := PySem.W.Frag
inductive IV where
  | non | bl (b : Bool) | int (i : Int) | str (s : Str) | ty (n : String) | cl (c : String)
  | tup (xs : List IV) | lst (xs : List IV) | scr (ns : List Int)
  | dic (kvs : List (Key × IV))
  | ins (c : String) (fs : List (Str × IV))
  | drw (lg cl : List Int) (rest turn : Int)
  | prs (ps : List (Int × Int))
  | lds (ds : List IV)
  | tab (n : Nat)
  | err (c : String) (fs : List (Str × IV))
  | lam (i : Nat)
  | dnk (ks xs : List IV)
  | tpl (ds xs : List IV)
  | sht (c : String) (fs : List (Str × IV))
def tysA : List String := ["int", "bool", "str", "tuple", "list", "dict"]
def tysV : List String := ["NoneType", "bool", "int", "str", "tuple", "list", "dict"]
structure DefM where
  adr : Frag → Addr
  name : Str
  qual : Str
  st : Stmt
  dfl : List He.Dv := []
  kwd : List (Str × He.Dv) := []
  clo : List Str := []
def DefM.val (d : DefM) : He.FnW := some (d.name, d.qual, defArgs d.st, .stmts (defBody d.st), defScope d.st, mainGlobals, d.clo.map fun x => (x, 0), builtinsNs)
def DefM.dvs (K : Frag) (d : DefM) : List V := d.dfl.map (He.Dv.v K)
def DefM.kws (K : Frag) (d : DefM) : List (Str × V) := d.kwd.map fun q => (q.1, q.2.v K)
def fnAt (K : Frag) (a : Addr) : He.FnW := match K.lookup a with
  | some ⟨_, _, .func g, _⟩ => some (g.name, g.qualname, g.params, g.body, g.scope, g.globals, g.closure.map fun p => (p.1, 0), g.builtins)
  | _ => none
def DefM.good (K : Frag) (d : DefM) : Bool := PySem.W.keepIn K (.ref (d.adr K)) && (match K.lookup (d.adr K) with
  | some ⟨_, _, .func g, _⟩ => PySem.W.codeIn K g.code d.qual && (He.dflB K g.defaults (d.dvs K) && He.kwdB K g.kwdefaults (d.kws K))
  | _ => false)
def obsM (fa : List He.Fa) (fn : List DefM) (ex : Frag → Bool) (K : Frag) : Bool × List He.FnW := ((fa.all fun f => f.ok K) && ((fn.all fun d => d.good K) && ex K), fn.map fun d => fnAt K (d.adr K))
def SaysM (fa : List He.Fa) (fn : List DefM) (ex : Frag → Bool) (K : Frag) : Prop := obsM fa fn ex K = (true, fn.map DefM.val)
def obsMG (n : Nat) (fa : List He.Fa) (fn : List DefM) (ex : Frag → Bool) (g : Addr → Option Obj) : Bool × List He.FnW := obsM fa fn ex (He.frT g (He.asD g n ++ [cStatics]))
mutual
def kiv (K : Frag) : IV → Value → Bool
  | .non, .none => true
  | .bl b, .bool c => b == c
  | .int i, .int j _ => i == j
  | .str s, .str z _ => s == z
  | .tup ds, .ref a => (match K.lookup a with
    | some ⟨.type c, _, .seq its _, _⟩ => decide (c = "tuple") && (decide (its.size ≤ 1000) && kivA K ds its.toList)
    | _ => false)
  | _, _ => false
def kivA (K : Frag) : List IV → List Value → Bool
  | [], [] => true
  | d :: ds, u :: us => kiv K d u && kivA K ds us
  | _, _ => false
end
def gvB (K : Frag) (x : Str) (d : IV) : Bool := match PySem.W.nsIn K mainGlobals x with
  | some (some u) => kiv K d u
  | _ => false
def kcB (K : Frag) (cs : List Str) : Bool :=
  (cs.all fun c => PySem.W.plainGet K (He.ga K c) Str.empty && (PySem.W.hasDictIn K (He.ga K c) && (PySem.W.plainOver K (He.ga K c) && (decide (PySem.W.findIn K (.ref (He.ga K c)) "__setattr__" = some (some (.builtin "object.__setattr__"))) &&
    (decide (PySem.W.findIn K (.ref (He.ga K c)) "__class__" = some (some (.builtin "object.__class__"))) && (decide (PySem.W.mroIn K (He.ga K c) (.type "object") = some true) &&
    ((cs.all fun c' => decide (PySem.W.kitOne K (.ref (He.ga K c)) (.ref (He.ga K c')) = some (decide (c = c')))) && ((tysA.all fun T => decide (PySem.W.kitOne K (.ref (He.ga K c)) (.type T) = some false)) && (tysV.all fun T => decide (PySem.W.kitOne K (.type T) (.ref (He.ga K c)) = some false)))))))))) &&
  (decide (PySem.W.specialIn K (.builtin "object.__class__") "__get__" = some (some (.builtin "getset_descriptor.__get__"))) && decide (PySem.W.takesIn K (.builtin "object.__class__") = some true))
def prAt (K : Frag) (C : Addr) (g : Str) : Addr := He.ma K C g
def gtAt (K : Frag) (p : Addr) : Addr := match PySem.W.recIn K p "property" with
  | some (.ref a :: _) => a
  | _ => 0
def prB (K : Frag) (C : Addr) (g : Str) : Bool := decide (PySem.W.findIn K (.ref C) g = some (some (.ref (prAt K C g)))) && (decide (PySem.W.specialIn K (.ref (prAt K C g)) "__get__" = some (some (.builtin "property.__get__"))) &&
  (decide (PySem.W.takesIn K (.ref (prAt K C g)) = some true) && (match PySem.W.recIn K (prAt K C g) "property" with
    | some (.ref a :: _) => decide (a = gtAt K (prAt K C g))
    | _ => false)))
def naB (K : Frag) (cs : List Str) (f : Str) : Bool := cs.all fun c => decide (PySem.W.findIn K (.ref (He.ga K c)) f = some none)
end MR
set_option maxRecDepth 100000
set_option maxHeartbeats 4000000
/-! MirHe: what the head asks of the errors' classes. -/
namespace MR
open PySem L2 PyProof.Rows
def subS (c c' : Str) : Bool := c == c' || c' == Str.ofString "HandError"
def errB (K : Frag) (cs : List Str) : Bool :=
  (cs.all fun c => PySem.W.keepIn K (.ref (He.ga K c)) && (decide (PySem.W.subIn K (.ref (He.ga K c)) (.type "BaseException") = some true) && (decide (PySem.W.typeIn K (.ref (He.ga K c)) = some (.type "type")) &&
    (decide (PySem.W.findIn K (.ref (He.ga K c)) "__getattribute__" = some (some (.builtin "BaseException.__getattribute__"))) && (decide (PySem.W.findIn K (.ref (He.ga K c)) "__getattr__" = some none) && (PySem.W.hasDictIn K (He.ga K c) &&
    (decide (PySem.W.findIn K (.ref (He.ga K c)) "__class__" = some (some (.builtin "object.__class__"))) && (decide (PySem.W.mroIn K (He.ga K c) (.type "object") = some true) && ((cs.all fun c' => decide (PySem.W.kitOne K (.ref (He.ga K c)) (.ref (He.ga K c')) = some (subS c c'))) &&
    (decide (PySem.W.kitOne K (.type "NoneType") (.ref (He.ga K c)) = some false) && decide (PySem.W.exmOne K (.ref (He.ga K c)) (.ref (He.ga K "HandError")) = some true))))))))))) &&
  (decide (PySem.W.specialIn K (.builtin "object.__class__") "__get__" = some (some (.builtin "getset_descriptor.__get__"))) && decide (PySem.W.takesIn K (.builtin "object.__class__") = some true))
/-- it is made by an __init__ that says super().__init__(..); self.f = f -/
def oexB (K : Frag) (C : Addr) : Bool := (match K.lookup C with
  | some ⟨.type T, _, .cls cd, sl⟩ => (match cd.mro, sl.toList with
    | .ref C' :: bm, [_, _, _, _, some (.builtin n), _] => decide (T = "type") && (decide (C' = C) && (decide (n = "ValueError.__new__") && (!cd.hasDel && (cd.hasDict && PySem.HandSPX.refsVE bm))))
    | _, _ => false)
  | _ => false) && (decide (PySem.W.findIn K (.ref C) "__setattr__" = some (some (.builtin "object.__setattr__"))) && (decide (PySem.W.subIn K (.ref C) (.type "BaseException") = some true) && (decide (PySem.W.typeIn K (.ref C) = some (.type "type")) && PySem.W.keepIn K (.ref C))))
def supIn (K : Frag) (C D : Addr) (name : Str) : Option (Option Value) := (PySem.W.clsIn K C).bind fun cd => PySem.W.alongIn K name ((cd.mro.dropWhile (· != .ref D)).drop 1)
def supB (K : Frag) (file : Str) (c f : Str) : Bool :=
  oexB K (He.ga K c) && (decide (PySem.W.findIn K (.ref (He.ga K c)) f = some none) && (decide (supIn K (He.ga K c) (He.ga K c) "__init__" = some (some (.builtin "ValueError.__init__"))) && (decide (PySem.W.subIn K (.ref (He.ga K c)) (.type "ValueError") = some true) &&
    (decide (PySem.W.mroIn K (He.ga K c) (.ref (He.ga K c)) = some true) && (decide (PySem.W.nsIn K cStatics "thirdparty.any" = some none) && (decide (PySem.W.findIn K (.ref (He.ga K c)) "__init__" = some (some (.ref (He.ma K (He.ga K c) "__init__")))) &&
    (decide (PySem.W.typeIn K (.ref (He.ma K (He.ga K c) "__init__")) = some (.type "function")) && (match K.lookup (He.ma K (He.ga K c) "__init__") with
      | some ⟨_, _, .func g, _⟩ => (match g.defaults with
        | .none => true
        | _ => false) && (match g.code, g.closure with
        | .ref cda, [(_, cc)] => (match K.lookup cda with
          | some ⟨_, _, .fields vs, _⟩ => (match (vs[2]? : Option Value) with
            | some (Value.str z _) => file == z
            | _ => false)
          | _ => false) && (match K.lookup cc with
          | some ⟨_, _, .cell (some (.ref D)), _⟩ => decide (D = He.ga K c)
          | _ => false)
        | _, _ => false)
      | _ => false))))))))
/-! what the head is asked beside: that sys.modules stands, a dict -/
def sysB (g : Addr → Option Obj) : Bool := match g sysModules with
  | some ⟨_, _, .dict _ _, _⟩ => true
  | _ => false
def SysD (h : Heap) : Prop := ∃ (o : Obj) (es : Array DictEntry) (ep : Nat), h.get? sysModules = some o ∧ o.data = .dict es ep
theorem sysB_ok {h : Heap} (e : sysB h.get? = true) : SysD h := by
  unfold sysB at e
  split at e
  · rename_i q
    exact ⟨_, _, _, q, rfl⟩
  · cases e
def obsSG (n : Nat) (fa : List He.Fa) (fn : List DefM) (ex : Frag → Bool) (g : Addr → Option Obj) : (Bool × List He.FnW) × Bool := (obsMG n fa fn ex g, sysB g)
def hookS (n : Nat) (fa : List He.Fa) (fn : List DefM) (ex : Frag → Bool) : PySem.W.Hook where
  α := (Bool × List He.FnW) × Bool
  obs s := obsSG n fa fn ex s.heap.get?
  val _ := ((true, fn.map DefM.val), true)
  says _ h := (∃ K : Frag, K.In h ∧ SaysM fa fn ex K) ∧ SysD h
  of _ _ e := ⟨⟨_, He.frT_in, congrArg Prod.fst e⟩, sysB_ok (congrArg Prod.snd e)⟩
  keeps _ _ _ y k := ⟨y.1.elim fun K z => ⟨K, PySem.W.Frag.In.keeps z.1 k, z.2⟩, y.2.elim fun o z => z.elim fun es z => z.elim fun ep z => ⟨o, es, ep, k _ o z.1, z.2⟩⟩
theorem obsSG_eq {n : Nat} {fa : List He.Fa} {fn : List DefM} {ex : Frag → Bool} {g : Addr → Option Obj} {s : Shared} (h : ∀ a, g a = s.heap.get? a) : obsSG n fa fn ex g = (hookS n fa fn ex).obs s := by
  have e : g = s.heap.get? := funext h
  subst e
  rfl
end MR
set_option maxRecDepth 100000
set_option maxHeartbeats 4000000
/-! MirHs: the head's run in several pieces, each checked by itself (one piece alone takes the kernel much less memory). -/
namespace MR
open PySem PySem.W L2 PyProof.Rows HandSHeadRun
theorem obs_join {n k : Nat} {fa : List He.Fa} {fn : List DefM} {ex : Frag → Bool} {g : Addr → Option Obj} (h1 : obsMG n fa [] (fun _ => true) g = (true, [])) (h2 : obsMG n [] (fn.take k) (fun _ => true) g = (true, (fn.take k).map DefM.val))
    (h3 : obsMG n [] (fn.drop k) (fun _ => true) g = (true, (fn.drop k).map DefM.val)) (h4 : obsMG n [] [] ex g = (true, [])) : obsMG n fa fn ex g = (true, fn.map DefM.val) := by
  unfold obsMG obsM at h1 h2 h3 h4 ⊢
  simp only [Prod.mk.injEq, List.all_nil, List.map_nil, Bool.and_true, Bool.true_and, and_true] at h1 h2 h3 h4 ⊢
  have e : fn = fn.take k ++ fn.drop k := (List.take_append_drop k fn).symm
  refine ⟨?_, ?_⟩
  · rw [h1, h4, Bool.true_and, Bool.and_true, e, List.all_append, h2.1, h3.1]
    rfl
  · have := congr (congrArg (· ++ ·) h2.2) h3.2
    rw [← List.map_append, ← List.map_append, List.take_append_drop] at this
    exact this
theorem ob_join {α : Type} {o : Option α} {g : α → Addr → Option Obj} {n k : Nat} {fa : List He.Fa} {fn : List DefM} {ex : Frag → Bool} (h1 : o.map (fun s => obsMG n fa [] (fun _ => true) (g s)) = some (true, [])) (h2 : o.map (fun s => obsMG n [] (fn.take k) (fun _ => true) (g s)) = some (true, (fn.take k).map DefM.val))
    (h3 : o.map (fun s => obsMG n [] (fn.drop k) (fun _ => true) (g s)) = some (true, (fn.drop k).map DefM.val)) (h4 : o.map (fun s => obsMG n [] [] ex (g s)) = some (true, [])) : o.map (fun s => obsMG n fa fn ex (g s)) = some (true, fn.map DefM.val) := by
  cases o with
  | none => cases h1
  | some s =>
    simp only [Option.map_some, Option.some.injEq] at h1 h2 h3 h4 ⊢
    exact obs_join h1 h2 h3 h4
theorem run_of {r : OpenRow} {q : Program} {H : Hook} {ob : SharedT → H.α} {M : Nat} {loose : List PySem.Str} {w : World}
    (h1 : ∀ os : OsState, (endF (stepQ (denQ tabQ) r.prog w) M r.prog w os).map (fun s => looksF r.prog (boot_heap w.params) s.abs) = some true)
    (h2 : ∀ os : OsState, (endF (stepQ (denQ tabQ) r.prog w) M r.prog w os).map (fun s => seenQ q loose (importedModules r.prog.main.body) (fun s => xlAt q [] s && recOk r.toRowW.records s) s.abs) = some (openGood q loose))
    (h3 : ∀ os : OsState, (endF (stepQ (denQ tabQ) r.prog w) M r.prog w os).map ob = some (H.val w)) : RunEq r q H ob M loose w := fun os => by
  obtain ⟨s, e, e1⟩ := Option.map_eq_some_iff.mp (h1 os)
  have e2 := h2 os
  have e3 := h3 os
  rw [e, Option.map_some, Option.some.injEq] at e2 e3
  rw [e, Option.map_some]
  exact congrArg some (Prod.ext e1 (Prod.ext e2 e3))
end MR
/-! MirHt: the head's run in pieces, where sys.modules is asked too. -/
namespace MR
open PySem PySem.W L2 PyProof.Rows HandSHeadRun
theorem obS_join {α β : Type} {o : Option α} {f : α → β} {h : α → Bool} {x : β} (h1 : o.map f = some x) (h2 : o.map h = some true) : o.map (fun s => (f s, h s)) = some (x, true) := by
  cases o with
  | none => cases h1
  | some s =>
    simp only [Option.map_some, Option.some.injEq] at h1 h2 ⊢
    rw [h1, h2]
end MR
set_option maxRecDepth 100000
/-! MirHb: a written dict {True: .., False: ..}, told at a glance. -/
namespace MR
open PySem PySem.Spec PyProof.Rows L2
def bdEs (t f : Str) : List DictEntry → Bool
  | [⟨h1, .bool true, .str x _⟩, ⟨h0, .bool false, .str y _⟩] => decide (h1 = hashInt 1) && (decide (h0 = hashInt 0) && (decide (x = t) && decide (y = f)))
  | _ => false
def bdB (K : PySem.W.Frag) (a : Addr) (t f : Str) : Bool := match K.lookup a with
  | some ⟨.type nm, none, .dict es _, sl⟩ => decide (nm = "dict") && (sl.isEmpty && (!(a == sysModules) && bdEs t f es.toList))
  | _ => false
def bvB (K : PySem.W.Frag) (x t f : Str) : Bool := match PySem.W.nsIn K mainGlobals x with
  | some (some (.ref a)) => bdB K a t f
  | _ => false
/-- a world in which the one row says b -/
def ovF (b : Bool) (f : String → Bool) : String → Bool := fun s => bif s == "special-get-raises" then b else f s
def ovW (b : Bool) (w : World) : World := { w with params := { w.params with followText := ovF b w.params.followText } }
theorem ovF_eq (f : String → Bool) : ovF (f "special-get-raises") f = f := by
  funext s
  unfold ovF
  by_cases h : s = "special-get-raises"
  · subst h; simp
  · have e : (s == "special-get-raises") = false := by simpa using h
    rw [e]; rfl
theorem ovW_eq (w : World) : ovW (w.params.followText "special-get-raises") w = w := by
  unfold ovW
  rw [ovF_eq]
end MR
set_option maxRecDepth 100000
set_option maxHeartbeats 0
namespace MR
open PySem L2 PyProof.Rows PySem.W HandSHeadRun
namespace K89
abbrev prog : Program := PySem.Challenge.pw_heardfew_k89_texts_by_hand
def top (i : Nat) : Stmt := prog.main.body.getD i (.Pass ⟨0, 0, 0, 0⟩)
def cbody : Stmt → List Stmt
  | .ClassDef (body := b) .. => b
  | _ => []
def mth (i j : Nat) : Stmt := (cbody (top i)).getD j (.Pass ⟨0, 0, 0, 0⟩)
def KCS : List String := ["Round", "Program", "Sheet"]
def ECS : List String := ["HandError", "BadRound", "BadProgram", "BadText"]
def cv_MARK : IV := (.tup [(.str "mark")])
def cv_MARK_SHARES : IV := (.tup [(.tup [(.int 1), (.int 2)]), (.tup [(.int 2), (.int 3)])])
def cv_MOST_RULES : IV := (.int 3)
def cv_SHARES : IV := (.tup [(.tup [(.int 0), (.int 1)]), (.tup [(.int 1), (.int 3)]), (.tup [(.int 1), (.int 2)]), (.tup [(.int 2), (.int 3)])])
def cv_WORDS : IV := (.tup [(.str "mark"), (.str "settle"), (.str "value")])
def dm__law_bad_heads : DefM := { adr := fun K => He.ga K "_law_bad_heads", name := "_law_bad_heads", qual := "_law_bad_heads", st := top 44, kwd := [] }
def dm__law_bad_rules : DefM := { adr := fun K => He.ga K "_law_bad_rules", name := "_law_bad_rules", qual := "_law_bad_rules", st := top 45, kwd := [] }
def dm__law_begun : DefM := { adr := fun K => He.ga K "_law_begun", name := "_law_begun", qual := "_law_begun", st := top 38, kwd := [] }
def dm__law_caught : DefM := { adr := fun K => He.ga K "_law_caught", name := "_law_caught", qual := "_law_caught", st := top 42, kwd := [] }
def dm_can_be_first : DefM := { adr := fun K => He.ga K "can_be_first", name := "can_be_first", qual := "can_be_first", st := top 21, kwd := [] }
def dm_can_be_last : DefM := { adr := fun K => He.ga K "can_be_last", name := "can_be_last", qual := "can_be_last", st := top 20, kwd := [] }
def dm_is_list : DefM := { adr := fun K => He.ga K "is_list", name := "is_list", qual := "is_list", st := top 12, kwd := [] }
def dm_Program : DefM := { adr := fun K => He.ma K (He.ga K "Program") "__init__", name := "__init__", qual := "Program.__init__", st := mth 22 0, kwd := [] }
def dm_is_deed : DefM := { adr := fun K => He.ga K "is_deed", name := "is_deed", qual := "is_deed", st := top 17, kwd := [] }
def dm_is_pair : DefM := { adr := fun K => He.ga K "is_pair", name := "is_pair", qual := "is_pair", st := top 13, kwd := [] }
def dm_is_number : DefM := { adr := fun K => He.ga K "is_number", name := "is_number", qual := "is_number", st := top 11, kwd := [] }
def dm_is_share : DefM := { adr := fun K => He.ga K "is_share", name := "is_share", qual := "is_share", st := top 15, kwd := [] }
def dm_is_value : DefM := { adr := fun K => He.ga K "is_value", name := "is_value", qual := "is_value", st := top 14, kwd := [] }
def dm_is_test : DefM := { adr := fun K => He.ga K "is_test", name := "is_test", qual := "is_test", st := top 16, kwd := [] }
def dm_is_rule : DefM := { adr := fun K => He.ga K "is_rule", name := "is_rule", qual := "is_rule", st := top 18, kwd := [] }
def dm_Round : DefM := { adr := fun K => He.ma K (He.ga K "Round") "__init__", name := "__init__", qual := "Round.__init__", st := mth 19 0, kwd := [("sure", .bl false)] }
def dm__law_good : DefM := { adr := fun K => He.ga K "_law_good", name := "_law_good", qual := "_law_good", st := top 43, kwd := [] }
def dm__law_mixed : DefM := { adr := fun K => He.ga K "_law_mixed", name := "_law_mixed", qual := "_law_mixed", st := top 39, kwd := [] }
def dm__law_take : DefM := { adr := fun K => He.ga K "_law_take", name := "_law_take", qual := "_law_take", st := top 40, kwd := [] }
def dm__law_pick : DefM := { adr := fun K => He.ga K "_law_pick", name := "_law_pick", qual := "_law_pick", st := top 41, kwd := [] }
def dm_need_program : DefM := { adr := fun K => He.ga K "need_program", name := "need_program", qual := "need_program", st := top 23, kwd := [] }
def dm_share_text : DefM := { adr := fun K => He.ga K "share_text", name := "share_text", qual := "share_text", st := top 26, kwd := [] }
def dm_round_text : DefM := { adr := fun K => He.ga K "round_text", name := "round_text", qual := "round_text", st := top 29, kwd := [] }
def dm_rule_text : DefM := { adr := fun K => He.ga K "rule_text", name := "rule_text", qual := "rule_text", st := top 28, kwd := [] }
def dm_program_lines : DefM := { adr := fun K => He.ga K "program_lines", name := "program_lines", qual := "program_lines", st := top 30, kwd := [] }
def dm_program_text : DefM := { adr := fun K => He.ga K "program_text", name := "program_text", qual := "program_text", st := top 31, kwd := [] }
def dm_Sheet : DefM := { adr := fun K => He.ma K (He.ga K "Sheet") "__init__", name := "__init__", qual := "Sheet.__init__", st := mth 35 0, kwd := [] }
def dm_share_told : DefM := { adr := fun K => He.ga K "share_told", name := "share_told", qual := "share_told", st := top 27, kwd := [] }
def dm_round_told : DefM := { adr := fun K => He.ga K "round_told", name := "round_told", qual := "round_told", st := top 32, kwd := [] }
def dm_test_told : DefM := { adr := fun K => He.ga K "test_told", name := "test_told", qual := "test_told", st := top 33, kwd := [] }
def dm_rule_told : DefM := { adr := fun K => He.ga K "rule_told", name := "rule_told", qual := "rule_told", st := top 34, kwd := [] }
def dm_read_program : DefM := { adr := fun K => He.ga K "read_program", name := "read_program", qual := "read_program", st := top 36, kwd := [] }
def dm_law : DefM := { adr := fun K => He.ga K "law", name := "law", qual := "law", st := top 46, kwd := [] }
def dm_Program__len__ : DefM := { adr := fun K => He.ma K (He.ga K "Program") "__len__", name := "__len__", qual := "Program.__len__", st := mth 22 2, kwd := [] }
def dm_Round__eq__ : DefM := { adr := fun K => He.ma K (He.ga K "Round") "__eq__", name := "__eq__", qual := "Round.__eq__", st := mth 19 5, kwd := [] }
def dm_Program__eq__ : DefM := { adr := fun K => He.ma K (He.ga K "Program") "__eq__", name := "__eq__", qual := "Program.__eq__", st := mth 22 4, kwd := [] }
def dm_Sheetis_marking : DefM := { adr := fun K => He.ma K (He.ga K "Sheet") "is_marking", name := "is_marking", qual := "Sheet.is_marking", st := mth 35 1, kwd := [] }
def dm_Sheetcan_take : DefM := { adr := fun K => He.ma K (He.ga K "Sheet") "can_take", name := "can_take", qual := "Sheet.can_take", st := mth 35 3, kwd := [] }
def dm_Sheettakes : DefM := { adr := fun K => He.ma K (He.ga K "Sheet") "takes", name := "takes", qual := "Sheet.takes", st := mth 35 2, kwd := [] }
def dm_Sheetis_whole : DefM := { adr := fun K => He.ma K (He.ga K "Sheet") "is_whole", name := "is_whole", qual := "Sheet.is_whole", st := mth 35 4, kwd := [] }
def dm_Round_asks : DefM := { adr := fun K => gtAt K (prAt K (He.ga K "Round") "asks"), name := "asks", qual := "Round.asks", st := mth 19 1, kwd := [] }
def dm_Round_rules : DefM := { adr := fun K => gtAt K (prAt K (He.ga K "Round") "rules"), name := "rules", qual := "Round.rules", st := mth 19 2, kwd := [] }
def dm_Round_sure : DefM := { adr := fun K => gtAt K (prAt K (He.ga K "Round") "sure"), name := "sure", qual := "Round.sure", st := mth 19 3, kwd := [] }
def dm_Program_rounds : DefM := { adr := fun K => gtAt K (prAt K (He.ga K "Program") "rounds"), name := "rounds", qual := "Program.rounds", st := mth 22 1, kwd := [] }
def dm_BadProgram_ini : DefM := { adr := fun K => He.ma K (He.ga K "BadProgram") "__init__", name := "__init__", qual := "BadProgram.__init__", st := mth 3 0, kwd := [], clo := ["__class__"] }
def dm_BadRound_ini : DefM := { adr := fun K => He.ma K (He.ga K "BadRound") "__init__", name := "__init__", qual := "BadRound.__init__", st := mth 2 0, kwd := [], clo := ["__class__"] }
def dm_BadText_ini : DefM := { adr := fun K => He.ma K (He.ga K "BadText") "__init__", name := "__init__", qual := "BadText.__init__", st := mth 4 0, kwd := [], clo := ["__class__"] }
def fnL : List DefM := [dm__law_bad_heads, dm__law_bad_rules, dm__law_begun, dm__law_caught, dm_can_be_first, dm_can_be_last, dm_is_list, dm_Program, dm_is_deed, dm_is_pair, dm_is_number, dm_is_share, dm_is_value, dm_is_test, dm_is_rule, dm_Round, dm__law_good, dm__law_mixed, dm__law_take, dm__law_pick, dm_need_program, dm_share_text, dm_round_text, dm_rule_text, dm_program_lines, dm_program_text, dm_Sheet, dm_share_told, dm_round_told, dm_test_told, dm_rule_told, dm_read_program, dm_law, dm_Program__len__, dm_Round__eq__, dm_Program__eq__, dm_Sheetis_marking, dm_Sheetcan_take, dm_Sheettakes, dm_Sheetis_whole, dm_Round_asks, dm_Round_rules, dm_Round_sure, dm_Program_rounds, dm_BadProgram_ini, dm_BadRound_ini, dm_BadText_ini]
def faL : List He.Fa := [.glo "_law_bad_heads", .glo "_law_bad_rules", .glo "_law_begun", .glo "_law_caught", .glo "can_be_first", .glo "can_be_last", .glo "is_list", .glo "is_deed", .glo "is_pair", .glo "is_number", .glo "is_share", .glo "is_value", .glo "is_test", .glo "is_rule", .glo "_law_good", .glo "_law_mixed", .glo "_law_take", .glo "_law_pick", .glo "need_program", .glo "share_text", .glo "round_text", .glo "rule_text", .glo "program_lines", .glo "program_text", .glo "share_told", .glo "round_told", .glo "test_told", .glo "rule_told", .glo "read_program", .glo "law", .glo "Round", .glo "Program", .glo "Sheet", .glo "HandError", .glo "BadRound", .glo "BadProgram", .glo "BadText", .free "abs", .free "all", .free "any", .free "bool", .free "enumerate", .free "int", .free "isinstance", .free "len", .free "list", .free "range", .free "repr", .free "str", .free "super", .free "tuple", .free "zip", .mkr "Round", .mkr "Program", .mkr "Sheet", .meth "Program" "__len__", .meth "Round" "__eq__", .meth "Program" "__eq__", .meth "Sheet" "is_marking", .meth "Sheet" "can_take", .meth "Sheet" "takes", .meth "Sheet" "is_whole"]
def exL (K : Frag) : Bool := kcB K (KCS.map Str.ofString) && (naB K (KCS.map Str.ofString) "at" && (naB K (KCS.map Str.ofString) "heads" && (naB K (KCS.map Str.ofString) "own_asks" && (naB K (KCS.map Str.ofString) "own_rounds" && (naB K (KCS.map Str.ofString) "own_rules" && (naB K (KCS.map Str.ofString) "own_sure" && (naB K (KCS.map Str.ofString) "part" && (naB K (KCS.map Str.ofString) "rows" && (gvB K "MARK" cv_MARK && (gvB K "MARK_SHARES" cv_MARK_SHARES && (gvB K "MOST_RULES" cv_MOST_RULES && (gvB K "SHARES" cv_SHARES && (gvB K "WORDS" cv_WORDS && (bvB K "SURE" "sure" "unsure" && (prB K (He.ga K "Round") "asks" && (prB K (He.ga K "Round") "rules" && (prB K (He.ga K "Round") "sure" && (prB K (He.ga K "Program") "rounds" && (decide (PySem.W.findIn K (.ref (He.ga K "Round")) "__ne__" = some (some (.builtin "object.__ne__"))) && (decide (PySem.W.findIn K (.ref (He.ga K "Program")) "__ne__" = some (some (.builtin "object.__ne__"))) && (errB K (ECS.map Str.ofString) && (((["law"] : List Str).all fun nm => (K.lookup (He.cT K (nm, none)).2).isNone) && (naB K (ECS.map Str.ofString) "at" && (naB K (ECS.map Str.ofString) "part" && (supB K prog.main.file "BadProgram" "at" && (supB K prog.main.file "BadRound" "part" && (supB K prog.main.file "BadText" "at" && ((K.lookup sysModules).isNone && (decide ((["law"] : List Str).map fun nm => (He.cT K (nm, none)).2).Nodup)))))))))))))))))))))))))))))
abbrev R : PySem.W.OpenRow := PySem.W.OpenLaw.row PySem.Challenge.rw_heardfew_k89_texts_by_hand
abbrev hk : PySem.W.Hook := hookS 5 faL fnL exL
def ob (s : PySem.W.SharedT) : (Bool × List He.FnW) × Bool := obsSG 5 faL fnL exL (HandSHeadRun.getT s)
theorem ob_eq (s : PySem.W.SharedT) : ob s = hk.obs s.abs := obsSG_eq (HandSHeadRun.getT_eq s)
def loose0 : List Str := ["HandError", "BadRound", "BadProgram", "BadText", "SHARES", "MARK_SHARES", "WORDS", "MARK", "MOST_RULES", "is_number", "is_list", "is_pair", "is_value", "is_share", "is_test", "is_deed", "is_rule", "Round", "can_be_last", "can_be_first", "Program", "need_program", "SURE", "share_text", "share_told", "rule_text", "round_text", "program_lines", "program_text", "round_told"]
def loose1 : List Str := ["test_told", "rule_told", "Sheet", "read_program", "_law_begun", "_law_mixed", "_law_take", "_law_pick", "_law_caught", "_law_good", "_law_bad_heads", "_law_bad_rules"]
def looseL : List Str := loose0 ++ loose1
end K89
end MR
set_option maxRecDepth 100000
set_option maxHeartbeats 0
namespace MR
open PySem L2 PyProof.Rows PySem.W HandSHeadRun
namespace K89
def Prun1 (w : World) : Prop := ∀ os : OsState, (endF (stepQ (denQ tabQ) R.prog w) 20000 R.prog w os).map (fun s => looksF R.prog (boot_heap w.params) s.abs) = some true
theorem run1_t (w : World) : Prun1 (ovW true w) := by
  intro os
  kernel_rfl
theorem run1_f (w : World) : Prun1 (ovW false w) := by
  intro os
  kernel_rfl
theorem run1 (w : World) : ∀ os : OsState, (endF (stepQ (denQ tabQ) R.prog w) 20000 R.prog w os).map (fun s => looksF R.prog (boot_heap w.params) s.abs) = some true := by
  have h : Prun1 (ovW (w.params.followText "special-get-raises") w) := by
    cases w.params.followText "special-get-raises"
    · exact run1_f w
    · exact run1_t w
  rw [ovW_eq] at h
  exact h
def Prun2 (w : World) : Prop := ∀ os : OsState, (endF (stepQ (denQ tabQ) R.prog w) 20000 R.prog w os).map (fun s => seenQ (PySem.W.view R.prog [46]) looseL (importedModules R.prog.main.body) (fun s => xlAt (PySem.W.view R.prog [46]) [] s && recOk R.toRowW.records s) s.abs) = some (openGood (PySem.W.view R.prog [46]) looseL)
theorem run2_t (w : World) : Prun2 (ovW true w) := by
  intro os
  kernel_rfl
theorem run2_f (w : World) : Prun2 (ovW false w) := by
  intro os
  kernel_rfl
theorem run2 (w : World) : ∀ os : OsState, (endF (stepQ (denQ tabQ) R.prog w) 20000 R.prog w os).map (fun s => seenQ (PySem.W.view R.prog [46]) looseL (importedModules R.prog.main.body) (fun s => xlAt (PySem.W.view R.prog [46]) [] s && recOk R.toRowW.records s) s.abs) = some (openGood (PySem.W.view R.prog [46]) looseL) := by
  have h : Prun2 (ovW (w.params.followText "special-get-raises") w) := by
    cases w.params.followText "special-get-raises"
    · exact run2_f w
    · exact run2_t w
  rw [ovW_eq] at h
  exact h
def Prun3 (w : World) : Prop := ∀ os : OsState, (endF (stepQ (denQ tabQ) R.prog w) 20000 R.prog w os).map (fun s => obsMG 5 faL [] (fun _ => true) (HandSHeadRun.getT s)) = some (true, [])
theorem run3_t (w : World) : Prun3 (ovW true w) := by
  intro os
  kernel_rfl
theorem run3_f (w : World) : Prun3 (ovW false w) := by
  intro os
  kernel_rfl
theorem run3 (w : World) : ∀ os : OsState, (endF (stepQ (denQ tabQ) R.prog w) 20000 R.prog w os).map (fun s => obsMG 5 faL [] (fun _ => true) (HandSHeadRun.getT s)) = some (true, []) := by
  have h : Prun3 (ovW (w.params.followText "special-get-raises") w) := by
    cases w.params.followText "special-get-raises"
    · exact run3_f w
    · exact run3_t w
  rw [ovW_eq] at h
  exact h
def Prun4 (w : World) : Prop := ∀ os : OsState, (endF (stepQ (denQ tabQ) R.prog w) 20000 R.prog w os).map (fun s => obsMG 5 [] (fnL.take 23) (fun _ => true) (HandSHeadRun.getT s)) = some (true, (fnL.take 23).map DefM.val)
theorem run4_t (w : World) : Prun4 (ovW true w) := by
  intro os
  kernel_rfl
theorem run4_f (w : World) : Prun4 (ovW false w) := by
  intro os
  kernel_rfl
theorem run4 (w : World) : ∀ os : OsState, (endF (stepQ (denQ tabQ) R.prog w) 20000 R.prog w os).map (fun s => obsMG 5 [] (fnL.take 23) (fun _ => true) (HandSHeadRun.getT s)) = some (true, (fnL.take 23).map DefM.val) := by
  have h : Prun4 (ovW (w.params.followText "special-get-raises") w) := by
    cases w.params.followText "special-get-raises"
    · exact run4_f w
    · exact run4_t w
  rw [ovW_eq] at h
  exact h
def Prun5 (w : World) : Prop := ∀ os : OsState, (endF (stepQ (denQ tabQ) R.prog w) 20000 R.prog w os).map (fun s => obsMG 5 [] (fnL.drop 23) (fun _ => true) (HandSHeadRun.getT s)) = some (true, (fnL.drop 23).map DefM.val)
theorem run5_t (w : World) : Prun5 (ovW true w) := by
  intro os
  kernel_rfl
theorem run5_f (w : World) : Prun5 (ovW false w) := by
  intro os
  kernel_rfl
theorem run5 (w : World) : ∀ os : OsState, (endF (stepQ (denQ tabQ) R.prog w) 20000 R.prog w os).map (fun s => obsMG 5 [] (fnL.drop 23) (fun _ => true) (HandSHeadRun.getT s)) = some (true, (fnL.drop 23).map DefM.val) := by
  have h : Prun5 (ovW (w.params.followText "special-get-raises") w) := by
    cases w.params.followText "special-get-raises"
    · exact run5_f w
    · exact run5_t w
  rw [ovW_eq] at h
  exact h
def Prun6 (w : World) : Prop := ∀ os : OsState, (endF (stepQ (denQ tabQ) R.prog w) 20000 R.prog w os).map (fun s => obsMG 5 [] [] exL (HandSHeadRun.getT s)) = some (true, [])
theorem run6_t (w : World) : Prun6 (ovW true w) := by
  intro os
  kernel_rfl
theorem run6_f (w : World) : Prun6 (ovW false w) := by
  intro os
  kernel_rfl
theorem run6 (w : World) : ∀ os : OsState, (endF (stepQ (denQ tabQ) R.prog w) 20000 R.prog w os).map (fun s => obsMG 5 [] [] exL (HandSHeadRun.getT s)) = some (true, []) := by
  have h : Prun6 (ovW (w.params.followText "special-get-raises") w) := by
    cases w.params.followText "special-get-raises"
    · exact run6_f w
    · exact run6_t w
  rw [ovW_eq] at h
  exact h
def Prun7 (w : World) : Prop := ∀ os : OsState, (endF (stepQ (denQ tabQ) R.prog w) 20000 R.prog w os).map (fun s => sysB (HandSHeadRun.getT s)) = some true
theorem run7_t (w : World) : Prun7 (ovW true w) := by
  intro os
  kernel_rfl
theorem run7_f (w : World) : Prun7 (ovW false w) := by
  intro os
  kernel_rfl
theorem run7 (w : World) : ∀ os : OsState, (endF (stepQ (denQ tabQ) R.prog w) 20000 R.prog w os).map (fun s => sysB (HandSHeadRun.getT s)) = some true := by
  have h : Prun7 (ovW (w.params.followText "special-get-raises") w) := by
    cases w.params.followText "special-get-raises"
    · exact run7_f w
    · exact run7_t w
  rw [ovW_eq] at h
  exact h
theorem run (w : World) : HandSHeadRun.RunEq R (PySem.W.view R.prog [46]) hk ob 20000 looseL w := run_of (run1 w) (run2 w) fun os => obS_join (ob_join (g := fun s => HandSHeadRun.getT s) (k := 23) (run3 w os) (run4 w os) (run5 w os) (run6 w os)) (run7 w os)
end K89
end MR
set_option maxRecDepth 100000
/-! sets of nested tuples (numbers, texts, None, tuples of such): the table, adding, what a walk needs -/
namespace NSet
open PySem PySem.Spec PyProof.Rows L2
section
variable {P : Program} {w : World}
/-- no class statement lies in v, n levels down -/
def NoCls (P : Program) (w : World) (n : Nat) (s : Shared) (v : Value) : Prop :=
  ∀ (A : Around) (E : Value → Shared → Prop) (Q : Bool → Shared → Prop), Q false s → wpAny (model P w) A (ofAClassStatement n v) Q E s
/-- whether v's hash goes by value is told -/
def Tells (P : Program) (w : World) (n : Nat) (s : Shared) (v : Value) : Prop :=
  ∀ (A : Around) (E : Value → Shared → Prop) (Q : Bool → Shared → Prop), (∀ b, Q b s) → wpAny (model P w) A (hashByValue n v) Q E s
theorem noCls_flat {n : Nat} {s : Shared} {v : Value} (e : ∀ m, ofAClassStatement m v = pure false) : NoCls P w n s v := fun A E Q q => by
  rw [e]; exact wpAny_pure q
theorem noCls_tup {n : Nat} {s : Shared} {a : Addr} {o : Obj} {vs : Array Value} {m : Nat} (hg : s.heap.get? a = some o) (hcl : o.cls = .type "tuple")
    (hdat : o.data = .seq vs m) (ih : ∀ v ∈ vs.toList, NoCls P w n s v) : NoCls P w (n + 1) s (.ref a) := fun A E Q q => by
  have ht : s.TypeIs (.ref a) "tuple" := ⟨o, hg, hcl⟩
  unfold ofAClassStatement
  apply wpAny_bind
  apply wpAny_typeOf ht
  dsimp only
  have et : (("tuple" : String) == "tuple") = true := by decide
  simp only [et, if_true, Bool.not_true, Bool.false_eq_true, if_false]
  try apply wpAny_bind (wpAny_pure ?_)
  try simp only [Bool.not_true, Bool.false_eq_true, if_false]
  show wpAny _ _ (seqItems? (.ref a) >>= _) _ _ s
  apply wpAny_bind
  apply wpAny_seqItems hg hdat
  dsimp only
  apply wpAny_bind
  show wpAny _ _ (forIn vs _ _) _ _ s
  rw [← Array.forIn_toList]
  refine wpAny_forIn_list _ (fun left r s1 => r.1 = none ∧ s1 = s ∧ ∀ v ∈ left, NoCls P w n s v) _ (fun v left r s1 hI => ?_) (fun r s1 hI => ?_) _ _ ⟨rfl, rfl, ih⟩
  · obtain ⟨h1, h2, h3⟩ := hI
    subst h2
    apply wpAny_bind
    apply h3 v List.mem_cons_self
    simp only [Bool.false_eq_true, if_false]
    exact wpAny_pure ⟨rfl, rfl, fun u hu => h3 u (List.mem_cons_of_mem _ hu)⟩
  · obtain ⟨r1, r2⟩ := r
    obtain ⟨h1, h2, _⟩ := hI
    simp only at h1
    subst h1
    subst h2
    exact wpAny_pure q
theorem tells_flat {n : Nat} {s : Shared} {v : Value} (e : ∀ m, ∃ b, hashByValue m v = pure b) : Tells P w n s v := fun A E Q q => by
  obtain ⟨b, e⟩ := e n
  rw [e]
  exact wpAny_pure (q b)
theorem tells_tup {n : Nat} {s : Shared} {a : Addr} {o : Obj} {vs : Array Value} {m : Nat} (hg : s.heap.get? a = some o) (hcl : o.cls = .type "tuple")
    (hdat : o.data = .seq vs m) (ih : ∀ v ∈ vs.toList, Tells P w n s v) : Tells P w (n + 1) s (.ref a) := fun A E Q q => by
  have ht : s.TypeIs (.ref a) "tuple" := ⟨o, hg, hcl⟩
  unfold hashByValue
  apply wpAny_bind
  apply wpAny_specialOf ht F.slot_tuple_hash.lookup
  show wpAny _ _ (seqItems? (.ref a) >>= _) _ _ s
  apply wpAny_bind
  apply wpAny_seqItems hg hdat
  apply wpAny_bind
  show wpAny _ _ (forIn vs _ _) _ _ s
  rw [← Array.forIn_toList]
  refine wpAny_forIn_list _ (fun left r s1 => r.1 = none ∧ s1 = s ∧ ∀ v ∈ left, Tells P w n s v) _ (fun v left r s1 hI => ?_) (fun r s1 hI => ?_) _ _ ⟨rfl, rfl, ih⟩
  · obtain ⟨h1, h2, h3⟩ := hI
    subst h2
    apply wpAny_bind
    refine h3 v List.mem_cons_self _ _ _ fun b => ?_
    cases b
    · simp only [Bool.not_false, if_true]
      apply wpAny_pure
      exact wpAny_pure (q _)
    · simp only [Bool.not_true, Bool.false_eq_true, if_false]
      exact wpAny_pure ⟨rfl, rfl, fun u hu => h3 u (List.mem_cons_of_mem _ hu)⟩
  · obtain ⟨r1, r2⟩ := r
    obtain ⟨h1, h2, _⟩ := hI
    simp only at h1
    subst h2
    subst h1
    exact wpAny_pure (q _)
mutual
theorem noCls_key : ∀ (k : NestedKey) (v : Value) (n : Nat) (s : Shared), NestedIs s.heap k v → k.depth ≤ n → NoCls P w n s v
  | .none, _, _, _, x, _ => by cases x; exact noCls_flat fun m => by cases m <;> rfl
  | .num _, _, _, _, x, _ => by cases x <;> exact noCls_flat fun m => by cases m <;> rfl
  | .text _, _, _, _, x, _ => by cases x; exact noCls_flat fun m => by cases m <;> rfl
  | .tup ks, _, n, s, x, hn => by
    cases x with
    | tup g c d k =>
      simp only [NestedKey.depth] at hn
      cases n with
      | zero => omega
      | succ n => exact noCls_tup g c d (noCls_keys ks _ n s k (by omega))
theorem noCls_keys : ∀ (ks : List NestedKey) (vs : List Value) (n : Nat) (s : Shared), NestedAll s.heap ks vs → NestedKey.depthAll ks ≤ n → ∀ v ∈ vs, NoCls P w n s v
  | [], _, _, _, x, _, _, hv => by cases x; cases hv
  | k :: ks, _, n, s, x, hn, v, hv => by
    cases x with
    | cons a b =>
      simp only [NestedKey.depthAll] at hn
      rcases List.mem_cons.mp hv with e | hv
      · subst e; exact noCls_key k _ n s a (by omega)
      · exact noCls_keys ks _ n s b (by omega) v hv
end
mutual
theorem tells_key : ∀ (k : NestedKey) (v : Value) (n : Nat) (s : Shared), NestedIs s.heap k v → k.depth ≤ n → Tells P w n s v
  | .none, _, _, _, x, _ => by cases x; exact tells_flat fun m => ⟨true, by cases m <;> rfl⟩
  | .num _, _, _, _, x, _ => by cases x <;> exact tells_flat fun m => ⟨true, by cases m <;> rfl⟩
  | .text _, _, _, _, x, _ => by cases x; exact tells_flat fun m => ⟨false, by cases m <;> rfl⟩
  | .tup ks, _, n, s, x, hn => by
    cases x with
    | tup g c d k =>
      simp only [NestedKey.depth] at hn
      cases n with
      | zero => omega
      | succ n => exact tells_tup g c d (tells_keys ks _ n s k (by omega))
theorem tells_keys : ∀ (ks : List NestedKey) (vs : List Value) (n : Nat) (s : Shared), NestedAll s.heap ks vs → NestedKey.depthAll ks ≤ n → ∀ v ∈ vs, Tells P w n s v
  | [], _, _, _, x, _, _, hv => by cases x; cases hv
  | k :: ks, _, n, s, x, hn, v, hv => by
    cases x with
    | cons a b =>
      simp only [NestedKey.depthAll] at hn
      rcases List.mem_cons.mp hv with e | hv
      · subst e; exact tells_key k _ n s a (by omega)
      · exact tells_keys ks _ n s b (by omega) v hv
end
end
/-- a key, by its address -/
def KAt (h : Heap) (k : NestedKey) (a : Addr) : Prop := NestedIs h k (.ref a) ∧ k.depth ≤ 8
theorem KAt.mono {h g : Heap} {k : NestedKey} {a : Addr} (x : KAt h k a) (hk : ∀ b o, h.get? b = some o → g.get? b = some o) : KAt g k a :=
  ⟨NestedIs.at (fun b o _ _ e _ => hk b o e) k _ x.1, x.2⟩
theorem KAt.inj {h : Heap} {k k' : NestedKey} {a : Addr} (x : KAt h k a) (y : KAt h k' a) : k = k' := NestedIs.inj _ _ _ x.1 y.1
/-- a key isn't the set that changes -/
theorem KAt.beside {h g : Heap} {k : NestedKey} {a b : Addr} {o : Obj} {es : Array (Int × Value)} {ep : Nat} {t : SetTable} (x : KAt h k b)
    (hob : h.get? a = some o) (hdat : o.data = .set es ep t) (hsb : Heap.SameBut a h g) : KAt g k b :=
  ⟨NestedIs.at (fun c oc vs n e ed => (hsb.2 c (fun z => by
    subst z
    rw [hob] at e
    cases e
    rw [hdat] at ed
    cases ed)).trans e) k _ x.1, x.2⟩
section
variable {P : Program} {w : World} {A : Around} {E : Value → Shared → Prop} {s : Shared}
end
end NSet
set_option maxRecDepth 100000
/-! the table of a set of nested tuples: search, laying anew, adding -/
namespace NSet
open PySem PySem.Spec PyProof.Rows L2
abbrev Row := Addr × NestedKey
def ents (w : World) (L : List Row) : List (Int × Value) := L.map fun r => (r.2.hash w, Value.ref r.1)
def hashL (w : World) (L : List Row) : List Int := L.map fun r => r.2.hash w
/-- the set at a has the rows L -/
structure STab (w : World) (h : Heap) (a : Addr) (L : List Row) (es : Array (Int × Value)) (ep : Nat) (t : SetTable) : Prop where
  obj : ∃ o, h.get? a = some o ∧ o.ExactSet ∧ o.data = .set es ep t
  ent : es.toList = ents w L
  tok : TabOk t (hashL w L)
  nodup : (L.map Prod.snd).Nodup
  keys : ∀ r ∈ L, KAt h r.2 r.1
  ledor : w.params.followText "set-order" = true ∨ t.led = true
  space : L.length * 5 < t.mask * 3
  small : L.length < 64
section
variable {P : Program} {w : World} {A : Around} {E : Value → Shared → Prop} {s : Shared}
variable {a : Addr} {L : List Row} {es : Array (Int × Value)} {ep : Nat} {t : SetTable}
theorem STab.stays (R : STab w s.heap a L es ep t) : ¬ t.gaveWay = true := by
  unfold SetTable.gaveWay
  rw [mask_odd R.tok.mok]
  decide
end
end NSet
set_option maxRecDepth 100000
/-! sorting tuples, the empty one among them -/
namespace NSet
open PySem PySem.Spec PyProof.Rows L2 PySem.SeqAt PySem.W SrtO
mutual
/-- a key stays while the tuples stay -/
theorem nestedKeep {h g : Heap} (hk : ∀ b o, h.get? b = some o → o.cls = .type "tuple" → g.get? b = some o) : ∀ (k : NestedKey) (v : Value), NestedIs h k v → NestedIs g k v
  | .none, _, x => by cases x; exact .none
  | .num _, _, x => by
    cases x with
    | bool e => exact .bool e
    | int _ t => exact .int _ t
  | .text _, _, x => by cases x; exact .text _ _
  | .tup ks, _, x => by
    cases x with
    | tup a b c d => exact .tup (hk _ _ a b) b c (nestedKeepAll hk ks _ d)
theorem nestedKeepAll {h g : Heap} (hk : ∀ b o, h.get? b = some o → o.cls = .type "tuple" → g.get? b = some o) : ∀ (ks : List NestedKey) (vs : List Value), NestedAll h ks vs → NestedAll g ks vs
  | [], _, x => by cases x; exact .nil
  | k :: ks, _, x => by
    cases x with
    | cons a b => exact .cons (nestedKeep hk k _ a) (nestedKeepAll hk ks _ b)
end
mutual
/-- no truth value in it -/
inductive Pure' (h : Heap) : NestedKey → Value → Prop
  | none : Pure' h .none .none
  | int (i t) : Pure' h (.num i) (.int i t)
  | text (x t) : Pure' h (.text x) (.str x t)
  | tup {a o vs n ks} : h.get? a = some o → o.cls = .type "tuple" → o.data = .seq vs n → PureAll h ks vs.toList → Pure' h (.tup ks) (.ref a)
inductive PureAll (h : Heap) : List NestedKey → List Value → Prop
  | nil : PureAll h [] []
  | cons {k v ks vs} : Pure' h k v → PureAll h ks vs → PureAll h (k :: ks) (v :: vs)
end
mutual
theorem Pure'.key {h : Heap} : ∀ {k : NestedKey} {v : Value}, Pure' h k v → NestedIs h k v
  | _, _, .none => .none
  | _, _, .int i t => .int i t
  | _, _, .text x t => .text x t
  | _, _, .tup a b c d => .tup a b c (PureAll.keys d)
theorem PureAll.keys {h : Heap} : ∀ {ks : List NestedKey} {vs : List Value}, PureAll h ks vs → NestedAll h ks vs
  | _, _, .nil => .nil
  | _, _, .cons a b => .cons a.key (PureAll.keys b)
end
mutual
theorem Pure'.reads {h : Heap} : ∀ {k : NestedKey} {v : Value}, Pure' h k v → ∃ as, Reads h v k.data as
  | _, _, .none => ⟨_, .none⟩
  | _, _, .int i t => ⟨_, .int i t⟩
  | _, _, .text x t => ⟨_, .str x t⟩
  | _, _, .tup a b c d => let ⟨_, e⟩ := PureAll.reads d; ⟨_, .tuple a b c e⟩
theorem PureAll.reads {h : Heap} : ∀ {ks : List NestedKey} {vs : List Value}, PureAll h ks vs → ∃ as, ReadsAll h vs (NestedKey.datas ks) as
  | _, _, .nil => ⟨_, .nil⟩
  | _, _, .cons a b => let ⟨_, e⟩ := Pure'.reads a; let ⟨_, f⟩ := PureAll.reads b; ⟨_, .cons e f⟩
end
mutual
theorem Pure'.keep {h g : Heap} (hk : ∀ b o, h.get? b = some o → o.cls = .type "tuple" → g.get? b = some o) : ∀ {k : NestedKey} {v : Value}, Pure' h k v → Pure' g k v
  | _, _, .none => .none
  | _, _, .int i t => .int i t
  | _, _, .text x t => .text x t
  | _, _, .tup a b c d => .tup (hk _ _ a b) b c (PureAll.keep hk d)
theorem PureAll.keep {h g : Heap} (hk : ∀ b o, h.get? b = some o → o.cls = .type "tuple" → g.get? b = some o) : ∀ {ks : List NestedKey} {vs : List Value}, PureAll h ks vs → PureAll g ks vs
  | _, _, .nil => .nil
  | _, _, .cons a b => .cons (a.keep hk) (PureAll.keep hk b)
end
section
variable {prog : Program} {w : World} {A : Around} {E : Value → Shared → Prop} {s : Shared}
/-- tuples that read as alike data, ranked -/
structure Ranked (A : Around) (h : Heap) (vs : List Value) (rk : Value → Nat) : Prop where
  key : ∀ v ∈ vs, ∃ ks, Pure' h (.tup ks) v ∧ A.units + (NestedKey.tup ks).data.depth < cLine
  alk : ∀ v ∈ vs, ∀ u ∈ vs, ∀ k l, Pure' h (.tup k) v → Pure' h (.tup l) u → alike (NestedKey.tup k).data (NestedKey.tup l).data = true ∧ dataLt (NestedKey.tup k).data (NestedKey.tup l).data = decide (rk v < rk u)
theorem Pure'.one {h : Heap} {k l : NestedKey} {v : Value} (a : Pure' h k v) (b : Pure' h l v) : k = l := NestedIs.inj _ _ _ a.key b.key
end
end NSet
set_option maxRecDepth 100000
/-! set.add, set(list), sorted(set): sets of nested tuples -/
namespace NSet
open PySem PySem.Spec PyProof.Rows L2 PySem.SeqAt PySem.W
abbrev freshSet (w : World) : Obj := { cls := .type "set", dict := none, data := .set #[] 0 (.fresh 0 0 (!w.params.followText "set-order")) }
/-- keys of a finite lot -/
def Within (C : List NestedKey) (L : List Row) : Prop := C.length < 60 ∧ ∀ r ∈ L, r.2 ∈ C
theorem nodup_le {α : Type} [DecidableEq α] : ∀ (l m : List α), l.Nodup → (∀ x ∈ l, x ∈ m) → l.length ≤ m.length
  | [], _, _, _ => Nat.zero_le _
  | x :: l, m, hn, hs => by
    have hx := hs x List.mem_cons_self
    have z := nodup_le l (m.erase x) (List.nodup_cons.mp hn).2 fun y hy => (List.mem_erase_of_ne (fun e => (List.nodup_cons.mp hn).1 (by rw [← e]; exact hy))).2 (hs y (List.mem_cons_of_mem _ hy))
    rw [List.length_erase_of_mem hx] at z
    have := List.length_pos_of_mem hx
    rw [List.length_cons]
    omega
section
variable {P : Program} {w : World} {A : Around} {E : Value → Shared → Prop} {s : Shared}
variable {a : Addr} {L : List Row} {es : Array (Int × Value)} {ep : Nat} {t : SetTable} {C : List NestedKey}
theorem STab.bound (R : STab w s.heap a L es ep t) (hC : Within C L) : L.length < 60 := by
  have z := nodup_le (L.map Prod.snd) C R.nodup fun k hk => by
    obtain ⟨r, hr, e⟩ := List.mem_map.mp hk
    rw [← e]; exact hC.2 r hr
  rw [List.length_map] at z
  exact Nat.lt_of_le_of_lt z hC.1
theorem STab.after {h g : Heap} (R : STab w h a L es ep t) (h1 : ∀ o, h.get? a = some o → g.get? a = some o) (h2 : ∀ r ∈ L, KAt g r.2 r.1) : STab w g a L es ep t := by
  obtain ⟨o, ho, r⟩ := R.obj
  exact ⟨⟨o, h1 o ho, r⟩, R.ent, R.tok, R.nodup, h2, R.ledor, R.space, R.small⟩
/-- what the set has of the first i of ks -/
structure Has (ks : List Row) (i : Nat) (L : List Row) : Prop where
  from_ : ∀ r ∈ L, r ∈ ks.take i
  got : ∀ r ∈ ks.take i, r.2 ∈ L.map Prod.snd
theorem Has.nil (ks : List Row) : Has ks 0 [] := ⟨fun r h => (by cases h), fun r h => (by simp at h)⟩
theorem Has.next {ks L L' : List Row} {i : Nat} {x : Row} (g : Has ks i L) (h : ks[i]? = some x) (h1 : x.2 ∈ L.map Prod.snd → L' = L) (h2 : x.2 ∉ L.map Prod.snd → L'.Perm (x :: L)) : Has ks (i + 1) L' := by
  have e : ks.take (i + 1) = ks.take i ++ [x] := by rw [List.take_succ, h]; rfl
  by_cases c : x.2 ∈ L.map Prod.snd
  · rw [h1 c, ]
    refine ⟨fun r hr => by rw [e]; exact List.mem_append_left _ (g.from_ r hr), fun r hr => ?_⟩
    rw [e] at hr
    rcases List.mem_append.mp hr with hr | hr
    · exact g.got r hr
    · rw [List.mem_singleton.mp hr]; exact c
  · have pm := h2 c
    refine ⟨fun r hr => ?_, fun r hr => ?_⟩
    · rw [e]
      rcases List.mem_cons.mp (pm.mem_iff.mp hr) with z | hr
      · rw [z]; exact List.mem_append_right _ (List.mem_singleton.mpr rfl)
      · exact List.mem_append_left _ (g.from_ r hr)
    · rw [e] at hr
      refine (pm.map Prod.snd).mem_iff.mpr ?_
      rw [List.map_cons]
      rcases List.mem_append.mp hr with hr | hr
      · exact List.mem_cons_of_mem _ (g.got r hr)
      · rw [List.mem_singleton.mp hr]; exact List.mem_cons_self
set_option maxHeartbeats 3200000 in
end
end NSet
set_option maxRecDepth 100000
set_option maxHeartbeats 4000000
/-! sets of nested tuples in the abstract heap: set(xs), {e for x in xs}, sorted(set) -/
namespace NSet
open PySem PySem.Spec PyProof.Rows L2 PySem.SeqAt
/-- the set at a, its keys left to the abstract heap -/
def SObj (w : World) (h : Heap) (a : Addr) (L : List Row) : Prop := ∃ (es : Array (Int × Value)) (ep : Nat) (t : SetTable),
  (∃ o, h.get? a = some o ∧ o.ExactSet ∧ o.data = .set es ep t) ∧ es.toList = ents w L ∧ TabOk t (hashL w L) ∧ (L.map Prod.snd).Nodup ∧
    (w.params.followText "set-order" = true ∨ t.led = true) ∧ L.length * 5 < t.mask * 3 ∧ L.length < 64
def setO (w : World) (a : Addr) (L : List Row) : HO := .ext fun h => SObj w h a L
theorem SObj.tab {w : World} {h : Heap} {a : Addr} {L : List Row} (R : SObj w h a L) (hk : ∀ r ∈ L, KAt h r.2 r.1) : ∃ es ep t, STab w h a L es ep t := by
  obtain ⟨es, ep, t, h1, h2, h3, h4, h5, h6, h7⟩ := R
  exact ⟨es, ep, t, ⟨h1, h2, h3, h4, hk, h5, h6, h7⟩⟩
mutual
/-- the abstract value is the key -/
inductive VKey (K : PySem.W.Frag) (H : Hp) : V → NestedKey → Prop
  | none : VKey K H .non .none
  | int (i) : VKey K H (.int i) (.num i)
  | text (x) : VKey K H (.str x) (.text x)
  | tup {p vs ks} : SqT K H p vs → VKeys K H vs ks → VKey K H (.ref p) (.tup ks)
inductive VKeys (K : PySem.W.Frag) (H : Hp) : List V → List NestedKey → Prop
  | nil : VKeys K H [] []
  | cons {v vs k ks} : VKey K H v k → VKeys K H vs ks → VKeys K H (v :: vs) (k :: ks)
end
section
variable {X : Cx} {pins : List (Addr × Obj)} {σ : L2.St} {H : Hp} {s : Shared}
mutual
theorem VKey.pure (I : Inv X pins σ H s) : ∀ {v : V} {k : NestedKey} {u : Value}, VKey X.K H v k → RelV v u → Pure' s.heap k u
  | _, _, _, .none, r => by cases r; exact .none
  | _, _, _, .int i, r => by obtain ⟨t, rfl⟩ := r; exact .int i t
  | _, _, _, .text x, r => by obtain ⟨t, rfl⟩ := r; exact .text x t
  | _, _, _, .tup h hs, r => by
    cases r
    obtain ⟨its, rv, ⟨o, ho, hc, n, hd⟩, _⟩ := I.tuple h
    exact .tup ho hc hd (by simpa using VKeys.pure I hs rv)
theorem VKeys.pure (I : Inv X pins σ H s) : ∀ {vs : List V} {ks : List NestedKey} {us : List Value}, VKeys X.K H vs ks → Vals vs us → PureAll s.heap ks us
  | _, _, _, .nil, r => by cases r; exact .nil
  | _, _, _, .cons h hs, r => by
    cases r with
    | cons r1 r2 => exact .cons (VKey.pure I h r1) (VKeys.pure I hs r2)
end
theorem VKey.at_ (I : Inv X pins σ H s) {p : Addr} {k : NestedKey} (h : VKey X.K H (.ref p) k) (hd : k.depth ≤ 8) : KAt s.heap k p := ⟨(h.pure I rfl).key, hd⟩
/-! ### {e for x in xs if ..} -/
/-! ### set(xs), sorted(set) -/
end
end NSet
set_option maxRecDepth 100000
set_option maxHeartbeats 4000000
/-! DkA: dicts whose keys are nested tuples, in the abstract heap: {}, d[k] = v, d.get(k, x), d[k], k in d. -/
namespace NDict
open PySem PySem.Spec PyProof.Rows L2 NSet
/-- a row: the key, its address, the value -/
abbrev DRow := NestedKey × Addr × V
def RowsRel (L : List DRow) (xs : List (NestedKey × Addr × Value)) : Prop := Paired (fun p x => p.1 = x.1 ∧ p.2.1 = x.2.1 ∧ RelV p.2.2 x.2.2) L xs
/-- the dict at a, its keys left to the abstract heap -/
def DObj (P : Program) (w : World) (h : Heap) (a : Addr) (L : List DRow) : Prop := (a == sysModules) = false ∧ L.length ≤ 100000 ∧ ∃ (xs : List (NestedKey × Addr × Value)) (o : Obj) (es : Array DictEntry) (ep : Nat),
  RowsRel L xs ∧ h.get? a = some o ∧ o.ExactDict ∧ o.data = .dict es ep ∧ es.toList = xs.map (entryOfKey (nestedKind P w)) ∧ (xs.map (·.1)).Nodup
def nkO (P : Program) (w : World) (a : Addr) (L : List DRow) : HO := .ext fun h => DObj P w h a L
/-- its keys stand in the abstract heap -/
def KeysOk (K : PySem.W.Frag) (H : Hp) (L : List DRow) : Prop := ∀ r ∈ L, VKey K H (.ref r.2.1) r.1 ∧ r.1.depth ≤ 8
/-- the value at a key -/
def valN (L : List DRow) (k : NestedKey) : Option V := (L.find? fun r => decide (r.1 = k)).map (·.2.2)
def putN (L : List DRow) (k : NestedKey) (p : Addr) (v : V) : List DRow := if (L.any fun r => decide (r.1 = k)) = true then L.map (fun r => if r.1 = k then (r.1, r.2.1, v) else r) else L ++ [(k, p, v)]
section
variable {X : Cx} {pins : List (Addr × Obj)} {σ : L2.St} {H : Hp} {s : Shared}
/-! ### {} -/
/-! ### d[k] = v -/
/-! ### d.get(k, x) -/
end
end NDict
set_option maxRecDepth 100000
set_option maxHeartbeats 4000000
/-! MirA: the mirror's values, how the abstract heap bears them, the environment, the step. -/
namespace MR
open PySem L2
mutual
def kOf : IV → Option NestedKey
  | .int i => some (.num i)
  | .str s => some (.text s)
  | .tup xs => (kOfs xs).map .tup
  | _ => none
def kOfs : List IV → Option (List NestedKey)
  | [] => some []
  | d :: ds => match kOf d, kOfs ds with
    | some k, some ks => some (k :: ks)
    | _, _ => none
end
abbrev AP1 := Addr → Prop
/-- lists and tuples have at most so many items -/
def big : Nat := 1000000
theorem big_line : big ≤ sizeLine := by rw [sizeLine_eq]; decide
/-- a frame whose lambdas are kept: its cells, its table, what these lambdas are -/
structure Frm where
  cells : List (Str × Addr)
  tn : Nat
  lm : Nat → Option (Arguments × Expr × Scope)
/-- what a def's walk is told: the written part, the classes' addresses, the errors' classes -/
structure Gx where
  K : Frag
  cls : String → Addr
  ecl : String → Value
  /-- the tables of code objects of the defs that make lambdas, and the names of these lambdas -/
  tb : Nat → Addr × Str := fun _ => (0, "")
  /-- the frame whose lambdas are kept in lists -/
  cl : Option Frm := none
  pw : Option (Program × World) := none
  sys : Bool := false
/-- a list that nobody changes: the script, or the module's own -/
def StL (K : Frag) (H : Hp) (p : Addr) (vs : List V) : Prop :=
  (∃ o, H p = some (.frz o (.lst vs))) ∨ ∃ (o : Obj) (its : Array Value) (n : Nat), K.lookup p = some o ∧ o.cls = .type "list" ∧ o.dict = none ∧ o.data = .seq its n ∧ its.size ≤ sizeLine ∧ Vals vs its.toList
/-- a caught error of the class cls, its dict at d, at a -/
def ErrO (a : Addr) (cls : Value) (d : Option Addr) : HO := .ext fun h => ∃ (oe : Obj) (vs : Array Value), h.get? a = some oe ∧ Zc cls d oe ∧ oe.data = .fields vs
/-- a lambda that is kept -/
def LamI : HO := .ext fun _ => True
mutual
inductive Fz (G : Gx) (F : AP1) (H : Hp) : V → IV → Prop
  | non : Fz G F H .non .non
  | bl (b : Bool) : Fz G F H (.bl b) (.bl b)
  | int (i : Int) : Fz G F H (.int i) (.int i)
  | str (s : Str) : Fz G F H (.str s) (.str s)
  | ty (n : String) : Fz G F H (.ty n) (.ty n)
  | cl (c : String) : Fz G F H (.ref (G.cls c)) (.cl c)
  | tup {p : Addr} {vs : List V} {ds : List IV} : SqT G.K H p vs → FzA G F H vs ds → vs.length ≤ big → Fz G F H (.ref p) (.tup ds)
  | lst {p : Addr} {vs : List V} {ds : List IV} : F p → H p = some (.lst vs) → FzA G F H vs ds → vs.length ≤ big → Fz G F H (.ref p) (.lst ds)
  | scr {p : Addr} {ns : List Int} : StL G.K H p (ns.map V.int) → ns.length ≤ 63 → Fz G F H (.ref p) (.scr ns)
  | dic {p : Addr} {vs : List (Key × V)} {ds : List (Key × IV)} : F p → H p = some (.dK vs) → FzP G F H vs ds → vs.length ≤ big → Fz G F H (.ref p) (.dic ds)
  | ins {p dx : Addr} {c : String} {vs : List (Str × V)} {ds : List (Str × IV)} : F p → H p = some (.ins (G.cls c) dx vs) → FzP G F H vs ds → Fz G F H (.ref p) (.ins c ds)
  | err0 {p : Addr} {c : String} : F p → H p = some (ErrO p (G.ecl c) none) → Fz G F H (.ref p) (.err c [])
  | errD {p dx : Addr} {c : String} {vs : List (Str × V)} {ds : List (Str × IV)} : F p → H p = some (ErrO p (G.ecl c) (some dx)) → F dx → H dx = some (.xd vs) → FzP G F H vs ds → Fz G F H (.ref p) (.err c ds)
  | lam {p c' : Addr} {i : Nat} {params : Arguments} {body : Expr} {scope : Scope} {cl : Frm} {pm ctv : Value} : cl.lm i = some (params, body, scope) → G.cl = some cl →
      H p = some (.frz (PySem.W.kla_obj "<lambda>" (G.tb cl.tn).2 params body scope (cloFrom cl.cells scope.names []) pm c' ctv) LamI) → F c' → H c' = some (LamX.CodeO c' (G.tb cl.tn).2) → Fz G F H (.ref p) (.lam i)
  | dnk {p : Addr} {o : Obj} {L : List NDict.DRow} {ks xs : List IV} {P : Program} {w : World} : G.pw = some (P, w) → H p = some (.frz o (NDict.nkO P w p L)) → FzN G F H L ks xs → L.length ≤ 1000 → Fz G F H (.ref p) (.dnk ks xs)
inductive FzN (G : Gx) (F : AP1) (H : Hp) : List NDict.DRow → List IV → List IV → Prop
  | nil : FzN G F H [] [] []
  | cons {k : NestedKey} {a : Addr} {v : V} {L : List NDict.DRow} {dk dv : IV} {ks xs : List IV} : kOf dk = some k → k.depth ≤ 8 → Fz G F H (.ref a) dk → Fz G F H v dv → FzN G F H L ks xs → FzN G F H ((k, a, v) :: L) (dk :: ks) (dv :: xs)
inductive FzA (G : Gx) (F : AP1) (H : Hp) : List V → List IV → Prop
  | nil : FzA G F H [] []
  | cons {v : V} {vs : List V} {d : IV} {ds : List IV} : Fz G F H v d → FzA G F H vs ds → FzA G F H (v :: vs) (d :: ds)
inductive FzP (G : Gx) (F : AP1) (H : Hp) : {κ : Type} → List (κ × V) → List (κ × IV) → Prop
  | nil {κ : Type} : FzP G F H ([] : List (κ × V)) []
  | cons {κ : Type} {k : κ} {v : V} {vs : List (κ × V)} {d : IV} {ds : List (κ × IV)} : Fz G F H v d → FzP G F H vs ds → FzP G F H ((k, v) :: vs) ((k, d) :: ds)
end
/-- what is never changed -/
def Imm : HO → Prop
  | .tup _ => True
  | .frz _ _ => True
  | _ => False
/-- enough for what is frozen -/
structure Stq (H : Hp) (F : AP1) (H' : Hp) (F' : AP1) : Prop where
  fkeep : ∀ a o, H a = some o → F a → H' a = some o
  imm : ∀ a o, H a = some o → Imm o → H' a = some o
  frm : ∀ a, F a → F' a
theorem rd_imm {H H' : Hp} {a : Addr} {u : HO} (hi : ∀ a o, H a = some o → Imm o → H' a = some o) (hu : Imm u) (h : Rd H a u) : Rd H' a u := by
  rcases h with h | ⟨o, h⟩
  · exact Or.inl (hi _ _ h hu)
  · exact Or.inr ⟨o, hi _ _ h trivial⟩
theorem sqT_imm {K : Frag} {H H' : Hp} {a : Addr} {vs : List V} (hi : ∀ a o, H a = some o → Imm o → H' a = some o) (h : SqT K H a vs) : SqT K H' a vs := by
  rcases h with h | h
  · exact Or.inl (rd_imm hi trivial h)
  · exact Or.inr h
theorem stL_imm {K : Frag} {H H' : Hp} {a : Addr} {vs : List V} (hi : ∀ a o, H a = some o → Imm o → H' a = some o) (h : StL K H a vs) : StL K H' a vs := by
  rcases h with ⟨o, h⟩ | h
  · exact Or.inl ⟨o, hi _ _ h trivial⟩
  · exact Or.inr h
theorem stL_sq {K : Frag} {H : Hp} {a : Addr} {vs : List V} (h : StL K H a vs) : SqL K H a vs := by
  rcases h with h | h
  · exact Or.inl (Or.inr h)
  · exact Or.inr h
mutual
theorem Fz.mono {G : Gx} {F F' : AP1} {H H' : Hp} (q : Stq H F H' F') : ∀ {v : V} {d : IV}, Fz G F H v d → Fz G F' H' v d
  | _, _, .non => .non
  | _, _, .bl b => .bl b
  | _, _, .int i => .int i
  | _, _, .str s => .str s
  | _, _, .ty n => .ty n
  | _, _, .cl c => .cl c
  | _, _, .tup h a z => .tup (sqT_imm q.imm h) (FzA.mono q a) z
  | _, _, .lst f h a z => .lst (q.frm _ f) (q.fkeep _ _ h f) (FzA.mono q a) z
  | _, _, .scr h z => .scr (stL_imm q.imm h) z
  | _, _, .dic f h a z => .dic (q.frm _ f) (q.fkeep _ _ h f) (FzP.mono q a) z
  | _, _, .ins f h a => .ins (q.frm _ f) (q.fkeep _ _ h f) (FzP.mono q a)
  | _, _, .err0 f h => .err0 (q.frm _ f) (q.fkeep _ _ h f)
  | _, _, .errD f h f2 h2 a => .errD (q.frm _ f) (q.fkeep _ _ h f) (q.frm _ f2) (q.fkeep _ _ h2 f2) (FzP.mono q a)
  | _, _, .lam g e h f hc => .lam g e (q.imm _ _ h trivial) (q.frm _ f) (q.fkeep _ _ hc f)
  | _, _, .dnk g h a z => .dnk g (q.imm _ _ h trivial) (FzN.mono q a) z
theorem FzN.mono {G : Gx} {F F' : AP1} {H H' : Hp} (q : Stq H F H' F') : ∀ {L : List NDict.DRow} {ks xs : List IV}, FzN G F H L ks xs → FzN G F' H' L ks xs
  | _, _, _, .nil => .nil
  | _, _, _, .cons e z k v t => .cons e z (Fz.mono q k) (Fz.mono q v) (FzN.mono q t)
theorem FzA.mono {G : Gx} {F F' : AP1} {H H' : Hp} (q : Stq H F H' F') : ∀ {vs : List V} {ds : List IV}, FzA G F H vs ds → FzA G F' H' vs ds
  | _, _, .nil => .nil
  | _, _, .cons h t => .cons (Fz.mono q h) (FzA.mono q t)
theorem FzP.mono {G : Gx} {F F' : AP1} {H H' : Hp} (q : Stq H F H' F') : ∀ {κ : Type} {vs : List (κ × V)} {ds : List (κ × IV)}, FzP G F H vs ds → FzP G F' H' vs ds
  | _, _, _, .nil => .nil
  | _, _, _, .cons h t => .cons (Fz.mono q h) (FzP.mono q t)
end
/-- an entry of a dict whose keys are pairs -/
def prE (q : Int × Int) : List Key × V := ([.inl q.1, .inl q.2], .bl true)
/-- dicts that are own, with their addresses -/
inductive DsAt (G : Gx) (F : AP1) (H : Hp) : List Addr → List IV → Prop
  | nil : DsAt G F H [] []
  | cons {p : Addr} {ps : List Addr} {vs : List (Key × V)} {ks : List (Key × IV)} {ds : List IV} : H p = some (.dK vs) → FzP G F H vs ks → vs.length ≤ big → DsAt G F H ps ds → DsAt G F H (p :: ps) (.dic ks :: ds)
theorem DsAt.mono {G : Gx} {F F' : AP1} {H H' : Hp} (s : Stq H F H' F') : ∀ {ps : List Addr} {ds : List IV}, DsAt G F H ps ds → (∀ p ∈ ps, ∀ o, H p = some o → H' p = some o) → DsAt G F' H' ps ds
  | _, _, .nil, _ => .nil
  | _, _, .cons h a z t, k => .cons (k _ List.mem_cons_self _ h) (a.mono s) z (t.mono s fun p hp => k p (List.mem_cons_of_mem _ hp))
theorem DsAt.fz {G : Gx} {F : AP1} {H : Hp} : ∀ {ps : List Addr} {ds : List IV}, DsAt G F H ps ds → (∀ p ∈ ps, F p) → FzA G F H (ps.map V.ref) ds
  | _, _, .nil, _ => .nil
  | _, _, .cons h a z t, f => .cons (.dic (f _ List.mem_cons_self) h a z) (t.fz fun p hp => f p (List.mem_cons_of_mem _ hp))
/-- lists that are own, with their addresses -/
inductive LsAt (G : Gx) (F : AP1) (H : Hp) : List Addr → List IV → Prop
  | nil : LsAt G F H [] []
  | cons {p : Addr} {ps : List Addr} {vs : List V} {xs ds : List IV} : H p = some (.lst vs) → FzA G F H vs xs → vs.length ≤ big → LsAt G F H ps ds → LsAt G F H (p :: ps) (.lst xs :: ds)
theorem LsAt.mono {G : Gx} {F F' : AP1} {H H' : Hp} (s : Stq H F H' F') : ∀ {ps : List Addr} {ds : List IV}, LsAt G F H ps ds → (∀ p ∈ ps, ∀ o, H p = some o → H' p = some o) → LsAt G F' H' ps ds
  | _, _, .nil, _ => .nil
  | _, _, .cons h a z t, k => .cons (k _ List.mem_cons_self _ h) (a.mono s) z (t.mono s fun p hp => k p (List.mem_cons_of_mem _ hp))
/-- fields that are own lists, or own lists of own lists; the addresses of these -/
inductive OwP (G : Gx) (F : AP1) (H : Hp) : List Addr → List (Str × V) → List (Str × IV) → Prop
  | nil : OwP G F H [] [] []
  | flat {l : Addr} {us : List V} {xs : List IV} {ps : List Addr} {vs : List (Str × V)} {ds : List (Str × IV)} {f : Str} : H l = some (.lst us) → FzA G F H us xs → us.length ≤ big → OwP G F H ps vs ds → OwP G F H (l :: ps) ((f, .ref l) :: vs) ((f, .lst xs) :: ds)
  | nest {m : Addr} {rs : List Addr} {ys : List IV} {ps : List Addr} {vs : List (Str × V)} {ds : List (Str × IV)} {f : Str} : H m = some (.lst (rs.map V.ref)) → LsAt G F H rs ys → rs.length ≤ big → OwP G F H ps vs ds → OwP G F H (m :: (rs ++ ps)) ((f, .ref m) :: vs) ((f, .lds ys) :: ds)
theorem OwP.mono {G : Gx} {F F' : AP1} {H H' : Hp} (s : Stq H F H' F') : ∀ {ps : List Addr} {vs : List (Str × V)} {ds : List (Str × IV)}, OwP G F H ps vs ds → (∀ p ∈ ps, ∀ o, H p = some o → H' p = some o) → OwP G F' H' ps vs ds
  | _, _, _, .nil, _ => .nil
  | _, _, _, .flat h a z t, k => .flat (k _ List.mem_cons_self _ h) (a.mono s) z (t.mono s fun p hp => k p (List.mem_cons_of_mem _ hp))
  | _, _, _, .nest h a z t, k => .nest (k _ List.mem_cons_self _ h) (a.mono s fun p hp => k p (List.mem_cons_of_mem _ (List.mem_append_left _ hp))) z (t.mono s fun p hp => k p (List.mem_cons_of_mem _ (List.mem_append_right _ hp)))
/-- a value that one slot alone holds; q: the objects that are its own -/
inductive Own (G : Gx) (F : AP1) (H : Hp) : V → IV → AP1 → Prop
  | lst {p : Addr} {vs : List V} {ds : List IV} {q : AP1} : H p = some (.lst vs) → FzA G F H vs ds → vs.length ≤ big → (∀ a, q a ↔ a = p) → Own G F H (.ref p) (.lst ds) q
  | dic {p : Addr} {vs : List (Key × V)} {ds : List (Key × IV)} {q : AP1} : H p = some (.dK vs) → FzP G F H vs ds → vs.length ≤ big → (∀ a, q a ↔ a = p) → Own G F H (.ref p) (.dic ds) q
  | ins {p dx : Addr} {c : String} {vs : List (Str × V)} {ds : List (Str × IV)} {q : AP1} : H p = some (.ins (G.cls c) dx vs) → FzP G F H vs ds → (∀ a, q a ↔ a = p) → Own G F H (.ref p) (.ins c ds) q
  | drw {p l c : Addr} {lg cl : List Int} {rest turn : Int} {q : AP1} :
      H p = some (.dK [(.inr "large", .ref l), (.inr "rest", .int rest), (.inr "cells", .ref c), (.inr "turn", .int turn)]) → H l = some (.lst (lg.map V.int)) → F c → H c = some (.lst (cl.map V.int)) →
      p ≠ l → lg.length ≤ big → cl.length ≤ big → (∀ a, q a ↔ a = p ∨ a = l) → Own G F H (.ref p) (.drw lg cl rest turn) q
  | prs {p : Addr} {ps : List (Int × Int)} {q : AP1} : H p = some (.dT (ps.map prE)) → ps.length ≤ 1000 → (∀ a, q a ↔ a = p) → Own G F H (.ref p) (.prs ps) q
  | lds {p : Addr} {ps : List Addr} {ds : List IV} {q : AP1} : H p = some (.lst (ps.map V.ref)) → DsAt G F H ps ds → ps.Nodup → p ∉ ps → ps.length ≤ big → (∀ a, q a ↔ a = p ∨ a ∈ ps) → Own G F H (.ref p) (.lds ds) q
  | dnk {p : Addr} {L : List NDict.DRow} {ks xs : List IV} {P : Program} {w : World} {q : AP1} : G.pw = some (P, w) → H p = some (NDict.nkO P w p L) → FzN G F H L ks xs → L.length ≤ 1000 → (∀ a, q a ↔ a = p) → Own G F H (.ref p) (.dnk ks xs) q
  | tpl {p l : Addr} {vs us : List V} {ds xs : List IV} {q : AP1} : SqT G.K H p (vs ++ [.ref l]) → FzA G F H vs ds → vs.length + 1 ≤ big → H l = some (.lst us) → FzA G F H us xs → us.length ≤ big → (∀ a, q a ↔ a = l) → Own G F H (.ref p) (.tpl ds xs) q
  | tab {v : V} {n : Nat} {ps : Array Value} {q : AP1} : H (G.tb n).1 = some (.tbl ps) → (G.sys = true → ∃ o u, H sysModules = some (.frz o u)) → TriplesOk ps.toList → (∀ (pos : Pos) (cv : Value), codeAmong pos ps.toList = some cv → ∃ c, cv = .ref c ∧ F c ∧ H c = some (LamX.CodeO c (G.tb n).2)) → (∀ a, q a ↔ a = (G.tb n).1) → Own G F H v (.tab n) q
  | sht {p dx : Addr} {c : String} {vs : List (Str × V)} {ds : List (Str × IV)} {ps : List Addr} {q : AP1} : H p = some (.ins (G.cls c) dx vs) → OwP G F H ps vs ds → (p :: ps).Nodup → (∀ a, q a ↔ a ∈ p :: ps) → Own G F H (.ref p) (.sht c ds) q
/-- what an own value leans on stays: its own objects, the frozen ones -/
theorem Own.mono {G : Gx} {F F' : AP1} {H H' : Hp} {v : V} {d : IV} {q : AP1} (s : Stq H F H' F') (k : ∀ a o, H a = some o → q a → H' a = some o) (h : Own G F H v d q) : Own G F' H' v d q := by
  cases h with
  | lst h a z e => exact .lst (k _ _ h ((e _).mpr rfl)) (a.mono s) z e
  | dic h a z e => exact .dic (k _ _ h ((e _).mpr rfl)) (a.mono s) z e
  | ins h a e => exact .ins (k _ _ h ((e _).mpr rfl)) (a.mono s) e
  | drw h1 h2 f h3 n1 z1 z2 e => exact .drw (k _ _ h1 ((e _).mpr (Or.inl rfl))) (k _ _ h2 ((e _).mpr (Or.inr rfl))) (s.frm _ f) (s.fkeep _ _ h3 f) n1 z1 z2 e
  | prs h z e => exact .prs (k _ _ h ((e _).mpr rfl)) z e
  | lds h a nd np z e => exact .lds (k _ _ h ((e _).mpr (Or.inl rfl))) (a.mono s fun p hp o ho => k _ _ ho ((e _).mpr (Or.inr hp))) nd np z e
  | dnk g h a z e => exact .dnk g (k _ _ h ((e _).mpr rfl)) (a.mono s) z e
  | tpl h a z hl b y e => exact .tpl (sqT_imm s.imm h) (a.mono s) z (k _ _ hl ((e _).mpr rfl)) (b.mono s) y e
  | tab h y t c e => exact .tab (k _ _ h ((e _).mpr rfl)) (fun b => let ⟨o, u, z⟩ := y b; ⟨o, u, s.imm _ _ z trivial⟩) t (fun pos cv hc => let ⟨x, h1, h2, h3⟩ := c pos cv hc; ⟨x, h1, s.frm _ h2, s.fkeep _ _ h3 h2⟩) e
  | sht h a nd e => exact .sht (k _ _ h ((e _).mpr List.mem_cons_self)) (a.mono s fun p hp o ho => k _ _ ho ((e _).mpr (List.mem_cons_of_mem _ hp))) nd e
/-- can be frozen -/
def canFz : IV → Bool
  | .drw _ _ _ _ => false
  | .prs _ => false
  | .lds _ => false
  | .tab _ => false
  | .dnk _ _ => false
  | .tpl _ _ => false
  | .sht _ _ => false
  | _ => true
theorem Own.freeze {G : Gx} {F : AP1} {H : Hp} {v : V} {d : IV} {q : AP1} (h : Own G F H v d q) (hc : canFz d = true) : Fz G (fun a => F a ∨ q a) H v d := by
  have s : Stq H F H (fun a => F a ∨ q a) := ⟨fun _ _ e _ => e, fun _ _ e _ => e, fun _ f => Or.inl f⟩
  cases h with
  | lst h a z e => exact .lst (Or.inr ((e _).mpr rfl)) h (a.mono s) z
  | dic h a z e => exact .dic (Or.inr ((e _).mpr rfl)) h (a.mono s) z
  | ins h a e => exact .ins (Or.inr ((e _).mpr rfl)) h (a.mono s)
  | drw => cases hc
  | prs => cases hc
  | lds => cases hc
  | dnk => cases hc
  | tpl => cases hc
  | tab => cases hc
  | sht => cases hc
/-- a slot of the mirror: not known, a frozen value, an own one -/
inductive Sl where
  | un | fz (d : IV) | ow (d : IV)
abbrev Env := List Sl
abbrev FPt := Nat → AP1
/-- all that is own -/
def un (fp : FPt) : AP1 := fun a => ∃ i, fp i a
structure EnvR (G : Gx) (F : AP1) (H : Hp) (σ : L2.St) (ρ : Env) (fp : FPt) : Prop where
  fz : ∀ (i : Nat) d, ρ[i]? = some (.fz d) → ∃ v, σ[i]? = some (some v) ∧ Fz G F H v d
  ow : ∀ (i : Nat) d, ρ[i]? = some (.ow d) → ∃ v, σ[i]? = some (some v) ∧ Own G F H v d (fp i)
  dis : ∀ i j a, fp i a → fp j a → i = j
  nf : ∀ i a, fp i a → ¬ F a
  tr : ∀ i a, fp i a → H a ≠ none
  ni : ∀ i a o, fp i a → H a = some o → ¬ Imm o
  ft : ∀ a, F a → H a ≠ none
  len : ρ.length = σ.length
/-- the step: what is not own stays, what is frozen stays frozen -/
structure Stp (H : Hp) (F : AP1) (P : AP1) (H' : Hp) (F' : AP1) (P' : AP1) : Prop where
  keep : ∀ a o, H a = some o → ¬ P a → H' a = some o
  frm : ∀ a, F a → F' a
  fnew : ∀ a, F' a → F a ∨ P a ∨ H a = none
  pnew : ∀ a, P' a → P a ∨ H a = none
  dom : ∀ a, H' a = none → H a = none
theorem Stp.refl (H : Hp) (F P : AP1) : Stp H F P H F P := ⟨fun _ _ h _ => h, fun _ h => h, fun _ h => Or.inl h, fun _ h => Or.inl h, fun _ h => h⟩
theorem Stp.trans {H H1 H2 : Hp} {F F1 F2 P P1 P2 : AP1} (a : Stp H F P H1 F1 P1) (b : Stp H1 F1 P1 H2 F2 P2) : Stp H F P H2 F2 P2 where
  keep := fun x o h n => b.keep x o (a.keep x o h n) fun p => by
    rcases a.pnew x p with q | q
    · exact n q
    · rw [h] at q; cases q
  frm := fun x h => b.frm x (a.frm x h)
  fnew := fun x h => by
    rcases b.fnew x h with h | h | h
    · exact a.fnew x h
    · rcases a.pnew x h with q | q
      · exact Or.inr (Or.inl q)
      · exact Or.inr (Or.inr q)
    · exact Or.inr (Or.inr (a.dom x h))
  pnew := fun x h => by
    rcases b.pnew x h with h | h
    · exact a.pnew x h
    · exact Or.inr (a.dom x h)
  dom := fun x h => a.dom x (b.dom x h)
/-- behind a step: what was frozen stays -/
theorem EnvR.stq {G : Gx} {F F' : AP1} {H H' : Hp} {σ : L2.St} {ρ : Env} {fp : FPt} {P' : AP1} (e : EnvR G F H σ ρ fp) (s : Stp H F (un fp) H' F' P') : Stq H F H' F' :=
  ⟨fun a o h f => s.keep a o h fun ⟨i, p⟩ => e.nf i a p f, fun a o h m => s.keep a o h fun ⟨i, p⟩ => e.ni i a o p h m, s.frm⟩
/-- pure growth: all that is tracked stays -/
structure Fr (H : Hp) (F : AP1) (H' : Hp) (F' : AP1) : Prop where
  keep : ∀ a o, H a = some o → H' a = some o
  frm : ∀ a, F a → F' a
  fnew : ∀ a, F' a → F a ∨ (H a = none ∧ H' a ≠ none)
theorem Fr.refl (H : Hp) (F : AP1) : Fr H F H F := ⟨fun _ _ h => h, fun _ h => h, fun _ h => Or.inl h⟩
theorem Fr.trans {H H1 H2 : Hp} {F F1 F2 : AP1} (a : Fr H F H1 F1) (b : Fr H1 F1 H2 F2) : Fr H F H2 F2 :=
  ⟨fun x o h => b.keep x o (a.keep x o h), fun x h => b.frm x (a.frm x h), fun x h => by
    rcases b.fnew x h with h | ⟨h, h'⟩
    · rcases a.fnew x h with g | ⟨g, g'⟩
      · exact Or.inl g
      · refine Or.inr ⟨g, ?_⟩
        cases e : H1 x with
        | none => exact (g' e).elim
        | some o => rw [b.keep x o e]; exact fun z => by cases z
    · refine Or.inr ⟨?_, h'⟩
      cases e : H x with
      | none => rfl
      | some o => rw [a.keep x o e] at h; cases h⟩
theorem Fr.dom {H H' : Hp} {F F' : AP1} (a : Fr H F H' F') : ∀ x, H' x = none → H x = none := fun x h => by
  cases e : H x with
  | none => rfl
  | some o => rw [a.keep x o e] at h; cases h
theorem Fr.stp {H H' : Hp} {F F' : AP1} (a : Fr H F H' F') (P : AP1) : Stp H F P H' F' P :=
  ⟨fun x o h _ => a.keep x o h, a.frm, fun x h => (a.fnew x h).elim Or.inl fun q => Or.inr (Or.inr q.1), fun _ h => Or.inl h, a.dom⟩
theorem Fr.stq {H H' : Hp} {F F' : AP1} (a : Fr H F H' F') : Stq H F H' F' := ⟨fun x o h _ => a.keep x o h, fun x o h _ => a.keep x o h, a.frm⟩
theorem EnvR.fr {G : Gx} {F F' : AP1} {H H' : Hp} {σ : L2.St} {ρ : Env} {fp : FPt} (e : EnvR G F H σ ρ fp) (a : Fr H F H' F') : EnvR G F' H' σ ρ fp where
  fz := fun i d h => let ⟨v, e1, e2⟩ := e.fz i d h; ⟨v, e1, e2.mono a.stq⟩
  ow := fun i d h => let ⟨v, e1, e2⟩ := e.ow i d h; ⟨v, e1, e2.mono a.stq fun x o g _ => a.keep x o g⟩
  dis := e.dis
  nf := fun i x p f => by
    rcases a.fnew x f with g | ⟨g, _⟩
    · exact e.nf i x p g
    · exact e.tr i x p g
  tr := fun i x p h => e.tr i x p (a.dom x h)
  ni := fun i x o p h m => by
    cases q : H x with
    | none => exact e.tr i x p q
    | some u =>
      rw [a.keep x u q] at h
      exact e.ni i x o p (q.trans h) m
  ft := fun x f h => by
    rcases a.fnew x f with g | ⟨_, g⟩
    · exact e.ft x g (a.dom x h)
    · exact g h
  len := e.len
/-- a new object, frozen or not -/
theorem Fr.new {H : Hp} {F : AP1} {p : Addr} {o : HO} (h : H p = none) : Fr H F (upd H p o) F :=
  ⟨fun a u e => by rw [upd_ne (ne_of_none e h)]; exact e, fun _ f => f, fun _ f => Or.inl f⟩
theorem Fr.newF {H : Hp} {F : AP1} {p : Addr} {o : HO} (h : H p = none) : Fr H F (upd H p o) (fun a => F a ∨ a = p) :=
  ⟨fun a u e => by rw [upd_ne (ne_of_none e h)]; exact e, fun _ f => Or.inl f, fun a f => f.elim Or.inl fun z => Or.inr ⟨by rw [z]; exact h, by rw [z, upd_same]; exact fun q => by cases q⟩⟩
end MR
set_option maxRecDepth 100000
set_option maxHeartbeats 4000000
/-! MirB: outcomes; readings of mirrors; expressions. -/
namespace MR
open PySem L2
inductive Rz (α : Type) where
  | ok (a : α) (ρ : Env) | ex (c : String) (p : List (Str × IV)) (ρ : Env) | no
def Rz.bind {α β : Type} (r : Rz α) (k : α → Env → Rz β) : Rz β := match r with
  | .ok a ρ => k a ρ
  | .ex c p ρ => .ex c p ρ
  | .no => .no
def ofO {α : Type} (o : Option α) (ρ : Env) : Rz α := match o with
  | some a => .ok a ρ
  | none => .no
abbrev E := Env → Rz IV
abbrev EB := Env → Rz Bool
abbrev EA := Env → Rz (List IV)
/-- the own dict of an error, by its fields -/
def ExD (G : Gx) (F : AP1) (H : Hp) (d : Option Addr) (p : List (Str × IV)) : Prop := (p = [] ∧ d = none) ∨ ∃ dd vs, d = some dd ∧ F dd ∧ H dd = some (.xd vs) ∧ FzP G F H vs p
/-- what an outcome asks; R: how a result is borne -/
def Oc {α β : Type} (R : Gx → L2.St → AP1 → Hp → β → α → Prop) (G : Gx) (W : WX) (σ : L2.St) (H : Hp) (F : AP1) (fp : FPt) (r : Rz α) (Q : β → Hp → Prop) : Prop := match r with
  | .ok d ρ' => ∀ v H' F' fp', Stp H F (un fp) H' F' (un fp') → EnvR G F' H' σ ρ' fp' → R G σ F' H' v d → Q v H'
  | .ex c p ρ' => ∀ d H' F' fp', Stp H F (un fp) H' F' (un fp') → EnvR G F' H' σ ρ' fp' → ExD G F' H' d p → W (G.ecl c) d σ H'
  | .no => False
def tOf {α β : Type} (R : Gx → L2.St → AP1 → Hp → β → α → Prop) (G : Gx) (W : WX) (m : Env → Rz α) : L2.St → Hp → (β → Hp → Prop) → Prop := fun σ H Q =>
  ∃ ρ F fp, EnvR G F H σ ρ fp ∧ Oc R G W σ H F fp (m ρ) Q
def RV (G : Gx) (_ : L2.St) (F : AP1) (H : Hp) (v : V) (d : IV) : Prop := Fz G F H v d
def RA (G : Gx) (_ : L2.St) (F : AP1) (H : Hp) (v : List V) (d : List IV) : Prop := FzA G F H v d
def RB (_ : Gx) (_ : L2.St) (_ : AP1) (_ : Hp) (v : Bool) (d : Bool) : Prop := v = d
abbrev teOf (G : Gx) (W : WX) (m : E) : TE := tOf RV G W m
abbrev taOf (G : Gx) (W : WX) (m : EA) : TA := tOf RA G W m
abbrev ttOf (G : Gx) (W : WX) (m : EB) : TT := tOf RB G W m
section
variable {α β γ δ : Type} {R : Gx → L2.St → AP1 → Hp → β → α → Prop} {R2 : Gx → L2.St → AP1 → Hp → δ → γ → Prop} {G : Gx} {W : WX} {σ : L2.St} {H H1 : Hp} {F F1 : AP1} {fp fp1 : FPt} {ρ : Env}
theorem Oc.step {r : Rz α} {Q : β → Hp → Prop} (s : Stp H F (un fp) H1 F1 (un fp1)) (h : Oc R G W σ H F fp r Q) : Oc R G W σ H1 F1 fp1 r Q := by
  cases r with
  | ok d ρ' => exact fun v H' F' fp' t e r => h v H' F' fp' (s.trans t) e r
  | ex c p ρ' => exact fun d H' F' fp' t e r => h d H' F' fp' (s.trans t) e r
  | no => exact h
theorem oc_bind {m : Env → Rz α} {k : α → Env → Rz γ} {Q : δ → Hp → Prop} {P : β → Hp → Prop} (e : EnvR G F H σ ρ fp) (h : Oc R2 G W σ H F fp ((m ρ).bind k) Q)
    (hk : ∀ x d ρ1 H1 F1 fp1, Stp H F (un fp) H1 F1 (un fp1) → EnvR G F1 H1 σ ρ1 fp1 → R G σ F1 H1 x d → Oc R2 G W σ H1 F1 fp1 (k d ρ1) Q → P x H1) : tOf R G W m σ H P := by
  refine ⟨ρ, F, fp, e, ?_⟩
  cases hm : m ρ with
  | ok d ρ1 =>
    rw [hm] at h
    exact fun v H' F' fp' t e' r => hk v d ρ1 H' F' fp' t e' r (Oc.step t h)
  | ex c p ρ' => rw [hm] at h; exact h
  | no => rw [hm] at h; exact h
/-- at the end: a value made without a change to what is tracked -/
theorem oc_ok {d : IV} {Q : VK} (h : Oc RV G W σ H F fp (.ok d ρ) Q) (e : EnvR G F H σ ρ fp) {v : V} {H' : Hp} {F' : AP1} (f : Fr H F H' F') (r : Fz G F' H' v d) : Q v H' :=
  h v H' F' fp (f.stp _) (e.fr f) r
theorem oc_okR {d : α} {Q : β → Hp → Prop} (h : Oc R G W σ H F fp (.ok d ρ) Q) (e : EnvR G F H σ ρ fp) {v : β} (r : R G σ F H v d) : Q v H :=
  h v H F fp (Stp.refl _ _ _) e r
end
theorem PE.imp {X : Cx} {e : Expr} {t t' : TE} (h : PE X e t) (q : ∀ σ H Q, t' σ H Q → t σ H Q) : PE X e t' := ⟨fun pins s σ H Q I w => h.run pins s σ H Q I (q _ _ _ w)⟩
theorem PT.imp {X : Cx} {e : Expr} {t t' : TT} (h : PT X e t) (q : ∀ σ H Q, t' σ H Q → t σ H Q) : PT X e t' := ⟨fun pins s σ H Q I w => h.run pins s σ H Q I (q _ _ _ w)⟩
theorem PW.imp {X : Cx} {e : Expr} {t t' : TT} (h : PW X e t) (q : ∀ σ H Q, t' σ H Q → t σ H Q) : PW X e t' := ⟨fun wh pins s σ H Q I w => h.run wh pins s σ H Q I (q _ _ _ w)⟩
theorem PA.imp {X : Cx} {es : List Expr} {t t' : TA} (h : PA X es t) (q : ∀ σ H Q, t' σ H Q → t σ H Q) : PA X es t' := ⟨fun pos pins s σ H Q I w => h.run pos pins s σ H Q I (q _ _ _ w)⟩
/-- what a context is to be for a mirror -/
structure Ok (X : Cx) (G : Gx) (W : WX) : Prop where
  K : X.K = G.K
  calm : X.calm = true
  tk : Takes X W
  hu : X.A.units + 80 < cLine
  pw : ∀ P w, G.pw = some (P, w) → X.prog = P ∧ X.w = w
section
variable {X : Cx} {G : Gx} {W : WX}
/-! ### names, constants -/
def iVar (i : Nat) : E := fun ρ => match ρ[i]? with
  | some (.fz d) => .ok d ρ
  | _ => .no
theorem q_var {i : Nat} : ∀ σ H Q, teOf G W (iVar i) σ H Q → tVar i σ H Q := by
  rintro σ H Q ⟨ρ, F, fp, e, h⟩
  unfold iVar at h
  split at h
  · rename_i d hd
    obtain ⟨v, e1, e2⟩ := e.fz i d hd
    exact ⟨v, e1, oc_ok h e (Fr.refl _ _) e2⟩
  · exact h.elim
theorem m_var (i : Nat) {x : Str} {pos : Pos} (hN : X.N[i]? = some x := by rfl) (hv : Vis X.env.scope x := by first | exact Or.inl rfl | exact Or.inr (Or.inl rfl) | exact Or.inr (Or.inr rfl)) (hd : (x == ("__debug__" : Str)) = false := by decide)
    (hcd : (x == ("__classdict__" : Str)) = false := by decide) : PE X (.Name x pos) (teOf G W (iVar i)) := PE.imp (pe_var hN hv hd hcd) q_var
def iC (d : IV) : E := fun ρ => .ok d ρ
theorem q_c {v : V} {d : IV} (r : ∀ F H, Fz G F H v d) : ∀ σ H Q, teOf G W (iC d) σ H Q → tC v σ H Q := by
  rintro σ H Q ⟨ρ, F, fp, e, h⟩
  exact oc_ok h e (Fr.refl _ _) (r F H)
theorem m_int {i j pos} : PE X (.Constant (.int i) j pos) (teOf G W (iC (.int i))) := PE.imp pe_int (q_c fun _ _ => .int _)
theorem m_bl {b j pos} : PE X (.Constant (.bool b) j pos) (teOf G W (iC (.bl b))) := PE.imp pe_bl (q_c fun _ _ => .bl _)
theorem m_non {j pos} : PE X (.Constant .none j pos) (teOf G W (iC .non)) := PE.imp pe_non (q_c fun _ _ => .non)
theorem m_str {x j pos} : PE X (.Constant (.str x) j pos) (teOf G W (iC (.str x))) := PE.imp pe_str (q_c fun _ _ => .str _)
/-! ### operators -/
/-- an operator's rule answers as f -/
def OpF (G : Gx) (r : R2) (f : IV → IV → Option IV) : Prop := ∀ F H x y dx dy d (Q : VK), Fz G F H x dx → Fz G F H y dy → f dx dy = some d →
  (∀ v H' F', Fr H F H' F' → Fz G F' H' v d → Q v H') → r x y H Q
def iBin (f : IV → IV → Option IV) (A B : E) : E := fun ρ => (A ρ).bind fun x ρ1 => (B ρ1).bind fun y ρ2 => ofO (f x y) ρ2
theorem q_bin {r : R2} {f : IV → IV → Option IV} {A B : E} (hr : OpF G r f) : ∀ σ H Q, teOf G W (iBin f A B) σ H Q → tOp r (teOf G W A) (teOf G W B) σ H Q := by
  rintro σ H Q ⟨ρ, F, fp, e, h⟩
  refine oc_bind e h fun x dx ρ1 H1 F1 fp1 s1 e1 r1 h1 => ?_
  refine oc_bind e1 h1 fun y dy ρ2 H2 F2 fp2 s2 e2 r2 h2 => ?_
  have r1' : Fz G F2 H2 x dx := Fz.mono (e1.stq s2) r1
  cases hf : f dx dy with
  | none => rw [hf] at h2; exact h2.elim
  | some d =>
    rw [hf] at h2
    exact hr F2 H2 x y dx dy d Q r1' r2 hf fun v H' F' g z => oc_ok h2 e2 g z
theorem m_bin {op : Operator} {a b : Expr} {A B : E} {r : R2} {f : IV → IV → Option IV} {pos : Pos} (ho : OpR X (binaryOp op) r) (hr : OpF G r f) (ha : PE X a (teOf G W A)) (hb : PE X b (teOf G W B)) : PE X (.BinOp a op b pos) (teOf G W (iBin f A B)) :=
  PE.imp (pe_op ho ha hb) (q_bin hr)
theorem m_cmp {op : CmpOp} {a b : Expr} {A B : E} {r : R2} {f : IV → IV → Option IV} {pos : Pos} (ho : OpR X (compareOp op) r) (hr : OpF G r f) (ha : PE X a (teOf G W A)) (hb : PE X b (teOf G W B))
    (hm : behindInMarks op b = false := by first | exact nobehind _ (by decide) (by decide) | rfl) : PE X (.Compare a [op] [b] pos) (teOf G W (iBin f A B)) :=
  PE.imp (pe_cmpR ho ha hb hm) (q_bin hr)
/-- ints -/
def fI (g : Int → Int → IV) : IV → IV → Option IV
  | .int i, .int j => some (g i j)
  | _, _ => none
def fIc (c : Int → Int → Bool) (g : Int → Int → IV) : IV → IV → Option IV
  | .int i, .int j => if c i j then some (g i j) else none
  | _, _ => none
theorem Fz.int_inv {G : Gx} {F : AP1} {H : Hp} {x : V} {i : Int} (h : Fz G F H x (.int i)) : x = .int i := by cases h; rfl
theorem Fz.bl_inv {G : Gx} {F : AP1} {H : Hp} {x : V} {i : Bool} (h : Fz G F H x (.bl i)) : x = .bl i := by cases h; rfl
theorem Fz.str_inv {G : Gx} {F : AP1} {H : Hp} {x : V} {i : Str} (h : Fz G F H x (.str i)) : x = .str i := by cases h; rfl
theorem of_I {g : Int → Int → V} {g' : Int → Int → IV} (hg : ∀ F H i j, Fz G F H (g i j) (g' i j)) : OpF G (rI0 g) (fI g') := by
  intro F H x y dx dy d Q hx hy hf k
  unfold fI at hf
  split at hf
  · cases hx.int_inv; cases hy.int_inv
    cases hf
    exact ⟨_, _, rfl, rfl, k _ _ _ (Fr.refl _ _) (hg F H _ _)⟩
  · cases hf
theorem of_Ic {C : Int → Int → Prop} {c : Int → Int → Bool} {g : Int → Int → V} {g' : Int → Int → IV} (hc : ∀ i j, c i j = true → C i j) (hg : ∀ F H i j, Fz G F H (g i j) (g' i j)) : OpF G (rI C g) (fIc c g') := by
  intro F H x y dx dy d Q hx hy hf k
  unfold fIc at hf
  split at hf
  · cases hx.int_inv; cases hy.int_inv
    split at hf
    · rename_i hcc
      cases hf
      exact ⟨_, _, rfl, rfl, hc _ _ hcc, k _ _ _ (Fr.refl _ _) (hg F H _ _)⟩
    · cases hf
  · cases hf
def oSub := fI fun i j => .int (i - j)
def mulC (i j : Int) : Bool := (decide (-(2 ^ 64) < i) && decide (i < 2 ^ 64)) || (decide (-(2 ^ 64) < j) && decide (j < 2 ^ 64))
def oMul := fIc mulC fun i j => .int (i * j)
def oDiv := fIc (fun _ j => decide (0 < j) && decide (j < 1073741824)) fun i j => .int (i / j)
def oMod := fIc (fun _ j => decide (0 < j)) fun i j => .int (i % j)
def oPow := fIc (fun i j => decide (0 ≤ j) && decide (j ≤ 1000000) && decide (i.natAbs < 2 ^ 64)) fun i j => .int (i ^ j.toNat)
def oLe := fI fun i j => .bl (decide (i ≤ j))
def oGt := fI fun i j => .bl (decide (j < i))
def oGe := fI fun i j => .bl (decide (j ≤ i))
theorem m_sub {a b : Expr} {A B : E} {pos : Pos} (ha : PE X a (teOf G W A)) (hb : PE X b (teOf G W B)) : PE X (.BinOp a .Sub b pos) (teOf G W (iBin oSub A B)) := m_bin op_sub (of_I fun _ _ _ _ => .int _) ha hb
theorem m_mul {a b : Expr} {A B : E} {pos : Pos} (ha : PE X a (teOf G W A)) (hb : PE X b (teOf G W B)) : PE X (.BinOp a .Mult b pos) (teOf G W (iBin oMul A B)) :=
  m_bin op_mul (of_Ic (fun i j h => by
    simp only [mulC, Bool.or_eq_true, Bool.and_eq_true, decide_eq_true_eq] at h
    exact h) fun _ _ _ _ => .int _) ha hb
theorem m_div {a b : Expr} {A B : E} {pos : Pos} (ha : PE X a (teOf G W A)) (hb : PE X b (teOf G W B)) : PE X (.BinOp a .FloorDiv b pos) (teOf G W (iBin oDiv A B)) :=
  m_bin op_fdiv (of_Ic (fun i j h => by simp only [Bool.and_eq_true, decide_eq_true_eq] at h; exact h) fun _ _ _ _ => .int _) ha hb
theorem m_mod {a b : Expr} {A B : E} {pos : Pos} (ha : PE X a (teOf G W A)) (hb : PE X b (teOf G W B)) : PE X (.BinOp a .Mod b pos) (teOf G W (iBin oMod A B)) :=
  m_bin op_mod (of_Ic (fun i j h => by simp only [decide_eq_true_eq] at h; exact h) fun _ _ _ _ => .int _) ha hb
theorem m_pow {a b : Expr} {A B : E} {pos : Pos} (ha : PE X a (teOf G W A)) (hb : PE X b (teOf G W B)) : PE X (.BinOp a .Pow b pos) (teOf G W (iBin oPow A B)) :=
  m_bin op_pow (of_Ic (fun i j h => by simp only [Bool.and_eq_true, decide_eq_true_eq] at h; exact ⟨h.1.1, h.1.2, h.2⟩) fun _ _ _ _ => .int _) ha hb
theorem m_gt {a b : Expr} {A B : E} {pos : Pos} (ha : PE X a (teOf G W A)) (hb : PE X b (teOf G W B)) : PE X (.Compare a [.Gt] [b] pos) (teOf G W (iBin oGt A B)) := m_cmp op_gt (of_I fun _ _ _ _ => .bl _) ha hb
end
end MR
set_option maxRecDepth 100000
set_option maxHeartbeats 4000000
/-! MirC: truth, tests, and/or, displays, items, built-ins. -/
namespace MR
open PySem L2
section
variable {X : Cx} {G : Gx} {W : WX}
/-! ### truth -/
def tru : IV → Option Bool
  | .non => some false
  | .bl b => some b
  | .int i => some (i != 0)
  | .tup xs => some (!xs.isEmpty)
  | .lst xs => some (!xs.isEmpty)
  | .dic xs => some (!xs.isEmpty)
  | .str s => if s.length ≤ big then some ((s.length : Int) != 0) else none
  | _ => none
theorem FzA.empty {F : AP1} {H : Hp} {vs : List V} {ds : List IV} (h : FzA G F H vs ds) : vs.isEmpty = ds.isEmpty := by cases h <;> rfl
theorem FzP.empty {F : AP1} {H : Hp} {κ : Type} {vs : List (κ × V)} {ds : List (κ × IV)} (h : FzP G F H vs ds) : vs.isEmpty = ds.isEmpty := by cases h <;> rfl
theorem tru_ok {F : AP1} {H : Hp} {x : V} {d : IV} {b : Bool} (h : Fz G F H x d) (ht : tru d = some b) : TruV G.K x H b := by
  cases h with
  | non => cases ht; exact rfl
  | bl b => cases ht; exact rfl
  | int i => cases ht; exact rfl
  | str s =>
    simp only [tru] at ht
    split at ht
    · rename_i hz
      cases ht
      exact ⟨Nat.le_trans hz big_line, rfl⟩
    · cases ht
  | ty n => cases ht
  | cl c => cases ht
  | tup h a z => cases ht; exact Or.inr (Or.inl ⟨_, h, by rw [a.empty]⟩)
  | lst f h a z => cases ht; exact Or.inl ⟨_, SqL.of h, by rw [a.empty]⟩
  | scr h z => cases ht
  | dic f h a z => cases ht; exact Or.inr (Or.inr ⟨_, h, by rw [a.empty]⟩)
  | ins f h a => cases ht
  | err0 f h => cases ht
  | errD f h f2 h2 a => cases ht
  | lam g e h f hc => cases ht
  | dnk g h a z => cases ht
def iTest (A : E) : EB := fun ρ => (A ρ).bind fun d ρ1 => ofO (tru d) ρ1
theorem q_test (o : Ok X G W) {A : E} : ∀ σ H Q, ttOf G W (iTest A) σ H Q → (fun σ H Q => teOf G W A σ H fun x H' => ∃ k, TruV X.K x H' k ∧ Q k H' : TT) σ H Q := by
  rintro σ H Q ⟨ρ, F, fp, e, h⟩
  refine oc_bind e h fun x dx ρ1 H1 F1 fp1 s1 e1 r1 h1 => ?_
  cases ht : tru dx with
  | none => rw [ht] at h1; exact h1.elim
  | some b =>
    rw [ht] at h1
    exact ⟨b, by rw [o.K]; exact MR.tru_ok r1 ht, oc_okR h1 e1 rfl⟩
theorem n_truth (o : Ok X G W) {a : Expr} {A : E} (ha : PE X a (teOf G W A)) (he : ∀ whole, isTrue a X.env whole = (do let v ← whole; standAt a.pos; holding [v] (truthy v)) := by intro _; rfl) : PT X a (ttOf G W (iTest A)) :=
  PT.imp (pt_truth ha he) (q_test o)
def iCmp (f : IV → IV → Option IV) (A B : E) : EB := fun ρ => (A ρ).bind fun x ρ1 => (B ρ1).bind fun y ρ2 => match f x y with
  | some (.bl b) => .ok b ρ2
  | _ => .no
theorem q_cmp {r : R2} {f : IV → IV → Option IV} {A B : E} (hr : OpF G r f) : ∀ σ H Q, ttOf G W (iCmp f A B) σ H Q → tTest (tOp r (teOf G W A) (teOf G W B)) σ H Q := by
  rintro σ H Q ⟨ρ, F, fp, e, h⟩
  refine oc_bind e h fun x dx ρ1 H1 F1 fp1 s1 e1 r1 h1 => ?_
  refine oc_bind e1 h1 fun y dy ρ2 H2 F2 fp2 s2 e2 r2 h2 => ?_
  have r1' : Fz G F2 H2 x dx := Fz.mono (e1.stq s2) r1
  split at h2
  · rename_i b hf
    refine hr F2 H2 x y dx dy _ _ r1' r2 hf fun v H' F' g z => ?_
    cases z.bl_inv
    exact ⟨b, rfl, h2 b H' F' fp2 (g.stp _) (e2.fr g) rfl⟩
  · exact h2.elim
theorem n_cmp {op : CmpOp} {a b : Expr} {A B : E} {r : R2} {f : IV → IV → Option IV} {pos : Pos} (ho : OpR X (compareOp op) r) (hr : OpF G r f) (ha : PE X a (teOf G W A)) (hb : PE X b (teOf G W B))
    (hm : behindInMarks op b = false := by first | exact nobehind _ (by decide) (by decide) | rfl) : PT X (.Compare a [op] [b] pos) (ttOf G W (iCmp f A B)) := PT.imp (pt_cmpR ho ha hb hm) (q_cmp hr)
theorem n_gt {a b : Expr} {A B : E} {pos : Pos} (ha : PE X a (teOf G W A)) (hb : PE X b (teOf G W B)) : PT X (.Compare a [.Gt] [b] pos) (ttOf G W (iCmp oGt A B)) := n_cmp op_gt (of_I fun _ _ _ _ => .bl _) ha hb
theorem n_ge {a b : Expr} {A B : E} {pos : Pos} (ha : PE X a (teOf G W A)) (hb : PE X b (teOf G W B)) : PT X (.Compare a [.GtE] [b] pos) (ttOf G W (iCmp oGe A B)) := n_cmp op_ge (of_I fun _ _ _ _ => .bl _) ha hb
/-- a < b < c -/
def iChainT (f g : IV → IV → Option IV) (A B C : E) : EB := fun ρ => (A ρ).bind fun x ρ1 => (B ρ1).bind fun y ρ2 => match f x y with
  | some (.bl true) => (C ρ2).bind fun z ρ3 => match g y z with
    | some (.bl b) => .ok b ρ3
    | _ => .no
  | some (.bl false) => .ok false ρ2
  | _ => .no
theorem q_chainT {r r' : R2} {f g : IV → IV → Option IV} {A B C : E} (hr : OpF G r f) (hr' : OpF G r' g) : ∀ σ H Q, ttOf G W (iChainT f g A B C) σ H Q → tTest (tChain r r' (teOf G W A) (teOf G W B) (teOf G W C)) σ H Q := by
  rintro σ H Q ⟨ρ, F, fp, e, h⟩
  refine oc_bind e h fun x dx ρ1 H1 F1 fp1 s1 e1 r1 h1 => ?_
  refine oc_bind e1 h1 fun y dy ρ2 H2 F2 fp2 s2 e2 r2 h2 => ?_
  have r1' : Fz G F2 H2 x dx := Fz.mono (e1.stq s2) r1
  split at h2
  · rename_i hf
    refine hr F2 H2 x y dx dy _ _ r1' r2 hf fun v H' F' fr z => ?_
    cases z.bl_inv
    refine ⟨true, rfl, ?_⟩
    refine oc_bind (e2.fr fr) (Oc.step (fr.stp _) h2) fun w dw ρ3 H3 F3 fp3 s3 e3 r3 h3 => ?_
    have r2' : Fz G F3 H3 y dy := Fz.mono ((e2.fr fr).stq s3) (r2.mono fr.stq)
    split at h3
    · rename_i b hg
      refine hr' F3 H3 y w dy dw _ _ r2' r3 hg fun v H' F' g z => ?_
      cases z.bl_inv
      exact ⟨b, rfl, h3 b H' F' fp3 (g.stp _) (e3.fr g) rfl⟩
    · exact h3.elim
  · rename_i hf
    refine hr F2 H2 x y dx dy _ _ r1' r2 hf fun v H' F' fr z => ?_
    cases z.bl_inv
    exact ⟨false, rfl, false, rfl, h2 false H' F' fp2 (fr.stp _) (e2.fr fr) rfl⟩
  · exact h2.elim
theorem n_chain {op op' : CmpOp} {a b c : Expr} {A B C : E} {r r' : R2} {f g : IV → IV → Option IV} {pos : Pos} (ho : OpR X (compareOp op) r) (ho' : OpR X (compareOp op') r') (hr : OpF G r f) (hr' : OpF G r' g)
    (ha : PE X a (teOf G W A)) (hb : PE X b (teOf G W B)) (hc : PE X c (teOf G W C)) (hm : lastMarks [op, op'] [b, c] = false := by with_unfolding_all rfl) : PT X (.Compare a [op, op'] [b, c] pos) (ttOf G W (iChainT f g A B C)) := PT.imp (pt_chain ho ho' ha hb hc hm) (q_chainT hr hr')
/-! ### and, or, not -/
def iAndT (A B : EB) : EB := fun ρ => (A ρ).bind fun b ρ1 => if b = true then B ρ1 else .ok false ρ1
def iOrT (A B : EB) : EB := fun ρ => (A ρ).bind fun b ρ1 => if b = true then .ok true ρ1 else B ρ1
def iNotT (A : EB) : EB := fun ρ => (A ρ).bind fun b ρ1 => .ok (!b) ρ1
theorem q_andT {A B : EB} : ∀ σ H Q, ttOf G W (iAndT A B) σ H Q → tAnd (ttOf G W A) (ttOf G W B) σ H Q := by
  rintro σ H Q ⟨ρ, F, fp, e, h⟩
  refine oc_bind e h fun x dx ρ1 H1 F1 fp1 s1 e1 r1 h1 => ?_
  obtain rfl : x = dx := r1
  cases x with
  | true => exact ⟨ρ1, F1, fp1, e1, h1⟩
  | false => exact oc_okR h1 e1 rfl
theorem q_orT {A B : EB} : ∀ σ H Q, ttOf G W (iOrT A B) σ H Q → tOr (ttOf G W A) (ttOf G W B) σ H Q := by
  rintro σ H Q ⟨ρ, F, fp, e, h⟩
  refine oc_bind e h fun x dx ρ1 H1 F1 fp1 s1 e1 r1 h1 => ?_
  obtain rfl : x = dx := r1
  cases x with
  | true => exact oc_okR h1 e1 rfl
  | false => exact ⟨ρ1, F1, fp1, e1, h1⟩
theorem q_notT {A : EB} : ∀ σ H Q, ttOf G W (iNotT A) σ H Q → tNot (ttOf G W A) σ H Q := by
  rintro σ H Q ⟨ρ, F, fp, e, h⟩
  refine oc_bind e h fun x dx ρ1 H1 F1 fp1 s1 e1 r1 h1 => ?_
  obtain rfl : x = dx := r1
  exact oc_okR h1 e1 rfl
theorem n_not {a : Expr} {A : EB} {pos : Pos} (ha : PT X a (ttOf G W A)) : PT X (.UnaryOp .Not a pos) (ttOf G W (iNotT A)) := PT.imp (pt_not ha) q_notT
theorem w_and1 {a : Expr} {A : EB} {pos : Pos} (ha : PT X a (ttOf G W A)) : PW X (.BoolOp .And [a] pos) (ttOf G W A) := pw_and1 ha
theorem w_or1 {a : Expr} {A : EB} {pos : Pos} (ha : PT X a (ttOf G W A)) : PW X (.BoolOp .Or [a] pos) (ttOf G W A) := pw_or1 ha
theorem w_and {a b : Expr} {rest : List Expr} {A B : EB} {pos : Pos} (ha : PT X a (ttOf G W A)) (hb : PW X (.BoolOp .And (b :: rest) pos) (ttOf G W B)) : PW X (.BoolOp .And (a :: b :: rest) pos) (ttOf G W (iAndT A B)) := PW.imp (pw_and ha hb) q_andT
theorem w_or {a b : Expr} {rest : List Expr} {A B : EB} {pos : Pos} (ha : PT X a (ttOf G W A)) (hb : PW X (.BoolOp .Or (b :: rest) pos) (ttOf G W B)) : PW X (.BoolOp .Or (a :: b :: rest) pos) (ttOf G W (iOrT A B)) := PW.imp (pw_or ha hb) q_orT
theorem n_w {a : Expr} {A : EB} (h : PW X a (ttOf G W A)) : PT X a (ttOf G W A) := h.pt
/-- as values -/
def iAnd (A B : E) : E := fun ρ => (A ρ).bind fun d ρ1 => match tru d with
  | some true => B ρ1
  | some false => .ok d ρ1
  | none => .no
def iOr (A B : E) : E := fun ρ => (A ρ).bind fun d ρ1 => match tru d with
  | some true => .ok d ρ1
  | some false => B ρ1
  | none => .no
def iNot (A : E) : E := fun ρ => (A ρ).bind fun d ρ1 => match tru d with
  | some b => .ok (.bl (!b)) ρ1
  | none => .no
theorem q_and (o : Ok X G W) {A B : E} : ∀ σ H Q, teOf G W (iAnd A B) σ H Q → tAndT X.K (teOf G W A) (teOf G W B) σ H Q := by
  rintro σ H Q ⟨ρ, F, fp, e, h⟩
  refine oc_bind e h fun x dx ρ1 H1 F1 fp1 s1 e1 r1 h1 => ?_
  cases ht : tru dx with
  | none => rw [ht] at h1; exact h1.elim
  | some b =>
    rw [ht] at h1
    refine ⟨b, by rw [o.K]; exact MR.tru_ok r1 ht, ?_⟩
    cases b with
    | true => exact ⟨ρ1, F1, fp1, e1, h1⟩
    | false => exact oc_okR h1 e1 r1
theorem q_or (o : Ok X G W) {A B : E} : ∀ σ H Q, teOf G W (iOr A B) σ H Q → tOrT X.K (teOf G W A) (teOf G W B) σ H Q := by
  rintro σ H Q ⟨ρ, F, fp, e, h⟩
  refine oc_bind e h fun x dx ρ1 H1 F1 fp1 s1 e1 r1 h1 => ?_
  cases ht : tru dx with
  | none => rw [ht] at h1; exact h1.elim
  | some b =>
    rw [ht] at h1
    refine ⟨b, by rw [o.K]; exact MR.tru_ok r1 ht, ?_⟩
    cases b with
    | true => exact oc_okR h1 e1 r1
    | false => exact ⟨ρ1, F1, fp1, e1, h1⟩
theorem q_not (o : Ok X G W) {A : E} : ∀ σ H Q, teOf G W (iNot A) σ H Q → tNotT X.K (teOf G W A) σ H Q := by
  rintro σ H Q ⟨ρ, F, fp, e, h⟩
  refine oc_bind e h fun x dx ρ1 H1 F1 fp1 s1 e1 r1 h1 => ?_
  cases ht : tru dx with
  | none => rw [ht] at h1; exact h1.elim
  | some b =>
    rw [ht] at h1
    exact ⟨b, by rw [o.K]; exact MR.tru_ok r1 ht, oc_okR h1 e1 (Fz.bl _)⟩
theorem m_one {op : BoolOp} {a : Expr} {A : E} {pos : Pos} (h : PE X a (teOf G W A)) : PE X (.BoolOp op [a] pos) (teOf G W A) := pe_one h
theorem m_and (o : Ok X G W) {a b : Expr} {rest : List Expr} {A B : E} {pos : Pos} (ha : PE X a (teOf G W A)) (hb : PE X (.BoolOp .And (b :: rest) pos) (teOf G W B)) : PE X (.BoolOp .And (a :: b :: rest) pos) (teOf G W (iAnd A B)) := PE.imp (pe_andT ha hb) (q_and o)
theorem m_or (o : Ok X G W) {a b : Expr} {rest : List Expr} {A B : E} {pos : Pos} (ha : PE X a (teOf G W A)) (hb : PE X (.BoolOp .Or (b :: rest) pos) (teOf G W B)) : PE X (.BoolOp .Or (a :: b :: rest) pos) (teOf G W (iOr A B)) := PE.imp (pe_orT ha hb) (q_or o)
theorem m_not (o : Ok X G W) {a : Expr} {A : E} {pos : Pos} (ha : PE X a (teOf G W A)) : PE X (.UnaryOp .Not a pos) (teOf G W (iNot A)) := PE.imp (pe_notT ha) (q_not o)
def iNeg (A : E) : E := fun ρ => (A ρ).bind fun d ρ1 => match d with
  | .int i => .ok (.int (-i)) ρ1
  | _ => .no
theorem q_neg {A : E} : ∀ σ H Q, teOf G W (iNeg A) σ H Q → tUn (rU fun i => .int (-i)) (teOf G W A) σ H Q := by
  rintro σ H Q ⟨ρ, F, fp, e, h⟩
  refine oc_bind e h fun x dx ρ1 H1 F1 fp1 s1 e1 r1 h1 => ?_
  cases dx with
  | int i => cases (Fz.int_inv r1); exact ⟨i, rfl, oc_okR h1 e1 (Fz.int _)⟩
  | _ => exact h1.elim
theorem m_neg {a : Expr} {A : E} {pos : Pos} (ha : PE X a (teOf G W A)) : PE X (.UnaryOp .USub a pos) (teOf G W (iNeg A)) := PE.imp (pe_un un_neg ha) q_neg
/-- a if c else b -/
def iIf (C : EB) (A B : E) : E := fun ρ => (C ρ).bind fun b ρ1 => if b = true then A ρ1 else B ρ1
theorem q_if {C : EB} {A B : E} : ∀ σ H Q, teOf G W (iIf C A B) σ H Q → tIf (ttOf G W C) (teOf G W A) (teOf G W B) σ H Q := by
  rintro σ H Q ⟨ρ, F, fp, e, h⟩
  refine oc_bind e h fun x dx ρ1 H1 F1 fp1 s1 e1 r1 h1 => ?_
  obtain rfl : x = dx := r1
  cases x with
  | true => exact ⟨ρ1, F1, fp1, e1, h1⟩
  | false => exact ⟨ρ1, F1, fp1, e1, h1⟩
theorem m_if {c a b : Expr} {C : EB} {A B : E} {pos : Pos} (hc : PT X c (ttOf G W C)) (ha : PE X a (teOf G W A)) (hb : PE X b (teOf G W B)) : PE X (.IfExp c a b pos) (teOf G W (iIf C A B)) := PE.imp (pe_ifExp hc ha hb) q_if
/-! ### lists of expressions -/
def iNil : EA := fun ρ => .ok [] ρ
def iCons (A : E) (B : EA) : EA := fun ρ => (A ρ).bind fun x ρ1 => (B ρ1).bind fun xs ρ2 => .ok (x :: xs) ρ2
theorem q_nil : ∀ σ H Q, taOf G W iNil σ H Q → tNil σ H Q := by
  rintro σ H Q ⟨ρ, F, fp, e, h⟩
  exact oc_okR h e .nil
theorem q_cons {A : E} {B : EA} : ∀ σ H Q, taOf G W (iCons A B) σ H Q → tCons (teOf G W A) (taOf G W B) σ H Q := by
  rintro σ H Q ⟨ρ, F, fp, e, h⟩
  refine oc_bind e h fun x dx ρ1 H1 F1 fp1 s1 e1 r1 h1 => ?_
  refine oc_bind e1 h1 fun y dy ρ2 H2 F2 fp2 s2 e2 r2 h2 => ?_
  exact oc_okR h2 e2 (FzA.cons (Fz.mono (e1.stq s2) r1) r2)
theorem a_nil : PA X [] (taOf G W iNil) := PA.imp pa_nil q_nil
theorem a_cons {e : Expr} {es : List Expr} {A : E} {B : EA} (ha : PE X e (teOf G W A)) (hb : PA X es (taOf G W B)) (hs : starEach (e :: es) X.env = (false, eval e X.env) :: starEach es X.env := by rfl) : PA X (e :: es) (taOf G W (iCons A B)) := PA.imp (pa_cons ha hb hs) q_cons
/-- a tuple -/
def iTup (A : EA) : E := fun ρ => (A ρ).bind fun xs ρ1 => if xs.length ≤ 1000 then .ok (.tup xs) ρ1 else .no
theorem FzA.len {F : AP1} {H : Hp} : ∀ {vs : List V} {ds : List IV}, FzA G F H vs ds → vs.length = ds.length
  | _, _, .nil => rfl
  | _, _, .cons _ t => by rw [List.length_cons, List.length_cons, FzA.len t]
theorem FzP.len {F : AP1} {H : Hp} {κ : Type} : ∀ {vs : List (κ × V)} {ds : List (κ × IV)}, FzP G F H vs ds → vs.length = ds.length
  | _, _, .nil => rfl
  | _, _, .cons _ t => by rw [List.length_cons, List.length_cons, FzP.len t]
theorem q_tup {A : EA} : ∀ σ H Q, teOf G W (iTup A) σ H Q → tTup (taOf G W A) σ H Q := by
  rintro σ H Q ⟨ρ, F, fp, e, h⟩
  refine oc_bind e h fun xs ds ρ1 H1 F1 fp1 s1 e1 r1 h1 => ?_
  have hl : xs.length = ds.length := FzA.len r1
  by_cases hz : ds.length ≤ 1000
  · have hz2 : xs.length ≤ big := by rw [hl]; exact Nat.le_trans hz (by decide)
    simp only [if_pos hz] at h1
    refine ⟨Nat.le_trans hz2 big_line, fun p hp => oc_ok h1 e1 (Fr.new hp) ?_⟩
    exact .tup (SqT.of upd_same) (FzA.mono (Fr.new hp).stq r1) hz2
  · simp only [if_neg hz] at h1
    exact h1.elim
theorem m_tup {es : List Expr} {A : EA} {x1} {pos : Pos} (ha : PA X es (taOf G W A)) : PE X (.Tuple es x1 pos) (teOf G W (iTup A)) := PE.imp (pe_tup ha) q_tup
end
end MR
set_option maxRecDepth 100000
set_option maxHeartbeats 4000000
/-! MirD: data and ==, in; items; slices; built-ins by values; own results. -/
namespace MR
open PySem L2
/-! ### data -/
mutual
def pd : IV → PyData
  | .non => .none
  | .bl b => .bool b
  | .int i => .int i
  | .str s => .str s
  | .tup xs => .tuple (pdA xs)
  | .lst xs => .list (pdA xs)
  | _ => .none
def pdA : List IV → List PyData
  | [] => []
  | x :: xs => pd x :: pdA xs
end
mutual
def pln : IV → Bool
  | .non => true
  | .bl _ => true
  | .int _ => true
  | .str _ => true
  | .tup xs => plnA xs
  | .lst xs => plnA xs
  | _ => false
def plnA : List IV → Bool
  | [] => true
  | x :: xs => pln x && plnA xs
end
section
variable {X : Cx} {G : Gx} {W : WX}
mutual
theorem Fz.dp {F : AP1} {H : Hp} : ∀ {v : V} {d : IV}, Fz G F H v d → pln d = true → Dp G.K H v (pd d)
  | _, _, .non, _ => .non
  | _, _, .bl b, _ => .bl b
  | _, _, .int i, _ => .int i
  | _, _, .str s, _ => .str s
  | _, _, .ty n, h => by simp [pln] at h
  | _, _, .cl n, h => by simp [pln] at h
  | _, _, .tup h a z, p => .tup h (FzA.dp a (by simpa only [pln] using p))
  | _, _, .lst f h a z, p => .lst (SqL.of h) (FzA.dp a (by simpa only [pln] using p))
  | _, _, .scr h z, p => by simp [pln] at p
  | _, _, .dic f h a z, h2 => by simp [pln] at h2
  | _, _, .ins f h a, h2 => by simp [pln] at h2
  | _, _, .err0 f h, h2 => by simp [pln] at h2
  | _, _, .errD f h f2 h3 a, h2 => by simp [pln] at h2
  | _, _, .lam g e h f hc, h2 => by simp [pln] at h2
  | _, _, .dnk g h a z, h2 => by simp [pln] at h2
theorem FzA.dp {F : AP1} {H : Hp} : ∀ {vs : List V} {ds : List IV}, FzA G F H vs ds → plnA ds = true → DpAll G.K H vs (pdA ds)
  | _, _, .nil, _ => .nil
  | _, _, .cons h t, p => by
    simp only [plnA, Bool.and_eq_true] at p
    exact .cons (Fz.dp h p.1) (FzA.dp t p.2)
end
/-- can be compared -/
def shp (d : IV) : Bool := pln d && SeqAt.shaped (pd d)
def oEq (x y : IV) : Option IV := if (shp x && shp y) = true then some (.bl (PyData.eqv (pd x) (pd y))) else none
def oNe (x y : IV) : Option IV := if (shp x && shp y) = true then some (.bl (!PyData.eqv (pd x) (pd y))) else none
theorem shp_and {x y : IV} (h : (shp x && shp y) = true) : (pln x = true ∧ SeqAt.shaped (pd x) = true) ∧ (pln y = true ∧ SeqAt.shaped (pd y) = true) := by
  simp only [shp, Bool.and_eq_true] at h
  exact h
theorem of_eq : OpF G (rEqD G.K) oEq := by
  intro F H x y dx dy d Q hx hy hf k
  unfold oEq at hf
  split at hf
  · rename_i hs
    obtain ⟨⟨p1, s1⟩, p2, s2⟩ := shp_and hs
    cases hf
    exact ⟨_, _, hx.dp p1, hy.dp p2, s1, s2, k _ _ _ (Fr.refl _ _) (.bl _)⟩
  · cases hf
theorem of_ne : OpF G (rNeD G.K) oNe := by
  intro F H x y dx dy d Q hx hy hf k
  unfold oNe at hf
  split at hf
  · rename_i hs
    obtain ⟨⟨p1, s1⟩, p2, s2⟩ := shp_and hs
    cases hf
    exact ⟨_, _, hx.dp p1, hy.dp p2, s1, s2, k _ _ _ (Fr.refl _ _) (.bl _)⟩
  · cases hf
theorem opEq (o : Ok X G W) : OpR X (compareOp .Eq) (rEqD G.K) := by
  have h := op_eqD (X := X) (by have := o.hu; omega)
  rwa [o.K] at h
theorem opNe (o : Ok X G W) : OpR X (compareOp .NotEq) (rNeD G.K) := by
  have h := op_neD (X := X) (by have := o.hu; omega)
  rwa [o.K] at h
theorem m_eq (o : Ok X G W) {a b : Expr} {A B : E} {pos : Pos} (ha : PE X a (teOf G W A)) (hb : PE X b (teOf G W B)) : PE X (.Compare a [.Eq] [b] pos) (teOf G W (iBin oEq A B)) := m_cmp (opEq o) of_eq ha hb
theorem m_ne (o : Ok X G W) {a b : Expr} {A B : E} {pos : Pos} (ha : PE X a (teOf G W A)) (hb : PE X b (teOf G W B)) : PE X (.Compare a [.NotEq] [b] pos) (teOf G W (iBin oNe A B)) := m_cmp (opNe o) of_ne ha hb
theorem n_eq (o : Ok X G W) {a b : Expr} {A B : E} {pos : Pos} (ha : PE X a (teOf G W A)) (hb : PE X b (teOf G W B)) : PT X (.Compare a [.Eq] [b] pos) (ttOf G W (iCmp oEq A B)) := n_cmp (opEq o) of_eq ha hb
theorem n_ne (o : Ok X G W) {a b : Expr} {A B : E} {pos : Pos} (ha : PE X a (teOf G W A)) (hb : PE X b (teOf G W B)) : PT X (.Compare a [.NotEq] [b] pos) (ttOf G W (iCmp oNe A B)) := n_cmp (opNe o) of_ne ha hb
/-! ### is None -/
def isN : IV → Bool
  | .non => true
  | _ => false
def oIs (x y : IV) : Option IV := match y with
  | .non => some (.bl (isN x))
  | _ => none
def oIsnt (x y : IV) : Option IV := match y with
  | .non => some (.bl (!isN x))
  | _ => none
theorem Fz.isN {F : AP1} {H : Hp} {v : V} {d : IV} (h : Fz G F H v d) : decide (v = .non) = isN d := by cases h <;> rfl
theorem of_is : OpF G (fun x y H Q => y = .non ∧ Q (.bl (decide (x = .non))) H) oIs := by
  intro F H x y dx dy d Q hx hy hf k
  unfold oIs at hf
  split at hf
  · cases hy; cases hf
    exact ⟨rfl, k _ _ _ (Fr.refl _ _) (by rw [hx.isN]; exact .bl _)⟩
  · cases hf
theorem of_isnt : OpF G (fun x y H Q => y = .non ∧ Q (.bl (!decide (x = .non))) H) oIsnt := by
  intro F H x y dx dy d Q hx hy hf k
  unfold oIsnt at hf
  split at hf
  · cases hy; cases hf
    exact ⟨rfl, k _ _ _ (Fr.refl _ _) (by rw [hx.isN]; exact .bl _)⟩
  · cases hf
theorem n_is {a b : Expr} {A B : E} {pos : Pos} (ha : PE X a (teOf G W A)) (hb : PE X b (teOf G W B)) : PT X (.Compare a [.Is] [b] pos) (ttOf G W (iCmp oIs A B)) := n_cmp op_isN of_is ha hb
theorem n_isnt {a b : Expr} {A B : E} {pos : Pos} (ha : PE X a (teOf G W A)) (hb : PE X b (teOf G W B)) : PT X (.Compare a [.IsNot] [b] pos) (ttOf G W (iCmp oIsnt A B)) := n_cmp op_notN of_isnt ha hb
/-! ### in -/
def rInU (K : Frag) (neg : Bool) : R2 := fun x y H Q => ∃ d ds, Dp K H x d ∧ (Dp K H y (.list ds) ∨ Dp K H y (.tuple ds)) ∧ SeqAt.shaped d = true ∧ SeqAt.shaped (.list ds) = true ∧ Q (.bl (if neg then !ds.any fun z => PyData.eqv z d else ds.any fun z => PyData.eqv z d)) H
theorem op_inU (hu : X.A.units + 65 < cLine) : OpR X (compareOp .In) (rInU X.K false) := by
  intro pins s σ H x y v u Q I rx ry h
  obtain ⟨d, ds, hd, he, sd, se, q⟩ := h
  obtain ⟨as, r1⟩ := Dp.reads I d x v hd rx
  rcases he with he | he
  · obtain ⟨bs, r2⟩ := Dp.reads I (.list ds) y u he ry
    exact SeqAt.in_list_reads r2 r1 (SeqAt.canLay_of_shaped se) (SeqAt.canLay_of_shaped sd) (PyProof.Rows.room_in_shaped sd hu) ⟨.bl _, H, I, rfl, q⟩
  · obtain ⟨bs, r2⟩ := Dp.reads I (.tuple ds) y u he ry
    exact SeqAt.in_tuple_reads r2 r1 (SeqAt.canLay_of_shaped se) (SeqAt.canLay_of_shaped sd) (PyProof.Rows.room_in_shaped sd hu) ⟨.bl _, H, I, rfl, q⟩
def seqOf : IV → Option (List IV)
  | .lst xs => some xs
  | .tup xs => some xs
  | _ => none
def oIn (neg : Bool) (x y : IV) : Option IV := match seqOf y with
  | some ds => if (shp x && shp (.lst ds)) = true then some (.bl (if neg then !(pdA ds).any fun z => PyData.eqv z (pd x) else (pdA ds).any fun z => PyData.eqv z (pd x))) else none
  | none => none
theorem of_in (neg : Bool) : OpF G (rInU G.K neg) (oIn neg) := by
  intro F H x y dx dy d Q hx hy hf k
  unfold oIn at hf
  split at hf
  · rename_i ds hds
    split at hf
    · rename_i hs
      obtain ⟨⟨p1, s1⟩, p2, s2⟩ := shp_and hs
      cases hf
      have p3 : plnA ds = true := by simpa only [pln] using p2
      have s3 : SeqAt.shaped (.list (pdA ds)) = true := by simpa only [pd] using s2
      refine ⟨_, pdA ds, hx.dp p1, ?_, s1, s3, k _ _ _ (Fr.refl _ _) (.bl _)⟩
      cases dy with
      | lst ys => cases hds; exact Or.inl (by have := hy.dp (by simpa only [pln] using p3); simpa only [pd] using this)
      | tup ys => cases hds; exact Or.inr (by have := hy.dp (by simpa only [pln] using p3); simpa only [pd] using this)
      | _ => cases hds
    · cases hf
  · cases hf
theorem opIn (o : Ok X G W) : OpR X (compareOp .In) (rInU G.K false) := by
  have h := op_inU (X := X) (by have := o.hu; omega)
  rwa [o.K] at h
theorem m_in (o : Ok X G W) {a b : Expr} {A B : E} {pos : Pos} (ha : PE X a (teOf G W A)) (hb : PE X b (teOf G W B)) (hm : behindInMarks .In b = false := by rfl) : PE X (.Compare a [.In] [b] pos) (teOf G W (iBin (oIn false) A B)) := m_cmp (opIn o) (of_in _) ha hb hm
theorem n_in (o : Ok X G W) {a b : Expr} {A B : E} {pos : Pos} (ha : PE X a (teOf G W A)) (hb : PE X b (teOf G W B)) (hm : behindInMarks .In b = false := by rfl) : PT X (.Compare a [.In] [b] pos) (ttOf G W (iCmp (oIn false) A B)) := n_cmp (opIn o) (of_in _) ha hb hm
/-! ### items -/
def oIx (x y : IV) : Option IV := match seqOf x, y with
  | some ds, .int i => atI ds i
  | _, _ => none
theorem FzA.get {F : AP1} {H : Hp} : ∀ {vs : List V} {ds : List IV} {i : Nat} {d : IV}, FzA G F H vs ds → ds[i]? = some d → ∃ v, vs[i]? = some v ∧ Fz G F H v d
  | _, _, _, _, .nil, e => by simp at e
  | _, _, 0, _, .cons h t, e => by simp at e; subst e; exact ⟨_, rfl, h⟩
  | _, _, i + 1, d, .cons h t, e => by
    obtain ⟨v, h1, h2⟩ := FzA.get (i := i) (d := d) t (by simpa using e)
    exact ⟨v, by simpa using h1, h2⟩
theorem FzA.at {F : AP1} {H : Hp} {vs : List V} {ds : List IV} {i : Int} {d : IV} (h : FzA G F H vs ds) (e : atI ds i = some d) : ∃ v, atI vs i = some v ∧ Fz G F H v d := by
  unfold atI at e ⊢
  rw [h.len]
  cases hi : ixN ds.length i with
  | none => rw [hi] at e; cases e
  | some j =>
    rw [hi] at e
    exact h.get e
theorem of_ix : OpF G (rIx G.K) oIx := by
  intro F H x y dx dy d Q hx hy hf k
  unfold oIx at hf
  split at hf
  · rename_i ds i hds
    cases hy.int_inv
    cases hx with
    | tup h a z => cases hds; obtain ⟨v, e1, e2⟩ := a.at hf; exact Or.inr (Or.inl ⟨_, _, _, _, rfl, rfl, h, e1, k _ _ _ (Fr.refl _ _) e2⟩)
    | lst f h a z => cases hds; obtain ⟨v, e1, e2⟩ := a.at hf; exact Or.inl ⟨_, _, _, _, rfl, rfl, SqL.of h, e1, k _ _ _ (Fr.refl _ _) e2⟩
    | _ => cases hds
  · cases hf
/-- d[k] of a dict -/
def ivKey : IV → Option Key
  | .int i => some (.inl i)
  | .str s => some (.inr s)
  | _ => none
def lookD (kvs : List (Key × IV)) (k : Key) : Option IV := (kvs.find? fun kv => decide (kv.1 = k)).map (·.2)
def oDg (x y : IV) : Option IV := match x, ivKey y with
  | .dic ds, some k => lookD ds k
  | _, _ => none
theorem FzP.look {F : AP1} {H : Hp} : ∀ {vs : List (Key × V)} {ds : List (Key × IV)} {k : Key} {d : IV}, FzP G F H vs ds → lookD ds k = some d → ∃ v, valV vs k = some v ∧ Fz G F H v d
  | _, _, _, _, .nil, e => by simp [lookD] at e
  | _, _, k', d', .cons (k := k) (v := v) (d := d) (vs := vs) (ds := ds) h t, e => by
    by_cases hk : k = k'
    · have e' : d = d' := by
        unfold lookD at e
        rw [List.find?_cons_of_pos (by simpa using hk)] at e
        simpa using e
      subst e'
      refine ⟨v, ?_, h⟩
      unfold valV
      rw [List.find?_cons_of_pos (by simpa using hk)]
      rfl
    · have e' : lookD ds k' = some d' := by
        unfold lookD at e ⊢
        rwa [List.find?_cons_of_neg (by simpa using hk)] at e
      obtain ⟨w, e1, e2⟩ := FzP.look t e'
      refine ⟨w, ?_, e2⟩
      unfold valV at e1 ⊢
      rwa [List.find?_cons_of_neg (by simpa using hk)]
theorem Fz.key {F : AP1} {H : Hp} {v : V} {d : IV} {k : Key} (h : Fz G F H v d) (e : ivKey d = some k) : v = kV k := by
  cases h <;> first | (cases e; rfl) | cases e
theorem q_dg {A B : E} : ∀ σ H Q, teOf G W (iBin oDg A B) σ H Q → tDGet (teOf G W A) (teOf G W B) σ H Q := by
  rintro σ H Q ⟨ρ, F, fp, e, h⟩
  refine oc_bind e h fun x dx ρ1 H1 F1 fp1 s1 e1 r1 h1 => ?_
  refine oc_bind e1 h1 fun y dy ρ2 H2 F2 fp2 s2 e2 r2 h2 => ?_
  have r1' : Fz G F2 H2 x dx := Fz.mono (e1.stq s2) r1
  cases hf : oDg dx dy with
  | none => rw [hf] at h2; exact h2.elim
  | some d =>
    rw [hf] at h2
    unfold oDg at hf
    split at hf
    · rename_i ds k hk
      cases Fz.key r2 hk
      cases r1' with
      | dic f hp a z =>
        obtain ⟨v, e3, e4⟩ := a.look hf
        exact ⟨_, v, rfl, by rw [← e3]; exact DGet.k hp, oc_okR h2 e2 e4⟩
    · cases hf
/-- x[y], x a sequence or a dict -/
theorem PE.or {e : Expr} {t t' : TE} (h : PE X e t) (h' : PE X e t') : PE X e (fun σ H Q => t σ H Q ∨ t' σ H Q) := ⟨fun pins s σ H Q I w => w.elim (h.run pins s σ H Q I) (h'.run pins s σ H Q I)⟩
def oIt (x y : IV) : Option IV := match x with
  | .dic _ => oDg x y
  | _ => oIx x y
theorem q_it {A B : E} : ∀ σ H Q, teOf G W (iBin oIt A B) σ H Q → tOp (rIx G.K) (teOf G W A) (teOf G W B) σ H Q ∨ tDGet (teOf G W A) (teOf G W B) σ H Q := by
  rintro σ H Q ⟨ρ, F, fp, e, h⟩
  by_cases hd : ∃ ds ρ1, A ρ = .ok (.dic ds) ρ1
  · obtain ⟨ds, ρ1, hA⟩ := hd
    refine Or.inr (q_dg σ H Q ⟨ρ, F, fp, e, ?_⟩)
    have hx : iBin oDg A B ρ = iBin oIt A B ρ := by unfold iBin; rw [hA]; rfl
    rw [hx]; exact h
  · refine Or.inl (q_bin of_ix σ H Q ⟨ρ, F, fp, e, ?_⟩)
    have hx : iBin oIx A B ρ = iBin oIt A B ρ := by
      unfold iBin
      cases hA : A ρ with
      | ok d ρ1 =>
        have hn : ∀ y, oIx d y = oIt d y := fun y => by
          cases d with
          | dic ds => exact (hd ⟨ds, ρ1, hA⟩).elim
          | _ => rfl
        simp only [Rz.bind, hn]
      | ex c p ρ1 => rfl
      | no => rfl
    rw [hx]; exact h
theorem m_it (o : Ok X G W) {a b : Expr} {A B : E} {pos : Pos} (ha : PE X a (teOf G W A)) (hb : PE X b (teOf G W B)) (hs : PlainIx b := by exact fun _ _ => rfl) (hs' : NoSl b := by exact fun _ _ => rfl) : PE X (.Subscript a b pos) (teOf G W (iBin oIt A B)) := by
  have h := ix_seq (X := X)
  rw [o.K] at h
  exact PE.imp (PE.or (pe_ix h ha hb hs) (pe_dget (by have := o.hu; omega) ha hb hs')) q_it
/-! ### built-ins by values -/
end
end MR
set_option maxRecDepth 100000
set_option maxHeartbeats 4000000
/-! MirE: own results, displays of lists; what is walked; comprehensions. -/
namespace MR
open PySem L2
/-! ### an own result: new objects that nobody else knows -/
structure New1 (H H' : Hp) (F' : AP1) (fp' : FPt) (q : AP1) : Prop where
  old : ∀ a, q a → H a = none
  tr : ∀ a, q a → H' a ≠ none
  nf : ∀ a, q a → ¬ F' a
  np : ∀ a, q a → ¬ un fp' a
  ni : ∀ a o, q a → H' a = some o → ¬ Imm o
def OcO (G : Gx) (W : WX) (σ : L2.St) (H : Hp) (F : AP1) (fp : FPt) (r : Rz IV) (Q : VK) : Prop := match r with
  | .ok d ρ' => ∀ v H' F' fp' q, Stp H F (un fp) H' F' (un fp') → EnvR G F' H' σ ρ' fp' → Own G F' H' v d q → New1 H H' F' fp' q → Q v H'
  | .ex c p ρ' => ∀ d H' F' fp', Stp H F (un fp) H' F' (un fp') → EnvR G F' H' σ ρ' fp' → ExD G F' H' d p → W (G.ecl c) d σ H'
  | .no => False
def toOf (G : Gx) (W : WX) (m : E) : TE := fun σ H Q => ∃ ρ F fp, EnvR G F H σ ρ fp ∧ OcO G W σ H F fp (m ρ) Q
section
variable {X : Cx} {G : Gx} {W : WX} {σ : L2.St} {H H1 : Hp} {F F1 : AP1} {fp fp1 : FPt} {ρ : Env}
theorem OcO.step {r : Rz IV} {Q : VK} (s : Stp H F (un fp) H1 F1 (un fp1)) (h : OcO G W σ H F fp r Q) : OcO G W σ H1 F1 fp1 r Q := by
  cases r with
  | ok d ρ' => exact fun v H' F' fp' q t e r n => h v H' F' fp' q (s.trans t) e r ⟨fun a z => s.dom a (n.old a z), n.tr, n.nf, n.np, n.ni⟩
  | ex c p ρ' => exact fun d H' F' fp' t e r => h d H' F' fp' (s.trans t) e r
  | no => exact h
theorem ocO_bind {α β : Type} {R : Gx → L2.St → AP1 → Hp → β → α → Prop} {m : Env → Rz α} {k : α → Env → Rz IV} {Q : VK} {P : β → Hp → Prop} (e : EnvR G F H σ ρ fp) (h : OcO G W σ H F fp ((m ρ).bind k) Q)
    (hk : ∀ x d ρ1 H1 F1 fp1, Stp H F (un fp) H1 F1 (un fp1) → EnvR G F1 H1 σ ρ1 fp1 → R G σ F1 H1 x d → OcO G W σ H1 F1 fp1 (k d ρ1) Q → P x H1) : tOf R G W m σ H P := by
  refine ⟨ρ, F, fp, e, ?_⟩
  cases hm : m ρ with
  | ok d ρ1 =>
    rw [hm] at h
    exact fun v H' F' fp' t e' r => hk v d ρ1 H' F' fp' t e' r (OcO.step t h)
  | ex c p ρ' => rw [hm] at h; exact h
  | no => rw [hm] at h; exact h
/-- at the end: a new list at p -/
theorem ocO_new {ds : List IV} {Q : VK} {p : Addr} {vs : List V} (h : OcO G W σ H F fp (.ok (.lst ds) ρ) Q) (e : EnvR G F H σ ρ fp) (hp : H p = none) (a : FzA G F H vs ds) (z : vs.length ≤ big) : Q (.ref p) (upd H p (.lst vs)) := by
  have fr : Fr H F (upd H p (.lst vs)) F := Fr.new hp
  refine h (.ref p) _ F fp (fun b => b = p) (fr.stp _) (e.fr fr) (.lst upd_same (FzA.mono fr.stq a) z fun _ => Iff.rfl) ⟨?_, ?_, ?_, ?_, ?_⟩
  · intro b hb; rw [hb]; exact hp
  · intro b hb q; rw [hb, upd_same] at q; cases q
  · intro b hb f; rw [hb] at f; exact e.ft p f hp
  · rintro b hb ⟨i, q⟩; rw [hb] at q; exact e.tr i p q hp
  · intro b o hb q; rw [hb, upd_same] at q; cases q; exact fun z => z
end
end MR
set_option maxRecDepth 100000
set_option maxHeartbeats 4000000
/-! MirF: displays of lists; targets; what is walked; comprehensions. -/
namespace MR
open PySem L2
abbrev W0 : WX := fun _ _ _ _ => False
section
variable {X : Cx} {G : Gx} {W : WX}
/-! ### freezing -/
theorem EnvR.more {F : AP1} {H : Hp} {σ : L2.St} {ρ : Env} {fp : FPt} {q : AP1} (e : EnvR G F H σ ρ fp) (n1 : ∀ a, q a → ¬ un fp a) (n2 : ∀ a, q a → H a ≠ none) : EnvR G (fun a => F a ∨ q a) H σ ρ fp := by
  have s : Stq H F H (fun a => F a ∨ q a) := ⟨fun _ _ z _ => z, fun _ _ z _ => z, fun _ f => Or.inl f⟩
  refine ⟨fun i d z => ?_, fun i d z => ?_, e.dis, fun i a z f => ?_, e.tr, e.ni, fun a f => ?_, e.len⟩
  · obtain ⟨w, e1, e2⟩ := e.fz i d z
    exact ⟨w, e1, e2.mono s⟩
  · obtain ⟨w, e1, e2⟩ := e.ow i d z
    exact ⟨w, e1, e2.mono s fun _ _ z _ => z⟩
  · rcases f with f | f
    · exact e.nf i a z f
    · exact n1 a f ⟨i, z⟩
  · rcases f with f | f
    · exact e.ft a f
    · exact n2 a f
theorem q_frz {m : E} (hc : ∀ ρ d ρ', m ρ = .ok d ρ' → canFz d = true) : ∀ σ H Q, teOf G W m σ H Q → toOf G W m σ H Q := by
  rintro σ H Q ⟨ρ, F, fp, e, h⟩
  refine ⟨ρ, F, fp, e, ?_⟩
  cases hm : m ρ with
  | ok d ρ' =>
    rw [hm] at h
    intro v H' F' fp' q s e' r n
    refine h v H' (fun a => F' a ∨ q a) fp' ⟨s.keep, fun a f => Or.inl (s.frm a f), fun a f => ?_, s.pnew, s.dom⟩ (e'.more n.np n.tr) (r.freeze (hc ρ d ρ' hm))
    rcases f with f | f
    · exact s.fnew a f
    · exact Or.inr (Or.inr (n.old a f))
  | ex c p ρ' => rw [hm] at h; exact h
  | no => rw [hm] at h; exact h
theorem m_frz {e : Expr} {m : E} (h : PE X e (toOf G W m)) (hc : ∀ ρ d ρ', m ρ = .ok d ρ' → canFz d = true) : PE X e (teOf G W m) := PE.imp h (q_frz hc)
/-! ### a list is written -/
def iLst (A : EA) : E := fun ρ => (A ρ).bind fun xs ρ1 => if xs.length ≤ 1000 then .ok (.lst xs) ρ1 else .no
theorem Rz.bind_ok {α β : Type} {r : Rz α} {k : α → Env → Rz β} {b : β} {ρ' : Env} (h : r.bind k = .ok b ρ') : ∃ a ρ, r = .ok a ρ ∧ k a ρ = .ok b ρ' := by
  cases r with
  | ok a ρ => exact ⟨a, ρ, rfl, h⟩
  | ex c p ρ => cases h
  | no => cases h
theorem iLst_fz (A : EA) : ∀ ρ d ρ', iLst A ρ = .ok d ρ' → canFz d = true := by
  intro ρ d ρ' h
  obtain ⟨xs, ρ1, _, h1⟩ := Rz.bind_ok h
  split at h1
  · cases h1; rfl
  · cases h1
theorem q_lst {A : EA} : ∀ σ H Q, toOf G W (iLst A) σ H Q → tLst (taOf G W A) σ H Q := by
  rintro σ H Q ⟨ρ, F, fp, e, h⟩
  refine ocO_bind e h fun xs ds ρ1 H1 F1 fp1 s1 e1 r1 h1 => ?_
  have hl : xs.length = ds.length := FzA.len r1
  by_cases hz : ds.length ≤ 1000
  · have hz2 : xs.length ≤ big := by rw [hl]; exact Nat.le_trans hz (by decide)
    simp only [if_pos hz] at h1
    exact ⟨Nat.le_trans hz2 big_line, fun p hp => ocO_new h1 e1 hp r1 hz2⟩
  · simp only [if_neg hz] at h1
    exact h1.elim
theorem o_lst {es : List Expr} {A : EA} {pos : Pos} (ha : PA X es (taOf G W A)) : PE X (.List es pos) (toOf G W (iLst A)) := PE.imp (pe_lst ha) q_lst
theorem m_lst {es : List Expr} {A : EA} {pos : Pos} (ha : PA X es (taOf G W A)) : PE X (.List es pos) (teOf G W (iLst A)) := m_frz (o_lst ha) (iLst_fz A)
/-! ### slots stored -/
theorem get_set {α : Type} {l : List α} {i j : Nat} {x y : α} (h : (l.set i x)[j]? = some y) : (j = i ∧ y = x ∧ i < l.length) ∨ (j ≠ i ∧ l[j]? = some y) := by
  by_cases e : j = i
  · subst e
    by_cases hl : j < l.length
    · rw [List.getElem?_set_self hl] at h
      exact Or.inl ⟨rfl, (Option.some.inj h).symm, hl⟩
    · have : (l.set j x)[j]? = none := List.getElem?_eq_none_iff.mpr (by rw [List.length_set]; omega)
      rw [this] at h; cases h
  · rw [List.getElem?_set_ne (Ne.symm e)] at h
    exact Or.inr ⟨e, h⟩
theorem EnvR.setFz {F : AP1} {H : Hp} {σ : L2.St} {ρ : Env} {fp : FPt} {i : Nat} {v : V} {d : IV} (e : EnvR G F H σ ρ fp) (r : Fz G F H v d) : EnvR G F H (σ.set i (some v)) (ρ.set i (.fz d)) fp := by
  refine ⟨fun j d' z => ?_, fun j d' z => ?_, e.dis, e.nf, e.tr, e.ni, e.ft, by rw [List.length_set, List.length_set]; exact e.len⟩
  · rcases get_set z with ⟨rfl, z1, hl⟩ | ⟨hj, z⟩
    · cases z1
      exact ⟨v, List.getElem?_set_self (by rw [← e.len]; exact hl), r⟩
    · obtain ⟨w, e1, e2⟩ := e.fz j d' z
      exact ⟨w, by rw [List.getElem?_set_ne (Ne.symm hj)]; exact e1, e2⟩
  · rcases get_set z with ⟨rfl, z1, hl⟩ | ⟨hj, z⟩
    · cases z1
    · obtain ⟨w, e1, e2⟩ := e.ow j d' z
      exact ⟨w, by rw [List.getElem?_set_ne (Ne.symm hj)]; exact e1, e2⟩
theorem EnvR.setUn {F : AP1} {H : Hp} {σ : L2.St} {ρ : Env} {fp : FPt} {i : Nat} {o : Option V} (e : EnvR G F H σ ρ fp) : EnvR G F H (σ.set i o) (ρ.set i .un) fp := by
  refine ⟨fun j d' z => ?_, fun j d' z => ?_, e.dis, e.nf, e.tr, e.ni, e.ft, by rw [List.length_set, List.length_set]; exact e.len⟩
  · rcases get_set z with ⟨rfl, z1, hl⟩ | ⟨hj, z⟩
    · cases z1
    · obtain ⟨w, e1, e2⟩ := e.fz j d' z
      exact ⟨w, by rw [List.getElem?_set_ne (Ne.symm hj)]; exact e1, e2⟩
  · rcases get_set z with ⟨rfl, z1, hl⟩ | ⟨hj, z⟩
    · cases z1
    · obtain ⟨w, e1, e2⟩ := e.ow j d' z
      exact ⟨w, by rw [List.getElem?_set_ne (Ne.symm hj)]; exact e1, e2⟩
def wipeE (ρ : Env) : List Nat → Env
  | [] => ρ
  | v :: vs => (wipeE ρ vs).set v .un
theorem EnvR.wipe {F : AP1} {H : Hp} {σ : L2.St} {ρ : Env} {fp : FPt} (e : EnvR G F H σ ρ fp) : ∀ vs : List Nat, EnvR G F H (L2.wipe σ vs) (wipeE ρ vs) fp
  | [] => e
  | v :: vs => (EnvR.wipe e vs).setUn
def keepF (ρ : Env) (v : Nat) : Sl := match ρ[v]? with
  | some (.fz d) => .fz d
  | _ => .un
def restE (ρ : Env) (ρc : Env) : List Nat → Env
  | [] => ρc
  | v :: vs => (restE ρ ρc vs).set v (keepF ρ v)
theorem restE_len (ρ ρc : Env) : ∀ vs : List Nat, (restE ρ ρc vs).length = ρc.length
  | [] => rfl
  | v :: vs => by unfold restE; rw [List.length_set, restE_len ρ ρc vs]
theorem restE_get {ρ ρc : Env} {j : Nat} {x : Sl} : ∀ {vs : List Nat}, (restE ρ ρc vs)[j]? = some x → (j ∈ vs ∧ x = keepF ρ j) ∨ (j ∉ vs ∧ ρc[j]? = some x)
  | [], h => Or.inr ⟨by simp, h⟩
  | v :: vs, h => by
    unfold restE at h
    rcases get_set h with ⟨rfl, z, _⟩ | ⟨hj, z⟩
    · exact Or.inl ⟨List.mem_cons_self, z⟩
    · rcases restE_get z with ⟨m, z⟩ | ⟨m, z⟩
      · exact Or.inl ⟨List.mem_cons_of_mem _ m, z⟩
      · exact Or.inr ⟨fun q => by rcases List.mem_cons.mp q with q | q; exact hj q; exact m q, z⟩
/-- behind a block: its own slots are those from ahead of it -/
theorem EnvR.rest {F : AP1} {H : Hp} {σ σ2 : L2.St} {ρ ρc : Env} {fp : FPt} {vs : List Nat} (e : EnvR G F H σ2 ρc fp) (hw : L2.wipe σ2 vs = L2.wipe σ vs)
    (old : ∀ (i : Nat) d, ρ[i]? = some (.fz d) → ∃ v, σ[i]? = some (some v) ∧ Fz G F H v d) : EnvR G F H σ (restE ρ ρc vs) fp := by
  have same : ∀ j, j ∉ vs → σ[j]? = σ2[j]? := fun j hj => by
    have h := congrArg (fun l : L2.St => l[j]?) hw
    simp only [wipe_out hj] at h
    exact h.symm
  have len : σ2.length = σ.length := by
    have h := congrArg List.length hw
    rwa [wipe_length, wipe_length] at h
  refine ⟨fun j d z => ?_, fun j d z => ?_, e.dis, e.nf, e.tr, e.ni, e.ft, by rw [restE_len, e.len, len]⟩
  · rcases restE_get z with ⟨m, z⟩ | ⟨m, z⟩
    · unfold keepF at z
      split at z
      · rename_i d' hd
        cases z
        exact old j d hd
      · cases z
    · rw [same j m]
      exact e.fz j d z
  · rcases restE_get z with ⟨m, z⟩ | ⟨m, z⟩
    · unfold keepF at z
      split at z <;> cases z
    · rw [same j m]
      exact e.ow j d z
/-! ### targets -/
abbrev TM := IV → Env → Option Env
def tgN (i : Nat) : TM := fun d ρ => some (ρ.set i (.fz d))
def tgs : List TM → List IV → Env → Option Env
  | [], [], ρ => some ρ
  | t :: ts, d :: ds, ρ => (t d ρ).bind (tgs ts ds)
  | _, _, _ => none
def tgT (ts : List TM) : TM := fun d ρ => match d with
  | .tup ds => tgs ts ds ρ
  | _ => none
def SetOnly (l : List Nat) (σ σ' : L2.St) : Prop := σ'.length = σ.length ∧ ∀ i, i ∉ l → σ'[i]? = σ[i]?
theorem SetOnly.refl (l : List Nat) (σ : L2.St) : SetOnly l σ σ := ⟨rfl, fun _ _ => rfl⟩
theorem SetOnly.trans {l l' : List Nat} {a b c : L2.St} (h : SetOnly l a b) (k : SetOnly l' b c) : SetOnly (l ++ l') a c :=
  ⟨k.1.trans h.1, fun i hi => (k.2 i fun m => hi (List.mem_append_right _ m)).trans (h.2 i fun m => hi (List.mem_append_left _ m))⟩
theorem SetOnly.set (i : Nat) (σ : L2.St) (o : Option V) : SetOnly [i] σ (σ.set i o) :=
  ⟨List.length_set .., fun j hj => List.getElem?_set_ne fun e => hj (by rw [e]; exact List.mem_cons_self)⟩
def tgOf (G : Gx) (l : List Nat) (t : TM) : TG := fun v σ H Q => ∃ ρ F fp d, EnvR G F H σ ρ fp ∧ Fz G F H v d ∧ match t d ρ with
  | some ρ' => ∀ σ' fp', EnvR G F H σ' ρ' fp' → (∀ a, un fp' a → un fp a) → SetOnly l σ σ' → Q σ' H
  | none => False
def tgsOf (G : Gx) (l : List Nat) (ts : List TM) : TGs := fun vs σ H Q => ∃ ρ F fp ds, EnvR G F H σ ρ fp ∧ FzA G F H vs ds ∧ match tgs ts ds ρ with
  | some ρ' => ∀ σ' fp', EnvR G F H σ' ρ' fp' → (∀ a, un fp' a → un fp a) → SetOnly l σ σ' → Q σ' H
  | none => False
theorem PG.imp {e : Expr} {t t' : TG} (h : PG X e t) (q : ∀ v σ H Q, t' v σ H Q → t v σ H Q) : PG X e t' := ⟨fun pins s σ H v u Q I r w => h.run pins s σ H v u Q I r (q _ _ _ _ w)⟩
theorem PGs.imp {e : List Expr} {t t' : TGs} (h : PGs X e t) (q : ∀ v σ H Q, t' v σ H Q → t v σ H Q) : PGs X e t' := ⟨fun pins s σ H v u Q I r w => h.run pins s σ H v u Q I r (q _ _ _ _ w)⟩
theorem g_name (i : Nat) {x : Str} {pos : Pos} (hN : X.N.Nodup) (hi : X.N[i]? = some x := by rfl) (hx : Loc X.env.scope x := by first | exact Or.inl rfl | exact Or.inr rfl) (hf : X.fn x = true ∨ X.env.scope.names.lookup x = some .local := by first | exact .inl rfl | exact .inr rfl) : PG X (.Name x pos) (tgOf G [i] (tgN i)) :=
  PG.imp (pg_name hN hi hx hf) fun v σ H Q ⟨ρ, F, fp, d, e, r, h⟩ => h _ _ (e.setFz r) (fun _ z => z) (SetOnly.set _ _ _)
theorem gs_nil : PGs X [] (tgsOf G [] []) := PGs.imp pgs_nil fun vs σ H Q ⟨ρ, F, fp, ds, e, r, h⟩ => by
  cases r with
  | nil => exact ⟨rfl, h σ fp e (fun _ z => z) (SetOnly.refl _ _)⟩
  | cons _ _ => exact h.elim
theorem gs_cons {e : Expr} {es : List Expr} {l l' : List Nat} {t : TM} {ts : List TM} (h1 : PG X e (tgOf G l t)) (h2 : PGs X es (tgsOf G l' ts))
    (hw : (assignEach (e :: es) X.env).map (·.2) = assign e X.env :: (assignEach es X.env).map (·.2) := by rfl) : PGs X (e :: es) (tgsOf G (l ++ l') (t :: ts)) := PGs.imp (pgs_cons h1 h2 hw) fun vs σ H Q ⟨ρ, F, fp, ds, en, r, h⟩ => by
  cases r with
  | nil => exact h.elim
  | @cons v vs d ds rv rs =>
    refine ⟨v, vs, rfl, ρ, F, fp, d, en, rv, ?_⟩
    simp only [tgs] at h
    cases ht : t d ρ with
    | none => rw [ht] at h; exact h.elim
    | some ρ1 =>
      rw [ht] at h
      intro σ1 fp1 e1 p1 s1
      refine ⟨ρ1, F, fp1, ds, e1, rs, ?_⟩
      have h' : match tgs ts ds ρ1 with | some ρ' => ∀ σ' fp', EnvR G F H σ' ρ' fp' → (∀ a, un fp' a → un fp a) → SetOnly (l ++ l') σ σ' → Q σ' H | none => False := h
      cases hs : tgs ts ds ρ1 with
      | none => rw [hs] at h'; exact h'.elim
      | some ρ2 =>
        rw [hs] at h'
        exact fun σ2 fp2 e2 p2 s2 => h' σ2 fp2 e2 (fun a z => p1 a (p2 a z)) (s1.trans s2)
theorem g_tup (o : Ok X G W) {es : List Expr} {k : Nat} {pos : Pos} {l : List Nat} {ts : List TM} (h : PGs X es (tgsOf G l ts)) (hl : ts.length = es.length := by rfl)
    (hn : (assignEach es X.env).length = es.length := by rfl) (hst : (assignEach es X.env).findIdx? (·.1) = none := by rfl) : PG X (.Tuple es k pos) (tgOf G l (tgT ts)) :=
  PG.imp (pg_tup o.calm h hn hst) fun v σ H Q ⟨ρ, F, fp, d, e, r, w⟩ => by
    cases r with
    | @tup p vs ds hq a z =>
      have tl : ∀ (ts : List TM) (ds : List IV) (ρ : Env) (ρ' : Env), tgs ts ds ρ = some ρ' → ds.length = ts.length := by
        intro ts
        induction ts with
        | nil => intro ds ρ ρ' h; cases ds with
          | nil => rfl
          | cons _ _ => cases h
        | cons t ts ih => intro ds ρ ρ' h; cases ds with
          | nil => cases h
          | cons d ds =>
            simp only [tgs] at h
            obtain ⟨ρ1, _, h2⟩ := Option.bind_eq_some_iff.mp h
            rw [List.length_cons, List.length_cons, ih ds ρ1 ρ' h2]
      have w' : match tgs ts ds ρ with | some ρ' => ∀ σ' fp', EnvR G F H σ' ρ' fp' → (∀ a, un fp' a → un fp a) → SetOnly l σ σ' → Q σ' H | none => False := w
      cases hs : tgs ts ds ρ with
      | none => rw [hs] at w'; exact w'.elim
      | some ρ2 =>
        refine ⟨p, vs, rfl, by rw [o.K]; exact hq, by rw [a.len, tl _ _ _ _ hs, hl], ρ, F, fp, ds, e, a, w'⟩
    | _ => exact w.elim
end
end MR
set_option maxRecDepth 100000
set_option maxHeartbeats 4000000
/-! MirG: what is walked; comprehensions. -/
namespace MR
open PySem L2
section
variable {X : Cx} {G : Gx} {W : WX}
/-- an iterator that gives these items, whatever else happens -/
def Feeds (G : Gx) (J : It) (F : AP1) (H : Hp) (ds : List IV) : Prop := ∀ F' H', Stq H F H' F' →
  (∀ i, ds.length ≤ i → J.stop i H') ∧ ∀ (i : Nat) d, ds[i]? = some d → J.go i H' ∧ ∀ x H'', J.yld i H' x H'' → ∃ F'', Fr H' F' H'' F'' ∧ Fz G F'' H'' x d
theorem Stq.trans {H H1 H2 : Hp} {F F1 F2 : AP1} (a : Stq H F H1 F1) (b : Stq H1 F1 H2 F2) : Stq H F H2 F2 :=
  ⟨fun x o h f => b.fkeep x o (a.fkeep x o h f) (a.frm x f), fun x o h m => b.imm x o (a.imm x o h m) m, fun x f => b.frm x (a.frm x f)⟩
theorem Stq.refl (H : Hp) (F : AP1) : Stq H F H F := ⟨fun _ _ h _ => h, fun _ _ h _ => h, fun _ f => f⟩
theorem Feeds.mono {J : It} {F F' : AP1} {H H' : Hp} {ds : List IV} (s : Stq H F H' F') (h : Feeds G J F H ds) : Feeds G J F' H' ds := fun F2 H2 t => h F2 H2 (s.trans t)
def RF (G : Gx) (_ : L2.St) (F : AP1) (H : Hp) (J : It) (ds : List IV) : Prop := Feeds G J F H ds ∧ ds.length ≤ big
abbrev EL := Env → Rz (List IV)
abbrev tiOf (G : Gx) (W : WX) (m : EL) : TI := tOf RF G W m
theorem PI.imp {tg e : Expr} {t t' : TI} (h : PI X tg e t) (q : ∀ σ H Q, t' σ H Q → t σ H Q) : PI X tg e t' := ⟨fun pins s σ H Q I w => h.run pins s σ H Q I (q _ _ _ w)⟩
theorem PI.or {tg e : Expr} {t t' : TI} (h : PI X tg e t) (h' : PI X tg e t') : PI X tg e (fun σ H Q => t σ H Q ∨ t' σ H Q) := ⟨fun pins s σ H Q I w => w.elim (h.run pins s σ H Q I) (h'.run pins s σ H Q I)⟩
theorem feeds_list {F : AP1} {H : Hp} {p : Addr} {vs : List V} {ds : List IV} (hs : ∀ F' H', Stq H F H' F' → SqL G.K H' p vs) (a : FzA G F H vs ds) : Feeds G (Itl G.K p) F H ds := by
  intro F' H' s
  have q := hs F' H' s
  refine ⟨fun i hi => ⟨vs, q, by rw [a.len]; exact hi⟩, fun i d hd => ?_⟩
  obtain ⟨v, e1, e2⟩ := (a.mono s).get hd
  refine ⟨⟨vs, v, q, e1⟩, fun x H'' y => ?_⟩
  obtain ⟨rfl, y⟩ := y
  have := y vs q
  rw [e1] at this
  cases this
  exact ⟨F', Fr.refl _ _, e2⟩
theorem feeds_tup {F : AP1} {H : Hp} {p : Addr} {vs : List V} {ds : List IV} (h : SqT G.K H p vs) (a : FzA G F H vs ds) : Feeds G (Itt G.K p) F H ds := by
  intro F' H' s
  have q := sqT_imm s.imm h
  refine ⟨fun i hi => ⟨vs, q, by rw [a.len]; exact hi⟩, fun i d hd => ?_⟩
  obtain ⟨v, e1, e2⟩ := (a.mono s).get hd
  refine ⟨⟨vs, v, q, e1⟩, fun x H'' y => ?_⟩
  obtain ⟨rfl, y⟩ := y
  have := y vs q
  rw [e1] at this
  cases this
  exact ⟨F', Fr.refl _ _, e2⟩
/-- a list, a tuple, the script -/
def itOf : IV → Option (List IV)
  | .lst xs => some xs
  | .tup xs => some xs
  | .scr ns => some (ns.map .int)
  | _ => none
theorem fz_ints {F : AP1} {H : Hp} : ∀ (ns : List Int), FzA G F H (ns.map V.int) (ns.map IV.int)
  | [] => .nil
  | n :: ns => .cons (.int n) (fz_ints ns)
def iSeq (A : E) : EL := fun ρ => (A ρ).bind fun d ρ1 => ofO (itOf d) ρ1
theorem q_seq {A : E} : ∀ σ H Q, tiOf G W (iSeq A) σ H Q → iList G.K (teOf G W A) σ H Q ∨ L2.iTup G.K (teOf G W A) σ H Q := by
  rintro σ H Q ⟨ρ, F, fp, e, h⟩
  cases hA : A ρ with
  | no => exact (by unfold iSeq at h; rw [hA] at h; exact h : False).elim
  | ex c p ρ1 =>
    refine Or.inl ⟨ρ, F, fp, e, ?_⟩
    unfold iSeq at h
    rw [hA] at h ⊢
    exact h
  | ok d ρ1 =>
    unfold iSeq at h
    rw [hA] at h
    cases d with
    | lst ds =>
      refine Or.inl ⟨ρ, F, fp, e, ?_⟩
      rw [hA]
      intro v H' F' fp' s e' r
      have h' : Oc RF G W σ H F fp (.ok ds ρ1) Q := h
      cases r with
      | @lst p vs _ f hp a z =>
        exact ⟨p, rfl, ⟨vs, SqL.of hp⟩, h' _ H' F' fp' s e' ⟨feeds_list (fun F2 H2 t => SqL.of (t.fkeep _ _ hp f)) a, by rw [← a.len]; exact z⟩⟩
    | scr ns =>
      refine Or.inl ⟨ρ, F, fp, e, ?_⟩
      rw [hA]
      intro v H' F' fp' s e' r
      have h' : Oc RF G W σ H F fp (.ok (ns.map .int) ρ1) Q := h
      cases r with
      | @scr p ns hp z =>
        exact ⟨p, rfl, ⟨_, stL_sq hp⟩, h' _ H' F' fp' s e' ⟨feeds_list (fun F2 H2 t => stL_sq (stL_imm t.imm hp)) (fz_ints ns), by rw [List.length_map]; exact Nat.le_trans z (by decide)⟩⟩
    | tup ds =>
      refine Or.inr ⟨ρ, F, fp, e, ?_⟩
      rw [hA]
      intro v H' F' fp' s e' r
      have h' : Oc RF G W σ H F fp (.ok ds ρ1) Q := h
      cases r with
      | @tup p vs _ hp a z => exact ⟨p, rfl, ⟨vs, hp⟩, h' _ H' F' fp' s e' ⟨feeds_tup hp a, by rw [← a.len]; exact z⟩⟩
    | _ => exact h.elim
theorem i_seq (o : Ok X G W) {tg l : Expr} {A : E} (ha : PE X l (teOf G W A)) : PI X tg l (tiOf G W (iSeq A)) := by
  have h := PI.or (pi_list (tg := tg) ha) (pi_tup (tg := tg) ha)
  rw [o.K] at h
  exact PI.imp h q_seq
/-- range -/
def ivR (lo : Int) (n : Nat) : List IV := (List.range n).map fun (k : Nat) => .int (lo + (k : Int))
theorem ivR_len (lo : Int) (n : Nat) : (ivR lo n).length = n := by unfold ivR; rw [List.length_map, List.length_range]
theorem ivR_get {lo : Int} {n i : Nat} {d : IV} (h : (ivR lo n)[i]? = some d) : i < n ∧ d = .int (lo + (i : Int)) := by
  have hl := (List.getElem?_eq_some_iff.mp h).1
  rw [ivR_len] at hl
  unfold ivR at h
  rw [List.getElem?_map, List.getElem?_range hl] at h
  exact ⟨hl, (Option.some.inj h).symm⟩
theorem feeds_rng {F : AP1} {H : Hp} {lo : Int} {n : Nat} : Feeds G (Itr lo n) F H (ivR lo n) := by
  intro F' H' s
  refine ⟨fun i hi => by rw [ivR_len] at hi; exact hi, fun i d hd => ?_⟩
  obtain ⟨hl, rfl⟩ := ivR_get hd
  refine ⟨hl, fun x H'' y => ?_⟩
  obtain ⟨rfl, rfl⟩ := y
  exact ⟨F', Fr.refl _ _, .int _⟩
def r1Of : List IV → Option (List IV)
  | [.int n] => if (decide (-1000000 ≤ n) && decide (n ≤ 1000000)) = true then some (ivR 0 n.toNat) else none
  | _ => none
def iOn (f : List IV → Option (List IV)) (A : EA) : EL := fun ρ => (A ρ).bind fun ds ρ1 => ofO (f ds) ρ1
theorem q_rng1 {A : EA} : ∀ σ H Q, tiOf G W (iOn r1Of A) σ H Q → iRng1 (taOf G W A) σ H Q := by
  rintro σ H Q ⟨ρ, F, fp, e, h⟩
  refine oc_bind e h fun xs ds ρ1 H1 F1 fp1 s1 e1 r1 h1 => ?_
  cases hf : r1Of ds with
  | none => rw [hf] at h1; exact h1.elim
  | some l =>
    rw [hf] at h1
    unfold r1Of at hf
    split at hf
    · rename_i n
      split at hf
      · rename_i hc
        simp only [Bool.and_eq_true, decide_eq_true_eq] at hc
        cases hf
        cases r1 with
        | cons r2 r3 =>
          cases r3
          cases r2.int_inv
          exact ⟨n, rfl, by omega, by omega, oc_okR h1 e1 ⟨feeds_rng, by rw [ivR_len]; unfold big; omega⟩⟩
      · cases hf
    · cases hf
theorem i_rng1 {tg a : Expr} {A : EA} {p pos : Pos} (hg : Gl X "range") (hm : X.mg "range" = none) (ha : PA X [a] (taOf G W A)) (hs : starEach [a] X.env = [(false, eval a X.env)] := by rfl) : PI X tg (.Call (.Name "range" p) [a] [] pos) (tiOf G W (iOn r1Of A)) :=
  PI.imp (pi_range1 hg hm ha hs) q_rng1
/-! ### comprehensions -/
def lcLoop (t : TM) (ts : EB) (el : E) (own : List Nat) : List IV → Env → Rz (List IV)
  | [], ρ => .ok [] ρ
  | d :: ds, ρ => match t d (wipeE ρ own) with
    | none => .no
    | some ρa => match ts ρa with
      | .ok false ρb => lcLoop t ts el own ds (restE ρ ρb own)
      | .ok true ρb => match el ρb with
        | .ok y ρc => (lcLoop t ts el own ds (restE ρ ρc own)).bind fun ys ρ' => .ok (y :: ys) ρ'
        | _ => .no
      | _ => .no
def iLc (M : EL) (t : TM) (ts : EB) (el : E) (own : List Nat) : E := fun ρ => (M ρ).bind fun ds ρ1 => (lcLoop t ts el own ds ρ1).bind fun xs ρ2 => .ok (.lst xs) ρ2
theorem iLc_fz (M : EL) (t : TM) (ts : EB) (el : E) (own : List Nat) : ∀ ρ d ρ', iLc M t ts el own ρ = .ok d ρ' → canFz d = true := by
  intro ρ d ρ' h
  obtain ⟨ds, ρ1, _, h1⟩ := Rz.bind_ok h
  obtain ⟨xs, ρ2, _, h2⟩ := Rz.bind_ok h1
  cases h2; rfl
def iYes : EB := fun ρ => .ok true ρ
theorem wipe_eq {l vs : List Nat} {σ σ2 : L2.St} (h : SetOnly l (L2.wipe σ vs) σ2) (hl : ∀ i ∈ l, i ∈ vs) : L2.wipe σ2 vs = L2.wipe σ vs := by
  have len : σ2.length = σ.length := by rw [h.1, wipe_length]
  apply List.ext_getElem?
  intro i
  by_cases hi : i ∈ vs
  · by_cases hlt : i < σ.length
    · have a : (L2.wipe σ2 vs)[i]? = some none := by
        cases e : (L2.wipe σ2 vs)[i]? with
        | none => have := List.getElem?_eq_none_iff.mp e; rw [wipe_length, len] at this; omega
        | some o => cases o with
          | none => rfl
          | some x => exact absurd hi (wipe_some e).2
      have b : (L2.wipe σ vs)[i]? = some none := by
        cases e : (L2.wipe σ vs)[i]? with
        | none => have := List.getElem?_eq_none_iff.mp e; rw [wipe_length] at this; omega
        | some o => cases o with
          | none => rfl
          | some x => exact absurd hi (wipe_some e).2
      rw [a, b]
    · rw [List.getElem?_eq_none_iff.mpr (by rw [wipe_length, len]; omega), List.getElem?_eq_none_iff.mpr (by rw [wipe_length]; omega)]
  · rw [wipe_out hi, h.2 i (fun m => hi (hl i m)), wipe_out hi]
theorem Stp.new {H : Hp} {F P : AP1} {p : Addr} {o : HO} (h : H p = none) : Stp H F P (upd H p o) F P := (Fr.new h).stp P
/-- an object that is not own, not frozen, not known before, is written -/
theorem EnvR.upd {F : AP1} {H : Hp} {σ : L2.St} {ρ : Env} {fp : FPt} {p : Addr} {o : HO} (e : EnvR G F H σ ρ fp) (n1 : ¬ F p) (n2 : ¬ un fp p) (hm : ∀ u, H p = some u → ¬ Imm u) : EnvR G F (L2.upd H p o) σ ρ fp := by
  have k : ∀ a u, a ≠ p → H a = some u → L2.upd H p o a = some u := fun a u h1 h2 => by rw [upd_ne h1]; exact h2
  have s : Stq H F (L2.upd H p o) F := ⟨fun a u h f => k a u (fun z => n1 (by rw [← z]; exact f)) h, fun a u h m => k a u (fun z => hm u (by rw [← z]; exact h) m) h, fun _ f => f⟩
  refine ⟨fun i d z => ?_, fun i d z => ?_, e.dis, e.nf, fun i a z q => ?_, fun i a u z q => ?_, fun a f q => ?_, e.len⟩
  · obtain ⟨w, e1, e2⟩ := e.fz i d z
    exact ⟨w, e1, e2.mono s⟩
  · obtain ⟨w, e1, e2⟩ := e.ow i d z
    exact ⟨w, e1, e2.mono s fun a u h f => k a u (fun z => n2 ⟨i, by rw [← z]; exact f⟩) h⟩
  · by_cases hp : a = p
    · rw [hp, upd_same] at q; cases q
    · rw [upd_ne hp] at q; exact e.tr i a z q
  · by_cases hp : a = p
    · exact (n2 ⟨i, by rw [← hp]; exact z⟩).elim
    · rw [upd_ne hp] at q; exact e.ni i a u z q
  · by_cases hp : a = p
    · exact n1 (by rw [← hp]; exact f)
    · rw [upd_ne hp] at q; exact e.ft a f q
theorem FzA.snoc {F : AP1} {H : Hp} : ∀ {vs : List V} {ds : List IV} {v : V} {d : IV}, FzA G F H vs ds → Fz G F H v d → FzA G F H (vs ++ [v]) (ds ++ [d])
  | _, _, _, _, .nil, h => .cons h .nil
  | _, _, _, _, .cons a t, h => .cons a (FzA.snoc t h)
/-- what holds between the turns of a comprehension -/
structure LcW (G : Gx) (W : WX) (σ : L2.St) (H1 : Hp) (F1 : AP1) (fp1 : FPt) (ds : List IV) (t : TM) (ts : EB) (el : E) (own : List Nat) (Q : VK) (D : Addr) (i : Nat) (H : Hp) (ρ : Env) (F : AP1) (fp : FPt) (acc : List V) (xs : List IV) : Prop where
  stp : Stp H1 F1 (un fp1) H F (un fp)
  env : EnvR G F H σ ρ fp
  at_ : H D = some (.lst acc)
  nf : ¬ F D
  np : ¬ un fp D
  fz : FzA G F H acc xs
  len : acc.length ≤ i
  rest : OcO G W σ H1 F1 fp1 ((lcLoop t ts el own (ds.drop i) ρ).bind fun ys ρ' => .ok (.lst (xs ++ ys)) ρ') Q
theorem q_lc {M : EL} {t : TM} {ts : EB} {el : E} {own l : List Nat} (hl : ∀ i ∈ l, i ∈ own) : ∀ σ H Q, toOf G W (iLc M t ts el own) σ H Q → tLc (tiOf G W M) (tgOf G l t) (ttOf G W0 ts) (teOf G W0 el) own σ H Q := by
  rintro σ H Q ⟨ρ, F, fp, e, h⟩
  refine ocO_bind e h fun J ds ρ1 H1 F1 fp1 s1 e1 r1 h1 => ?_
  obtain ⟨feeds, hbig⟩ := r1
  intro D hD
  refine ⟨fun i m H => m = ds.length - i ∧ i ≤ ds.length ∧ ∃ ρ F fp acc xs, LcW G W σ H1 F1 fp1 ds t ts el own Q D i H ρ F fp acc xs, ⟨ds.length, rfl, Nat.zero_le _, ρ1, F1, fp1, [], [], ?_⟩, ?_⟩
  · exact ⟨Stp.new hD, e1.fr (Fr.new hD), upd_same, fun f => e1.ft D f hD, fun ⟨i, q⟩ => e1.tr i D q hD, .nil, Nat.le_refl _, h1⟩
  rintro i m H' ⟨rfl, hi, ρ, F, fp, acc, xs, w⟩
  have fd := feeds F H' (e1.stq w.stp)
  by_cases hlt : i < ds.length
  · obtain ⟨d, hd⟩ : ∃ d, ds[i]? = some d := ⟨ds[i], List.getElem?_eq_getElem hlt⟩
    obtain ⟨go, yl⟩ := fd.2 i d hd
    have hdrop : ds.drop i = d :: ds.drop (i + 1) := by
      rw [List.drop_eq_getElem_cons hlt]
      congr 1
      rw [List.getElem?_eq_getElem hlt] at hd
      exact Option.some.inj hd
    refine Or.inr ⟨go, fun H2 => i + 1 ≤ ds.length ∧ ∃ ρ F fp acc xs, LcW G W σ H1 F1 fp1 ds t ts el own Q D (i + 1) H2 ρ F fp acc xs, fun H2 q => ⟨ds.length - (i + 1), by omega, rfl, q⟩, ?_⟩
    intro x H2 y
    obtain ⟨F2, fr, fx⟩ := yl x H2 y
    have rest := w.rest
    rw [hdrop] at rest
    have e2 : EnvR G F2 H2 σ ρ fp := w.env.fr fr
    have D2 : H2 D = some (.lst acc) := fr.keep _ _ w.at_
    have nD2 : ¬ F2 D := fun f => by
      rcases fr.fnew D f with g | ⟨g, _⟩
      · exact w.nf g
      · rw [w.at_] at g; cases g
    have st2 : Stp H1 F1 (un fp1) H2 F2 (un fp) := w.stp.trans (fr.stp _)
    simp only [lcLoop] at rest
    refine ⟨wipeE ρ own, F2, fp, d, e2.wipe own, fx, ?_⟩
    cases ht : t d (wipeE ρ own) with
    | none => rw [ht] at rest; exact rest.elim
    | some ρa =>
      rw [ht] at rest
      intro σ2 fp2 e3 p3 so
      have hw := wipe_eq so hl
      refine ⟨hw, ρa, F2, fp2, e3, ?_⟩
      have st3 : Stp H1 F1 (un fp1) H2 F2 (un fp2) := ⟨st2.keep, st2.frm, st2.fnew, fun a z => st2.pnew a (p3 a z), st2.dom⟩
      have e3' : Stq H2 F2 H2 F2 := Stq.refl _ _
      cases hts : ts ρa with
      | no => simp only [hts] at rest; exact rest.elim
      | ex c p ρb => simp only [hts] at rest; exact rest.elim
      | ok b ρb =>
        simp only [hts] at rest
        intro b' H3 F3 fp3 s3 e4 rb
        obtain rfl : b' = b := rb
        have D3 : H3 D = some (.lst acc) := s3.keep _ _ D2 fun z => w.np (p3 D z)
        have nD3 : ¬ F3 D := fun f => by
          rcases s3.fnew D f with g | g | g
          · exact nD2 g
          · exact w.np (p3 D g)
          · rw [D2] at g; cases g
        have nP3 : ¬ un fp3 D := fun f => by
          rcases s3.pnew D f with g | g
          · exact w.np (p3 D g)
          · rw [D2] at g; cases g
        have st4 : Stp H1 F1 (un fp1) H3 F3 (un fp3) := st3.trans s3
        have q3 : Stq H' F H3 F3 := fr.stq.trans (e3.stq s3)
        cases b' with
        | false =>
          simp only [Bool.false_eq_true, if_false]
          refine ⟨by omega, restE ρ ρb own, F3, fp3, acc, xs, st4, e4.rest hw fun j dj z => ?_, D3, nD3, nP3, w.fz.mono q3, by have := w.len; omega, rest⟩
          obtain ⟨v, g1, g2⟩ := w.env.fz j dj z
          exact ⟨v, g1, g2.mono q3⟩
        | true =>
          simp only [if_true]
          refine ⟨ρb, F3, fp3, e4, ?_⟩
          cases hel : el ρb with
          | no => simp only [hel] at rest; exact rest.elim
          | ex c p ρc => simp only [hel] at rest; exact rest.elim
          | ok y ρc =>
            simp only [hel] at rest
            intro v H4 F4 fp4 s4 e5 fv
            have D4 : H4 D = some (.lst acc) := s4.keep _ _ D3 nP3
            have nD4 : ¬ F4 D := fun f => by
              rcases s4.fnew D f with g | g | g
              · exact nD3 g
              · exact nP3 g
              · rw [D3] at g; cases g
            have nP4 : ¬ un fp4 D := fun f => by
              rcases s4.pnew D f with g | g
              · exact nP3 g
              · rw [D3] at g; cases g
            have st5 : Stp H1 F1 (un fp1) H4 F4 (un fp4) := st4.trans s4
            have q4 : Stq H' F H4 F4 := q3.trans (e4.stq s4)
            have hal : acc.length < big := by have := w.len; omega
            have e6 : EnvR G F4 (upd H4 D (.lst (acc ++ [v]))) σ (restE ρ ρc own) fp4 := by
              refine EnvR.upd (e5.rest hw fun j dj z => ?_) nD4 nP4 fun u z => ?_
              · obtain ⟨v, g1, g2⟩ := w.env.fz j dj z
                exact ⟨v, g1, g2.mono q4⟩
              · rw [D4] at z; cases z; exact fun z => z
            have st6 : Stp H1 F1 (un fp1) (upd H4 D (.lst (acc ++ [v]))) F4 (un fp4) := by
              refine ⟨fun a o z n => ?_, st5.frm, st5.fnew, st5.pnew, fun a z => ?_⟩
              · have : a ≠ D := fun q => by rw [q, hD] at z; cases z
                rw [upd_ne this]; exact st5.keep a o z n
              · by_cases hp : a = D
                · rw [hp, upd_same] at z; cases z
                · rw [upd_ne hp] at z; exact st5.dom a z
            have q5 : Stq H4 F4 (upd H4 D (.lst (acc ++ [v]))) F4 := by
              refine ⟨fun a o z f => ?_, fun a o z mm => ?_, fun _ f => f⟩
              · rw [upd_ne (fun q => nD4 (by rw [← q]; exact f))]; exact z
              · rw [upd_ne (fun q => by rw [q, D4] at z; cases z; exact mm)]; exact z
            refine ⟨acc, D4, Nat.lt_of_lt_of_le hal big_line, by omega, restE ρ ρc own, F4, fp4, acc ++ [v], xs ++ [y], st6, e6, upd_same, nD4, nP4, (FzA.snoc (w.fz.mono q4) fv).mono q5, by rw [List.length_append, List.length_singleton]; have := w.len; omega, ?_⟩
            have hr : ((lcLoop t ts el own (ds.drop (i + 1)) (restE ρ ρc own)).bind fun ys ρ' => Rz.ok (y :: ys) ρ').bind (fun ys ρ' => Rz.ok (IV.lst (xs ++ ys)) ρ')
                = (lcLoop t ts el own (ds.drop (i + 1)) (restE ρ ρc own)).bind fun ys ρ' => Rz.ok (IV.lst (xs ++ [y] ++ ys)) ρ' := by
              cases lcLoop t ts el own (ds.drop (i + 1)) (restE ρ ρc own) with
              | ok a b => simp only [Rz.bind, List.append_assoc, List.singleton_append]
              | ex c p b => rfl
              | no => rfl
            rw [← hr]; exact rest
  · refine Or.inl ⟨fd.1 i (by omega), ?_⟩
    have rest := w.rest
    have hn : ds.drop i = [] := List.drop_eq_nil_iff.mpr (by omega)
    rw [hn] at rest
    have rest' : OcO G W σ H1 F1 fp1 (.ok (.lst (xs ++ [])) ρ) Q := rest
    rw [List.append_nil] at rest'
    refine rest' (.ref D) H' F fp (fun a => a = D) w.stp w.env (.lst w.at_ w.fz (by have := w.len; omega) fun _ => Iff.rfl) ⟨?_, ?_, ?_, ?_, ?_⟩
    · intro a z; rw [z]; exact hD
    · intro a z q; rw [z, w.at_] at q; cases q
    · intro a z; rw [z]; exact w.nf
    · intro a z; rw [z]; exact w.np
    · intro a o z q; rw [z, w.at_] at q; cases q; exact fun z => z
theorem Ok.blk (o : Ok X G W) {s : Shared} {H : Hp} {scope : Scope} {cenv : PySem.Env} {fp : List Addr} : Ok (X.blk s H scope cenv fp) G W0 := ⟨o.K, o.calm, takes0, o.hu, o.pw⟩
theorem o_lc (o : Ok X G W) {elt tg iter : Expr} {ifs : List Expr} {scope : Scope} {own : List (Str × Nat)} {pos : Pos} {M : EL} {t : TM} {l : List Nat} {ts : EB} {el : E} (hN : X.N.Nodup) (hi : PI X tg iter (tiOf G W M)) (ok : BlkOk X.N X.env.scope scope own)
    (hg : ∀ (s : Shared) (H : Hp) (C : Addr) (cl : List (Str × Addr)) (fp : List Addr), PG (X.blk s H scope (compEnvC scope cl C X.env) fp) tg (tgOf G l t)) (ht : ∀ (s : Shared) (H : Hp) (C : Addr) (cl : List (Str × Addr)) (fp : List Addr), PTs (X.blk s H scope (compEnvC scope cl C X.env) fp) ifs (ttOf G W0 ts))
    (he : ∀ (s : Shared) (H : Hp) (C : Addr) (cl : List (Str × Addr)) (fp : List Addr), PE (X.blk s H scope (compEnvC scope cl C X.env) fp) elt (teOf G W0 el)) (hl : ∀ i ∈ l, i ∈ own.map (·.2) := by decide) (hs : ∀ x, foldedSetIterable iter X.env x = pure x := by intro _; rfl) :
    PE X (.ListComp elt [⟨tg, iter, ifs, 0⟩] scope pos) (toOf G W (iLc M t ts el (own.map (·.2)))) := PE.imp (pe_lc o.calm hN hi ok hg ht he hs) (q_lc hl)
theorem PTs.imp {ifs : List Expr} {t t' : TT} (h : PTs X ifs t) (q : ∀ σ H Q, t' σ H Q → t σ H Q) : PTs X ifs t' := ⟨fun pins s σ H Q I w => h.run pins s σ H Q I (q _ _ _ w)⟩
theorem ts_nil : PTs X [] (ttOf G W iYes) := PTs.imp pts_nil fun σ H Q ⟨ρ, F, fp, e, h⟩ => oc_okR h e rfl
theorem ts_one {c : Expr} {t : EB} (h : PT X c (ttOf G W t)) : PTs X [c] (ttOf G W t) := pts_one h
end
end MR
set_option maxRecDepth 100000
set_option maxHeartbeats 4000000
/-! MirH: statements. -/
namespace MR
open PySem L2
inductive Fl where
  | nx (ρ : Env) | rt (d : IV) (ρ : Env) | ro (d : IV) (ρ : Env) | bk (ρ : Env) | ct (ρ : Env) | ex (c : String) (p : List (Str × IV)) (ρ : Env) | no
abbrev S := Env → Fl
def Pn (pin : List Nat) (σ σ' : L2.St) : Prop := σ'.length = σ.length ∧ ∀ i ∈ pin, σ'[i]? = σ[i]?
theorem Pn.refl (pin : List Nat) (σ : L2.St) : Pn pin σ σ := ⟨rfl, fun _ _ => rfl⟩
theorem Pn.trans {pin : List Nat} {a b c : L2.St} (h : Pn pin a b) (k : Pn pin b c) : Pn pin a c := ⟨k.1.trans h.1, fun i m => (k.2 i m).trans (h.2 i m)⟩
theorem SetOnly.pn {l pin : List Nat} {σ σ' : L2.St} (h : SetOnly l σ σ') (d : ∀ i ∈ pin, i ∉ l) : Pn pin σ σ' := ⟨h.1, fun i m => h.2 i (d i m)⟩
/-- own objects of a result: new ones, or ones that were own before -/
structure New2 (H : Hp) (P : AP1) (H' : Hp) (F' : AP1) (fp' : FPt) (q : AP1) : Prop where
  old : ∀ a, q a → P a ∨ H a = none
  tr : ∀ a, q a → H' a ≠ none
  nf : ∀ a, q a → ¬ F' a
  np : ∀ a, q a → ¬ un fp' a
  ni : ∀ a o, q a → H' a = some o → ¬ Imm o
theorem New2.step {H H1 H' : Hp} {F F1 F' : AP1} {P P1 : AP1} {fp' : FPt} {q : AP1} (s : Stp H F P H1 F1 P1) (n : New2 H1 P1 H' F' fp' q) : New2 H P H' F' fp' q :=
  ⟨fun a z => (n.old a z).elim (fun p => s.pnew a p) fun e => Or.inr (s.dom a e), n.tr, n.nf, n.np, n.ni⟩
theorem New1.to2 {H H' : Hp} {F' : AP1} {fp' : FPt} {q P : AP1} (n : New1 H H' F' fp' q) : New2 H P H' F' fp' q := ⟨fun a z => Or.inr (n.old a z), n.tr, n.nf, n.np, n.ni⟩
def OcS (G : Gx) (W : WX) (pin : List Nat) (σ : L2.St) (H : Hp) (F : AP1) (fp : FPt) (r : Fl) (D : Ends) : Prop := match r with
  | .nx ρ' => ∀ σ' H' F' fp', Stp H F (un fp) H' F' (un fp') → EnvR G F' H' σ' ρ' fp' → Pn pin σ σ' → D.nx σ' H'
  | .bk ρ' => ∀ σ' H' F' fp', Stp H F (un fp) H' F' (un fp') → EnvR G F' H' σ' ρ' fp' → Pn pin σ σ' → D.bk σ' H'
  | .ct ρ' => ∀ σ' H' F' fp', Stp H F (un fp) H' F' (un fp') → EnvR G F' H' σ' ρ' fp' → Pn pin σ σ' → D.ct σ' H'
  | .rt d ρ' => ∀ v σ' H' F' fp', Stp H F (un fp) H' F' (un fp') → EnvR G F' H' σ' ρ' fp' → Pn pin σ σ' → Fz G F' H' v d → D.rt v H'
  | .ro d ρ' => ∀ v σ' H' F' fp' q, Stp H F (un fp) H' F' (un fp') → EnvR G F' H' σ' ρ' fp' → Pn pin σ σ' → Own G F' H' v d q → New2 H (un fp) H' F' fp' q → D.rt v H'
  | .ex c p ρ' => ∀ d σ' H' F' fp', Stp H F (un fp) H' F' (un fp') → EnvR G F' H' σ' ρ' fp' → Pn pin σ σ' → ExD G F' H' d p → W (G.ecl c) d σ' H'
  | .no => False
def tsOf (G : Gx) (W : WX) (pin : List Nat) (m : S) : TS := fun D σ H => ∃ ρ F fp, EnvR G F H σ ρ fp ∧ OcS G W pin σ H F fp (m ρ) D
section
variable {X : Cx} {G : Gx} {W : WX} {pin : List Nat} {σ σ1 : L2.St} {H H1 : Hp} {F F1 : AP1} {fp fp1 : FPt} {ρ : Env} {D : Ends}
theorem OcS.step {r : Fl} (s : Stp H F (un fp) H1 F1 (un fp1)) (p : Pn pin σ σ1) (h : OcS G W pin σ H F fp r D) : OcS G W pin σ1 H1 F1 fp1 r D := by
  cases r with
  | nx ρ' => exact fun σ' H' F' fp' t e q => h σ' H' F' fp' (s.trans t) e (p.trans q)
  | bk ρ' => exact fun σ' H' F' fp' t e q => h σ' H' F' fp' (s.trans t) e (p.trans q)
  | ct ρ' => exact fun σ' H' F' fp' t e q => h σ' H' F' fp' (s.trans t) e (p.trans q)
  | rt d ρ' => exact fun v σ' H' F' fp' t e q r => h v σ' H' F' fp' (s.trans t) e (p.trans q) r
  | ro d ρ' => exact fun v σ' H' F' fp' qq t e q r n => h v σ' H' F' fp' qq (s.trans t) e (p.trans q) r (n.step s)
  | ex c pp ρ' => exact fun d σ' H' F' fp' t e q r => h d σ' H' F' fp' (s.trans t) e (p.trans q) r
  | no => exact h
def Rz.bindS {α : Type} (r : Rz α) (k : α → Env → Fl) : Fl := match r with
  | .ok a ρ => k a ρ
  | .ex c p ρ => .ex c p ρ
  | .no => .no
theorem ocS_bind {α β : Type} {R : Gx → L2.St → AP1 → Hp → β → α → Prop} {m : Env → Rz α} {k : α → Env → Fl} {P : β → Hp → Prop} (e : EnvR G F H σ ρ fp) (h : OcS G W pin σ H F fp ((m ρ).bindS k) D)
    (hk : ∀ x d ρ1 H1 F1 fp1, Stp H F (un fp) H1 F1 (un fp1) → EnvR G F1 H1 σ ρ1 fp1 → R G σ F1 H1 x d → OcS G W pin σ H1 F1 fp1 (k d ρ1) D → P x H1) : tOf R G W m σ H P := by
  refine ⟨ρ, F, fp, e, ?_⟩
  cases hm : m ρ with
  | ok d ρ1 =>
    rw [hm] at h
    exact fun v H' F' fp' t e' r => hk v d ρ1 H' F' fp' t e' r (OcS.step t (Pn.refl _ _) h)
  | ex c p ρ' => rw [hm] at h; exact fun d H' F' fp' t e' r => h d σ H' F' fp' t e' (Pn.refl _ _) r
  | no => rw [hm] at h; exact h
/-- .. where the result is own -/
theorem ocS_bindO {m : E} {k : IV → Env → Fl} {P : VK} (e : EnvR G F H σ ρ fp) (h : OcS G W pin σ H F fp ((m ρ).bindS k) D)
    (hk : ∀ x d ρ1 H1 F1 fp1 q, Stp H F (un fp) H1 F1 (un fp1) → EnvR G F1 H1 σ ρ1 fp1 → Own G F1 H1 x d q → New1 H H1 F1 fp1 q → OcS G W pin σ H F fp (k d ρ1) D → P x H1) : toOf G W m σ H P := by
  refine ⟨ρ, F, fp, e, ?_⟩
  cases hm : m ρ with
  | ok d ρ1 =>
    rw [hm] at h
    exact fun v H' F' fp' q t e' r n => hk v d ρ1 H' F' fp' q t e' r n h
  | ex c p ρ' => rw [hm] at h; exact fun d H' F' fp' t e' r => h d σ H' F' fp' t e' (Pn.refl _ _) r
  | no => rw [hm] at h; exact h
theorem PS.imp {st : Stmt} {t t' : TS} (h : PS X st t) (q : ∀ D σ H, t' D σ H → t D σ H) : PS X st t' := ⟨fun pins s σ H D I w => h.run pins s σ H D I (q _ _ _ w)⟩
theorem PSs.imp {st : List Stmt} {t t' : TS} (h : PSs X st t) (q : ∀ D σ H, t' D σ H → t D σ H) : PSs X st t' := ⟨fun pins s σ H D I w => h.run pins s σ H D I (q _ _ _ w)⟩
/-! ### blocks -/
def sNx : S := fun ρ => .nx ρ
def sSeq (a b : S) : S := fun ρ => match a ρ with
  | .nx ρ' => b ρ'
  | r => r
theorem q_nx : ∀ D σ H, tsOf G W pin sNx D σ H → tNext D σ H := by
  rintro D σ H ⟨ρ, F, fp, e, h⟩
  exact h σ H F fp (Stp.refl _ _ _) e (Pn.refl _ _)
theorem q_seqS {a b : S} : ∀ D σ H, tsOf G W pin (sSeq a b) D σ H → tSeq (tsOf G W pin a) (tsOf G W pin b) D σ H := by
  rintro D σ H ⟨ρ, F, fp, e, h⟩
  refine ⟨ρ, F, fp, e, ?_⟩
  unfold sSeq at h
  cases ha : a ρ with
  | nx ρ' =>
    rw [ha] at h
    exact fun σ' H' F' fp' t e' p => ⟨ρ', F', fp', e', OcS.step t p h⟩
  | _ => rw [ha] at h; exact h
theorem b_nil : PSs X [] (tsOf G W pin sNx) := PSs.imp pss_nil q_nx
theorem b_one {st : Stmt} {a : S} (h : PS X st (tsOf G W pin a)) : PSs X [st] (tsOf G W pin a) := pss_one h
theorem b_cons {st : Stmt} {rest : List Stmt} {a b : S} (h : PS X st (tsOf G W pin a)) (k : PSs X rest (tsOf G W pin b)) : PSs X (st :: rest) (tsOf G W pin (sSeq a b)) := PSs.imp (pss_cons h k) q_seqS
/-- a way that is not gone -/
def sNo : S := fun _ => .no
/-! ### stores -/
/-- x = e, e a value for all -/
def sSet (i : Nat) (m : E) : S := fun ρ => (m ρ).bindS fun d ρ1 => .nx (ρ1.set i (.fz d))
theorem q_set {i : Nat} {m : E} (hp : i ∉ pin) : ∀ D σ H, tsOf G W pin (sSet i m) D σ H → tAsg (teOf G W m) (gName i) D σ H := by
  rintro D σ H ⟨ρ, F, fp, e, h⟩
  refine ocS_bind e h fun x d ρ1 H1 F1 fp1 s1 e1 r1 h1 => ?_
  exact h1 _ H1 F1 fp1 (Stp.refl _ _ _) (e1.setFz r1) ((SetOnly.set i σ (some x)).pn fun j m z => hp (by rw [List.mem_singleton] at z; rw [← z]; exact m))
theorem s_set (i : Nat) {x : Str} {e : Expr} {m : E} {pos' pos : Pos} (hN : X.N.Nodup) (he : PE X e (teOf G W m)) (hi : X.N[i]? = some x := by rfl) (hx : Loc X.env.scope x := by first | exact Or.inl rfl | exact Or.inr rfl) (hp : i ∉ pin := by decide)
    (hs : swapsWith e (some (.Name x pos')) pos.line X.env = pure false := by rfl) (hf : X.fn x = true ∨ X.env.scope.names.lookup x = some .local := by first | exact .inl rfl | exact .inr rfl) : PS X (.Assign [.Name x pos'] e pos) (tsOf G W pin (sSet i m)) :=
  PS.imp (ps_set hN hi hx he hs hf) (q_set hp)
/-- x = e, e new: x's own -/
def sSetO (i : Nat) (m : E) : S := fun ρ => (m ρ).bindS fun d ρ1 => .nx (ρ1.set i (.ow d))
theorem EnvR.setOw {F : AP1} {H H0 : Hp} {σ : L2.St} {ρ : Env} {fp : FPt} {i : Nat} {v : V} {d : IV} {q : AP1} (e : EnvR G F H σ ρ fp) (r : Own G F H v d q) (n : New1 H0 H F fp q) : EnvR G F H (σ.set i (some v)) (ρ.set i (.ow d)) (fun j => if j = i then q else fp j) := by
  have fpi : ∀ j a, (if j = i then q else fp j) a → (j = i ∧ q a) ∨ (j ≠ i ∧ fp j a) := fun j a h => by
    by_cases hj : j = i
    · rw [if_pos hj] at h; exact Or.inl ⟨hj, h⟩
    · rw [if_neg hj] at h; exact Or.inr ⟨hj, h⟩
  refine ⟨fun j d' z => ?_, fun j d' z => ?_, fun j k a h1 h2 => ?_, fun j a h => ?_, fun j a h => ?_, fun j a o h => ?_, e.ft, by rw [List.length_set, List.length_set]; exact e.len⟩
  · rcases get_set z with ⟨rfl, z1, hl⟩ | ⟨hj, z⟩
    · cases z1
    · obtain ⟨w, e1, e2⟩ := e.fz j d' z
      exact ⟨w, by rw [List.getElem?_set_ne (Ne.symm hj)]; exact e1, e2⟩
  · rcases get_set z with ⟨rfl, z1, hl⟩ | ⟨hj, z⟩
    · cases z1
      exact ⟨v, List.getElem?_set_self (by rw [← e.len]; exact hl), by rw [if_pos rfl]; exact r⟩
    · obtain ⟨w, e1, e2⟩ := e.ow j d' z
      exact ⟨w, by rw [List.getElem?_set_ne (Ne.symm hj)]; exact e1, by rw [if_neg hj]; exact e2⟩
  · rcases fpi j a h1 with ⟨rfl, g⟩ | ⟨g1, g2⟩
    · rcases fpi k a h2 with ⟨rfl, _⟩ | ⟨_, g3⟩
      · rfl
      · exact (n.np a g ⟨_, g3⟩).elim
    · rcases fpi k a h2 with ⟨rfl, g3⟩ | ⟨_, g3⟩
      · exact (n.np a g3 ⟨_, g2⟩).elim
      · exact e.dis j k a g2 g3
  · rcases fpi j a h with ⟨_, g⟩ | ⟨_, g⟩
    · exact n.nf a g
    · exact e.nf j a g
  · rcases fpi j a h with ⟨_, g⟩ | ⟨_, g⟩
    · exact n.tr a g
    · exact e.tr j a g
  · rcases fpi j a h with ⟨_, g⟩ | ⟨_, g⟩
    · exact n.ni a o g
    · exact e.ni j a o g
theorem Stp.setOw {H H1 : Hp} {F F1 : AP1} {P : AP1} {fp1 : FPt} {i : Nat} {q : AP1} (s : Stp H F P H1 F1 (un fp1)) (n : ∀ a, q a → H a = none) : Stp H F P H1 F1 (un fun j => if j = i then q else fp1 j) :=
  ⟨s.keep, s.frm, s.fnew, fun a ⟨j, h⟩ => by
    have h' : (if j = i then q else fp1 j) a := h
    by_cases hj : j = i
    · rw [if_pos hj] at h'; exact Or.inr (n a h')
    · rw [if_neg hj] at h'; exact s.pnew a ⟨j, h'⟩, s.dom⟩
theorem q_setO {i : Nat} {m : E} (hp : i ∉ pin) : ∀ D σ H, tsOf G W pin (sSetO i m) D σ H → tAsg (toOf G W m) (gName i) D σ H := by
  rintro D σ H ⟨ρ, F, fp, e, h⟩
  refine ocS_bindO e h fun x d ρ1 H1 F1 fp1 q s1 e1 r1 n1 h1 => ?_
  exact h1 _ H1 F1 _ (s1.setOw n1.old) (e1.setOw r1 n1) ((SetOnly.set i σ (some x)).pn fun j m z => hp (by rw [List.mem_singleton] at z; rw [← z]; exact m))
theorem s_setO (i : Nat) {x : Str} {e : Expr} {m : E} {pos' pos : Pos} (hN : X.N.Nodup) (he : PE X e (toOf G W m)) (hi : X.N[i]? = some x := by rfl) (hx : Loc X.env.scope x := by first | exact Or.inl rfl | exact Or.inr rfl) (hp : i ∉ pin := by decide)
    (hs : swapsWith e (some (.Name x pos')) pos.line X.env = pure false := by rfl) (hf : X.fn x = true ∨ X.env.scope.names.lookup x = some .local := by first | exact .inl rfl | exact .inr rfl) : PS X (.Assign [.Name x pos'] e pos) (tsOf G W pin (sSetO i m)) :=
  PS.imp (ps_set hN hi hx he hs hf) (q_setO hp)
/-- target = e -/
def sAsg (t : TM) (m : E) : S := fun ρ => (m ρ).bindS fun d ρ1 => match t d ρ1 with
  | some ρ2 => .nx ρ2
  | none => .no
theorem q_asg {l : List Nat} {t : TM} {m : E} (hp : ∀ i ∈ pin, i ∉ l) : ∀ D σ H, tsOf G W pin (sAsg t m) D σ H → tAsg (teOf G W m) (tgOf G l t) D σ H := by
  rintro D σ H ⟨ρ, F, fp, e, h⟩
  refine ocS_bind e h fun x d ρ1 H1 F1 fp1 s1 e1 r1 h1 => ?_
  refine ⟨ρ1, F1, fp1, d, e1, r1, ?_⟩
  cases ht : t d ρ1 with
  | none => rw [ht] at h1; exact h1.elim
  | some ρ2 =>
    rw [ht] at h1
    exact fun σ' fp' e' p' so => h1 σ' H1 F1 fp' ⟨fun _ _ z _ => z, fun _ z => z, fun _ z => Or.inl z, fun a z => Or.inl (p' a z), fun _ z => z⟩ e' (so.pn hp)
theorem s_asg {tg e : Expr} {l : List Nat} {t : TM} {m : E} {pos : Pos} (he : PE X e (teOf G W m)) (hg : PG X tg (tgOf G l t)) (hp : ∀ i ∈ pin, i ∉ l := by decide) (hs : swapsWithSole [tg] e pos.line X.env = pure false := by rfl) (hw : swappedStores [tg] e X.env = pure none := by rfl)
    (h1 : (assignEach [tg] X.env).map (·.2) = [assign tg X.env] := by rfl) : PS X (.Assign [tg] e pos) (tsOf G W pin (sAsg t m)) := PS.imp (ps_asg he hg hs hw h1) (q_asg hp)
/-! ### if, return, an expression -/
def sIf (c : EB) (a b : S) : S := fun ρ => (c ρ).bindS fun k ρ1 => if k = true then a ρ1 else b ρ1
theorem q_ifS {c : EB} {a b : S} : ∀ D σ H, tsOf G W pin (sIf c a b) D σ H → tIfS (ttOf G W c) (tsOf G W pin a) (tsOf G W pin b) D σ H := by
  rintro D σ H ⟨ρ, F, fp, e, h⟩
  refine ocS_bind e h fun x d ρ1 H1 F1 fp1 s1 e1 r1 h1 => ?_
  obtain rfl : x = d := r1
  cases x with
  | true => exact ⟨ρ1, F1, fp1, e1, h1⟩
  | false => exact ⟨ρ1, F1, fp1, e1, h1⟩
theorem s_if {c : Expr} {a b : List Stmt} {C : EB} {A B : S} {pos : Pos} (hc : PT X c (ttOf G W C)) (ha : PSs X a (tsOf G W pin A)) (hb : PSs X b (tsOf G W pin B)) : PS X (.If c a b pos) (tsOf G W pin (sIf C A B)) := PS.imp (ps_if hc ha hb) q_ifS
def sRet (m : E) : S := fun ρ => (m ρ).bindS fun d ρ1 => .rt d ρ1
theorem q_ret {m : E} : ∀ D σ H, tsOf G W pin (sRet m) D σ H → tRet (teOf G W m) D σ H := by
  rintro D σ H ⟨ρ, F, fp, e, h⟩
  exact ocS_bind e h fun x d ρ1 H1 F1 fp1 s1 e1 r1 h1 => h1 x σ H1 F1 fp1 (Stp.refl _ _ _) e1 (Pn.refl _ _) r1
theorem s_ret {e : Expr} {m : E} {pos : Pos} (he : PE X e (teOf G W m)) : PS X (.Return (some e) pos) (tsOf G W pin (sRet m)) := PS.imp (ps_ret he) q_ret
def sDrop (m : E) : S := fun ρ => (m ρ).bindS fun _ ρ1 => .nx ρ1
theorem q_drop {m : E} : ∀ D σ H, tsOf G W pin (sDrop m) D σ H → tDrop (teOf G W m) D σ H := by
  rintro D σ H ⟨ρ, F, fp, e, h⟩
  exact ocS_bind e h fun x d ρ1 H1 F1 fp1 s1 e1 r1 h1 => h1 σ H1 F1 fp1 (Stp.refl _ _ _) e1 (Pn.refl _ _)
theorem s_expr {e : Expr} {m : E} {pos : Pos} (he : PE X e (teOf G W m)) (hs : swapsWith e none pos.line X.env = pure false := by rfl) : PS X (.Expr e pos) (tsOf G W pin (sDrop m)) := PS.imp (ps_expr he hs) q_drop
/-! ### for -/
def forLoop (t : TM) (body : S) : List IV → Env → Fl
  | [], ρ => .nx ρ
  | d :: ds, ρ => match t d ρ with
    | none => .no
    | some ρa => match body ρa with
      | .nx ρ' => forLoop t body ds ρ'
      | .ct ρ' => forLoop t body ds ρ'
      | .bk ρ' => .nx ρ'
      | r => r
def sFor (M : EL) (t : TM) (body : S) : S := fun ρ => (M ρ).bindS fun ds ρ1 => forLoop t body ds ρ1
theorem q_for {M : EL} {l : List Nat} {t : TM} {body : S} (hp : ∀ i ∈ pin, i ∉ l) : ∀ D σ H, tsOf G W pin (sFor M t body) D σ H → tFor (tiOf G W M) (tgOf G l t) (tsOf G W pin body) D σ H := by
  rintro D σ H ⟨ρ, F, fp, e, h⟩
  refine ocS_bind e h fun J ds ρ1 H1 F1 fp1 s1 e1 r1 h1 => ?_
  obtain ⟨feeds, hbig⟩ := r1
  refine ⟨fun i m σ' H' => m = ds.length - i ∧ i ≤ ds.length ∧ ∃ ρ F fp, Stp H1 F1 (un fp1) H' F (un fp) ∧ EnvR G F H' σ' ρ fp ∧ Pn pin σ σ' ∧ OcS G W pin σ H1 F1 fp1 (forLoop t body (ds.drop i) ρ) D,
    ⟨ds.length, rfl, Nat.zero_le _, ρ1, F1, fp1, Stp.refl _ _ _, e1, Pn.refl _ _, h1⟩, ?_⟩
  rintro i m σ' H' ⟨rfl, hi, ρ, F, fp, st, en, pn, w⟩
  have fd := feeds F H' (e1.stq st)
  by_cases hlt : i < ds.length
  · obtain ⟨d, hd⟩ : ∃ d, ds[i]? = some d := ⟨ds[i], List.getElem?_eq_getElem hlt⟩
    obtain ⟨go, yl⟩ := fd.2 i d hd
    have hdrop : ds.drop i = d :: ds.drop (i + 1) := by
      rw [List.drop_eq_getElem_cons hlt]
      congr 1
      rw [List.getElem?_eq_getElem hlt] at hd
      exact Option.some.inj hd
    refine Or.inr ⟨go, fun σ2 H2 => i + 1 ≤ ds.length ∧ ∃ ρ F fp, Stp H1 F1 (un fp1) H2 F (un fp) ∧ EnvR G F H2 σ2 ρ fp ∧ Pn pin σ σ2 ∧ OcS G W pin σ H1 F1 fp1 (forLoop t body (ds.drop (i + 1)) ρ) D,
      fun σ2 H2 q => ⟨ds.length - (i + 1), by omega, rfl, q⟩, ?_⟩
    intro x H2 y
    obtain ⟨F2, fr, fx⟩ := yl x H2 y
    rw [hdrop] at w
    simp only [forLoop] at w
    have e2 : EnvR G F2 H2 σ' ρ fp := en.fr fr
    have st2 : Stp H1 F1 (un fp1) H2 F2 (un fp) := st.trans (fr.stp _)
    refine ⟨ρ, F2, fp, d, e2, fx, ?_⟩
    cases ht : t d ρ with
    | none => rw [ht] at w; exact w.elim
    | some ρa =>
      rw [ht] at w
      intro σ2 fp2 e3 p3 so
      have st3 : Stp H1 F1 (un fp1) H2 F2 (un fp2) := ⟨st2.keep, st2.frm, st2.fnew, fun a z => st2.pnew a (p3 a z), st2.dom⟩
      have pn3 : Pn pin σ σ2 := pn.trans (so.pn hp)
      refine ⟨ρa, F2, fp2, e3, ?_⟩
      cases hb : body ρa with
      | nx ρ' =>
        simp only [hb] at w
        exact fun σ3 H3 F3 fp3 t3 e4 q3 => ⟨by omega, ρ', F3, fp3, st3.trans t3, e4, pn3.trans q3, w⟩
      | ct ρ' =>
        simp only [hb] at w
        exact fun σ3 H3 F3 fp3 t3 e4 q3 => ⟨by omega, ρ', F3, fp3, st3.trans t3, e4, pn3.trans q3, w⟩
      | bk ρ' =>
        simp only [hb] at w
        exact fun σ3 H3 F3 fp3 t3 e4 q3 => w σ3 H3 F3 fp3 (st3.trans t3) e4 (pn3.trans q3)
      | rt d' ρ' =>
        simp only [hb] at w
        exact fun v σ3 H3 F3 fp3 t3 e4 q3 r => w v σ3 H3 F3 fp3 (st3.trans t3) e4 (pn3.trans q3) r
      | ro d' ρ' =>
        simp only [hb] at w
        exact fun v σ3 H3 F3 fp3 qq t3 e4 q3 r n => w v σ3 H3 F3 fp3 qq (st3.trans t3) e4 (pn3.trans q3) r (n.step st3)
      | ex c p ρ' =>
        simp only [hb] at w
        exact fun v σ3 H3 F3 fp3 t3 e4 q3 r => w v σ3 H3 F3 fp3 (st3.trans t3) e4 (pn3.trans q3) r
      | no => simp only [hb] at w; exact w
  · refine Or.inl ⟨fd.1 i (by omega), ?_⟩
    have hn : ds.drop i = [] := List.drop_eq_nil_iff.mpr (by omega)
    rw [hn] at w
    exact w σ' H' F fp st en pn
theorem s_for (o : Ok X G W) (hpa : PassesOwn (model X.prog X.w) X.A X.env X.xe) {tg iter : Expr} {body : List Stmt} {M : EL} {l : List Nat} {t : TM} {B : S} {pos : Pos} (hi : PI X tg iter (tiOf G W M)) (hg : PG X tg (tgOf G l t)) (hb : PSs X body (tsOf G W pin B)) (hp : ∀ i ∈ pin, i ∉ l := by decide)
    (hs : ∀ x, foldedSetIterable iter X.env x = pure x := by intro _; rfl) : PS X (.For tg iter body [] pos) (tsOf G W pin (sFor M t B)) := PS.imp (ps_for hpa o.calm hi hg hb hs) (q_for hp)
/-! ### while -/
end
end MR
set_option maxRecDepth 100000
set_option maxHeartbeats 4000000
/-! MirI: defs and their calls. -/
namespace MR
open PySem L2
inductive Rf where
  | ok (v : IV) (outs : List IV) | ex (c : String) (p : List (Str × IV)) (outs : List IV) | no
abbrev Fn := List IV → Rf
/-- the slots at a def's entry: lent ones are own -/
def envOf : List Bool → List IV → Env
  | true :: ks, d :: ds => .ow d :: envOf ks ds
  | false :: ks, d :: ds => .fz d :: envOf ks ds
  | _, _ => []
/-- .. behind it: outs, the lent ones' values -/
def envOut : List Bool → List IV → Env
  | true :: ks, d :: ds => .ow d :: envOut ks ds
  | false :: ks, ds => .un :: envOut ks ds
  | _, _ => []
def spOf (G : Gx) (ks : List Bool) (f : Fn) : Sp := fun vs H Q E => vs.length = ks.length ∧ ∃ ds F fp, ds.length = ks.length ∧ EnvR G F H (vs.map some) (envOf ks ds) fp ∧ (match f ds with
  | .ok d outs => ∀ v H' F' fp', Stp H F (un fp) H' F' (un fp') → EnvR G F' H' (vs.map some) (envOut ks outs) fp' → Fz G F' H' v d → Q v H'
  | .ex c p outs => ∀ d H' F' fp', Stp H F (un fp) H' F' (un fp') → EnvR G F' H' (vs.map some) (envOut ks outs) fp' → ExD G F' H' d p → E (G.ecl c) d H'
  | .no => False)
/-- the lent slots' values at the end -/
def outsOf : List Bool → Env → Option (List IV)
  | [], _ => some []
  | true :: ks, .ow d :: ρ => (outsOf ks ρ).map (d :: ·)
  | false :: ks, _ :: ρ => outsOf ks ρ
  | _, _ => none
def fnOf (n : Nat) (ks : List Bool) (body : S) : Fn := fun ds => match body (envOf ks ds ++ List.replicate (n - ks.length) .un) with
  | .rt d ρ => match outsOf ks ρ with
    | some outs => .ok d outs
    | none => .no
  | .nx ρ => match outsOf ks ρ with
    | some outs => .ok .non outs
    | none => .no
  | .ex c p ρ => match outsOf ks ρ with
    | some outs => .ex c p outs
    | none => .no
  | _ => .no
/-- the lent parameters' places -/
def pinOf : List Bool → Nat → List Nat
  | [], _ => []
  | true :: ks, i => i :: pinOf ks (i + 1)
  | false :: ks, i => pinOf ks (i + 1)
theorem pinOf_mem : ∀ {ks : List Bool} {i j : Nat}, j ∈ pinOf ks i ↔ ∃ k, j = i + k ∧ ks[k]? = some true
  | [], i, j => ⟨fun h => (by cases h), fun ⟨k, _, h⟩ => by simp at h⟩
  | true :: ks, i, j => by
    simp only [pinOf, List.mem_cons]
    constructor
    · rintro (h | h)
      · exact ⟨0, by omega, rfl⟩
      · obtain ⟨k, e, h⟩ := pinOf_mem.mp h
        exact ⟨k + 1, by omega, by simpa using h⟩
    · rintro ⟨k, e, h⟩
      cases k with
      | zero => exact Or.inl (by omega)
      | succ k => exact Or.inr (pinOf_mem.mpr ⟨k, by omega, by simpa using h⟩)
  | false :: ks, i, j => by
    simp only [pinOf]
    constructor
    · intro h
      obtain ⟨k, e, h⟩ := pinOf_mem.mp h
      exact ⟨k + 1, by omega, by simpa using h⟩
    · rintro ⟨k, e, h⟩
      cases k with
      | zero => simp at h
      | succ k => exact pinOf_mem.mpr ⟨k, by omega, by simpa using h⟩
theorem envOf_len : ∀ (ks : List Bool) (ds : List IV), ds.length = ks.length → (envOf ks ds).length = ks.length
  | [], [], _ => rfl
  | true :: ks, d :: ds, h => by simp only [envOf, List.length_cons]; rw [envOf_len ks ds (by simpa using h)]
  | false :: ks, d :: ds, h => by simp only [envOf, List.length_cons]; rw [envOf_len ks ds (by simpa using h)]
  | _ :: _, [], h => by simp at h
  | [], _ :: _, h => by simp at h
/-- the outs are told by the lent slots -/
theorem outs_get : ∀ {ks : List Bool} {ρ : Env} {outs : List IV}, outsOf ks ρ = some outs → (envOut ks outs).length = ks.length ∧
    ∀ (j : Nat) x, (envOut ks outs)[j]? = some x → x = .un ∨ (ks[j]? = some true ∧ ρ[j]? = some x)
  | [], ρ, outs, h => by cases h; exact ⟨rfl, fun j x e => by simp [envOut] at e⟩
  | true :: ks, [], outs, h => by simp [outsOf] at h
  | true :: ks, .un :: ρ, outs, h => by simp [outsOf] at h
  | true :: ks, .fz d :: ρ, outs, h => by simp [outsOf] at h
  | true :: ks, .ow d :: ρ, outs, h => by
    simp only [outsOf, Option.map_eq_some_iff] at h
    obtain ⟨o, h, rfl⟩ := h
    obtain ⟨h1, h2⟩ := outs_get h
    refine ⟨by simp only [envOut, List.length_cons, h1], fun j x e => ?_⟩
    cases j with
    | zero => simp only [envOut, List.getElem?_cons_zero, Option.some.injEq] at e; subst e; exact Or.inr ⟨rfl, rfl⟩
    | succ j =>
      simp only [envOut, List.getElem?_cons_succ] at e
      simpa using h2 j x e
  | false :: ks, [], outs, h => by simp [outsOf] at h
  | false :: ks, y :: ρ, outs, h => by
    simp only [outsOf] at h
    obtain ⟨h1, h2⟩ := outs_get h
    refine ⟨by simp only [envOut, List.length_cons, h1], fun j x e => ?_⟩
    cases j with
    | zero => simp only [envOut, List.getElem?_cons_zero, Option.some.injEq] at e; exact Or.inl e.symm
    | succ j =>
      simp only [envOut, List.getElem?_cons_succ] at e
      simpa using h2 j x e
section
variable {G : Gx} {F : AP1} {H : Hp}
/-- behind a body: the parameters' slots, the lent ones' values -/
theorem EnvR.outs {σ : L2.St} {ρ : Env} {fp : FPt} {ks : List Bool} {outs : List IV} {vs : List V} {N : List Str} (e : EnvR G F H σ ρ fp) (ho : outsOf ks ρ = some outs) (hv : vs.length = ks.length)
    (hp : ∀ (j : Nat), ks[j]? = some true → σ[j]? = (vs.map some)[j]?) : EnvR G F H (vs.map some) (envOut ks outs) fp := by
  obtain ⟨h1, h2⟩ := outs_get ho
  refine ⟨fun j d z => ?_, fun j d z => ?_, e.dis, e.nf, e.tr, e.ni, e.ft, by rw [h1, List.length_map, hv]⟩
  · rcases h2 j _ z with z | ⟨k, z⟩
    · cases z
    · obtain ⟨v, e1, e2⟩ := e.fz j d z
      exact ⟨v, by rw [← hp j k]; exact e1, e2⟩
  · rcases h2 j _ z with z | ⟨k, z⟩
    · cases z
    · obtain ⟨v, e1, e2⟩ := e.ow j d z
      exact ⟨v, by rw [← hp j k]; exact e1, e2⟩
theorem app_un {a : Env} {n j : Nat} {x : Sl} (h : (a ++ List.replicate n Sl.un)[j]? = some x) : a[j]? = some x ∨ x = .un := by
  by_cases hj : j < a.length
  · rw [List.getElem?_append_left hj] at h
    exact Or.inl h
  · rw [List.getElem?_append_right (by omega)] at h
    have := List.mem_of_getElem? h
    exact Or.inr (List.eq_of_mem_replicate this)
theorem EnvR.start {vs : List V} {ks : List Bool} {ds : List IV} {fp : FPt} {N : List Str} (e : EnvR G F H (vs.map some) (envOf ks ds) fp) (hv : vs.length = ks.length) :
    EnvR G F H (L2.start N vs) (envOf ks ds ++ List.replicate (N.length - ks.length) .un) fp := by
  have hl : (envOf ks ds).length = (vs.map some).length := e.len
  have left : ∀ (j : Nat) v, (vs.map some)[j]? = some (some v) → (L2.start N vs)[j]? = some (some v) := fun j v h => by
    unfold L2.start
    rw [List.getElem?_append_left (List.getElem?_eq_some_iff.mp h).1]
    exact h
  refine ⟨fun j d z => ?_, fun j d z => ?_, e.dis, e.nf, e.tr, e.ni, e.ft, ?_⟩
  · rcases app_un z with z | z
    · obtain ⟨v, e1, e2⟩ := e.fz j d z
      exact ⟨v, left j v e1, e2⟩
    · cases z
  · rcases app_un z with z | z
    · obtain ⟨v, e1, e2⟩ := e.ow j d z
      exact ⟨v, left j v e1, e2⟩
    · cases z
  · unfold L2.start
    rw [List.length_append, List.length_append, hl, List.length_replicate, List.length_replicate, hv]
/-- a def's body keeps its mirror's promise -/
theorem fn_body {vs : List V} {Q : VK} {E : XK} {ks : List Bool} {body : S} {N : List Str} (hks : ks.length ≤ N.length) (h : spOf G ks (fnOf N.length ks body) vs H Q E) :
    tsOf G (fun cls d _ H => E cls d H) (pinOf ks 0) body { nx := fun _ H' => Q .non H', rt := Q } (L2.start N vs) H := by
  obtain ⟨hv, ds, F, fp, hd, e, h⟩ := h
  refine ⟨_, F, fp, e.start hv, ?_⟩
  have pinS : ∀ σ' : L2.St, Pn (pinOf ks 0) (L2.start N vs) σ' → ∀ (j : Nat), ks[j]? = some true → σ'[j]? = (vs.map some)[j]? := fun σ' p j k => by
    have hj : j < ks.length := (List.getElem?_eq_some_iff.mp k).1
    rw [p.2 j (pinOf_mem.mpr ⟨j, by omega, k⟩)]
    unfold L2.start
    rw [List.getElem?_append_left (by rw [List.length_map, hv]; exact hj)]
  unfold fnOf at h
  cases hb : body (envOf ks ds ++ List.replicate (N.length - ks.length) Sl.un) with
  | nx ρ =>
    rw [hb] at h
    dsimp only at h
    cases ho : outsOf ks ρ with
    | none => rw [ho] at h; exact h.elim
    | some outs =>
      rw [ho] at h
      exact fun σ' H' F' fp' s e' p => h .non H' F' fp' s (e'.outs (N := N) ho hv (pinS σ' p)) .non
  | rt d ρ =>
    rw [hb] at h
    dsimp only at h
    cases ho : outsOf ks ρ with
    | none => rw [ho] at h; exact h.elim
    | some outs =>
      rw [ho] at h
      exact fun v σ' H' F' fp' s e' p r => h v H' F' fp' s (e'.outs (N := N) ho hv (pinS σ' p)) r
  | ex c p ρ =>
    rw [hb] at h
    dsimp only at h
    cases ho : outsOf ks ρ with
    | none => rw [ho] at h; exact h.elim
    | some outs =>
      rw [ho] at h
      exact fun d σ' H' F' fp' s e' p r => h d H' F' fp' s (e'.outs (N := N) ho hv (pinS σ' p)) r
  | ro d ρ => rw [hb] at h; exact h.elim
  | bk ρ => rw [hb] at h; exact h.elim
  | ct ρ => rw [hb] at h; exact h.elim
  | no => rw [hb] at h; exact h.elim
end
section
variable {P : Program} {w : World} {K : Frag} {mg : Str → Option Value} {base : Heap}
end
end MR
set_option maxRecDepth 100000
set_option maxHeartbeats 4000000
/-! MirJ: calls of defs. -/
namespace MR
open PySem L2
/-- an argument: a value, or a slot that is lent -/
inductive Av where
  | v (d : IV) | s (i : Nat)
def RAv (G : Gx) (σ : L2.St) (F : AP1) (H : Hp) (v : V) : Av → Prop
  | .v d => Fz G F H v d
  | .s i => σ[i]? = some (some v)
inductive RAs (G : Gx) (σ : L2.St) (F : AP1) (H : Hp) : List V → List Av → Prop
  | nil : RAs G σ F H [] []
  | cons {v : V} {vs : List V} {a : Av} {as : List Av} : RAv G σ F H v a → RAs G σ F H vs as → RAs G σ F H (v :: vs) (a :: as)
theorem RAv.mono {G : Gx} {σ : L2.St} {F F' : AP1} {H H' : Hp} (q : Stq H F H' F') {v : V} {a : Av} (h : RAv G σ F H v a) : RAv G σ F' H' v a := by
  cases a with
  | v d => exact Fz.mono q h
  | s i => exact h
theorem RAs.mono {G : Gx} {σ : L2.St} {F F' : AP1} {H H' : Hp} (q : Stq H F H' F') : ∀ {vs : List V} {as : List Av}, RAs G σ F H vs as → RAs G σ F' H' vs as
  | _, _, .nil => .nil
  | _, _, .cons h t => .cons (h.mono q) (RAs.mono q t)
theorem RAs.len {G : Gx} {σ : L2.St} {F : AP1} {H : Hp} : ∀ {vs : List V} {as : List Av}, RAs G σ F H vs as → vs.length = as.length
  | _, _, .nil => rfl
  | _, _, .cons _ t => by rw [List.length_cons, List.length_cons, RAs.len t]
theorem RAs.get {G : Gx} {σ : L2.St} {F : AP1} {H : Hp} : ∀ {vs : List V} {as : List Av} {j : Nat} {v : V} {a : Av}, RAs G σ F H vs as → vs[j]? = some v → as[j]? = some a → RAv G σ F H v a
  | _, _, _, _, _, .nil, e, _ => by simp at e
  | _, _, 0, v, a, .cons h t, e1, e2 => by
    simp only [List.getElem?_cons_zero, Option.some.injEq] at e1 e2
    subst e1; subst e2; exact h
  | _, _, j + 1, v, a, .cons h t, e1, e2 => RAs.get (j := j) t (by simpa using e1) (by simpa using e2)
abbrev EAv := Env → Rz (List Av)
abbrev tjOf (G : Gx) (W : WX) (m : EAv) : TA := tOf RAs G W m
def jNil : EAv := fun ρ => .ok [] ρ
def jCons (A : E) (B : EAv) : EAv := fun ρ => (A ρ).bind fun x ρ1 => (B ρ1).bind fun xs ρ2 => .ok (.v x :: xs) ρ2
def jSlot (i : Nat) (B : EAv) : EAv := fun ρ => match ρ[i]? with
  | some (.ow _) => (B ρ).bind fun xs ρ1 => .ok (.s i :: xs) ρ1
  | some (.fz _) => (B ρ).bind fun xs ρ1 => .ok (.s i :: xs) ρ1
  | _ => .no
def gather : List Bool → List Av → Env → Option (List IV)
  | [], [], _ => some []
  | true :: ks, .s i :: as, ρ => match ρ[i]? with
    | some (.ow d) => (gather ks as ρ).map (d :: ·)
    | _ => none
  | false :: ks, .v d :: as, ρ => (gather ks as ρ).map (d :: ·)
  | _, _, _ => none
def slots : List Av → List Nat
  | [] => []
  | .s i :: as => i :: slots as
  | .v _ :: as => slots as
def scatter : List Bool → List Av → List IV → Env → Option Env
  | [], [], [], ρ => some ρ
  | true :: ks, .s i :: as, o :: outs, ρ => scatter ks as outs (ρ.set i (.ow o))
  | false :: ks, .v _ :: as, outs, ρ => scatter ks as outs ρ
  | _, _, _, _ => none
def callF (ks : List Bool) (fn : Fn) (as : List Av) (ρ : Env) : Rz IV := match gather ks as ρ with
  | none => .no
  | some ds => if (slots as).Nodup then (match fn ds with
    | .ok d outs => match scatter ks as outs ρ with
      | some ρ2 => .ok d ρ2
      | none => .no
    | .ex c p outs => match scatter ks as outs ρ with
      | some ρ2 => .ex c p ρ2
      | none => .no
    | .no => .no) else .no
def iCallF (ks : List Bool) (fn : Fn) (J : EAv) : E := fun ρ => (J ρ).bind (callF ks fn)
theorem gather_get : ∀ {ks : List Bool} {as : List Av} {ρ : Env} {ds : List IV}, gather ks as ρ = some ds → as.length = ks.length ∧ ds.length = ks.length ∧
    ∀ (j : Nat) k a d, ks[j]? = some k → as[j]? = some a → ds[j]? = some d → (k = true ∧ ∃ i, a = .s i ∧ ρ[i]? = some (.ow d)) ∨ (k = false ∧ a = .v d)
  | [], [], ρ, ds, h => by
    simp only [gather, Option.some.injEq] at h
    subst h
    exact ⟨rfl, rfl, fun j k a d e => by simp at e⟩
  | [], _ :: _, ρ, ds, h => by simp [gather] at h
  | true :: ks, [], ρ, ds, h => by simp [gather] at h
  | false :: ks, [], ρ, ds, h => by simp [gather] at h
  | true :: ks, .v d :: as, ρ, ds, h => by simp [gather] at h
  | false :: ks, .s i :: as, ρ, ds, h => by simp [gather] at h
  | true :: ks, .s i :: as, ρ, ds, h => by
    simp only [gather] at h
    split at h
    · rename_i d hd
      obtain ⟨ds', h', rfl⟩ := Option.map_eq_some_iff.mp h
      obtain ⟨h1, h2, h3⟩ := gather_get h'
      refine ⟨by simp [h1], by simp [h2], fun j k a d' e1 e2 e3 => ?_⟩
      cases j with
      | zero =>
        simp only [List.getElem?_cons_zero, Option.some.injEq] at e1 e2 e3
        subst e1; subst e2; subst e3
        exact Or.inl ⟨rfl, i, rfl, hd⟩
      | succ j => exact h3 j k a d' (by simpa using e1) (by simpa using e2) (by simpa using e3)
    · cases h
  | false :: ks, .v d :: as, ρ, ds, h => by
    simp only [gather] at h
    obtain ⟨ds', h', rfl⟩ := Option.map_eq_some_iff.mp h
    obtain ⟨h1, h2, h3⟩ := gather_get h'
    refine ⟨by simp [h1], by simp [h2], fun j k a d' e1 e2 e3 => ?_⟩
    cases j with
    | zero =>
      simp only [List.getElem?_cons_zero, Option.some.injEq] at e1 e2 e3
      subst e1; subst e2; subst e3
      exact Or.inr ⟨rfl, rfl⟩
    | succ j => exact h3 j k a d' (by simpa using e1) (by simpa using e2) (by simpa using e3)
theorem envOf_get : ∀ {ks : List Bool} {ds : List IV} {j : Nat} {x : Sl}, (envOf ks ds)[j]? = some x → ∃ k d, ks[j]? = some k ∧ ds[j]? = some d ∧ x = if k = true then .ow d else .fz d
  | [], ds, j, x, h => by cases ds <;> simp [envOf] at h
  | true :: ks, [], j, x, h => by simp [envOf] at h
  | false :: ks, [], j, x, h => by simp [envOf] at h
  | true :: ks, d :: ds, j, x, h => by
    cases j with
    | zero => simp only [envOf, List.getElem?_cons_zero, Option.some.injEq] at h; exact ⟨true, d, rfl, rfl, by rw [if_pos rfl]; exact h.symm⟩
    | succ j =>
      simp only [envOf, List.getElem?_cons_succ] at h
      obtain ⟨k, d', h1, h2, h3⟩ := envOf_get h
      exact ⟨k, d', by simpa using h1, by simpa using h2, h3⟩
  | false :: ks, d :: ds, j, x, h => by
    cases j with
    | zero => simp only [envOf, List.getElem?_cons_zero, Option.some.injEq] at h; exact ⟨false, d, rfl, rfl, by rw [if_neg (by decide)]; exact h.symm⟩
    | succ j =>
      simp only [envOf, List.getElem?_cons_succ] at h
      obtain ⟨k, d', h1, h2, h3⟩ := envOf_get h
      exact ⟨k, d', by simpa using h1, by simpa using h2, h3⟩
theorem slots_mem : ∀ {as : List Av} {j i : Nat}, as[j]? = some (.s i) → i ∈ slots as
  | [], j, i, h => by simp at h
  | .v d :: as, 0, i, h => by simp at h
  | .s k :: as, 0, i, h => by simp at h; subst h; simp [slots]
  | .v d :: as, j + 1, i, h => by simp only [slots]; exact slots_mem (j := j) (by simpa using h)
  | .s k :: as, j + 1, i, h => by simp only [slots]; exact List.mem_cons_of_mem _ (slots_mem (j := j) (by simpa using h))
theorem slots_inj : ∀ {as : List Av} {j j' i : Nat}, (slots as).Nodup → as[j]? = some (.s i) → as[j']? = some (.s i) → j = j'
  | [], j, j', i, n, h, h' => by simp at h
  | .v d :: as, 0, j', i, n, h, h' => by simp at h
  | .v d :: as, j + 1, 0, i, n, h, h' => by simp at h'
  | .v d :: as, j + 1, j' + 1, i, n, h, h' => congrArg (· + 1) (slots_inj (as := as) (j := j) (j' := j') (i := i) (by simpa only [slots] using n) (by simpa using h) (by simpa using h'))
  | .s k :: as, 0, 0, i, n, h, h' => rfl
  | .s k :: as, 0, j' + 1, i, n, h, h' => by
    simp only [slots, List.nodup_cons] at n
    simp at h; subst h
    exact (n.1 (slots_mem (j := j') (by simpa using h'))).elim
  | .s k :: as, j + 1, 0, i, n, h, h' => by
    simp only [slots, List.nodup_cons] at n
    simp at h'; subst h'
    exact (n.1 (slots_mem (j := j) (by simpa using h))).elim
  | .s k :: as, j + 1, j' + 1, i, n, h, h' => by
    simp only [slots, List.nodup_cons] at n
    exact congrArg (· + 1) (slots_inj (as := as) (j := j) (j' := j') (i := i) n.2 (by simpa using h) (by simpa using h'))
theorem scatter_get : ∀ {ks : List Bool} {as : List Av} {outs : List IV} {ρ ρ2 : Env}, scatter ks as outs ρ = some ρ2 → ρ2.length = ρ.length ∧
    ∀ (i : Nat) x, ρ2[i]? = some x → (∃ (j : Nat) (o : IV), as[j]? = some (.s i) ∧ (envOut ks outs)[j]? = some (.ow o) ∧ x = .ow o) ∨ ((∀ j : Nat, as[j]? ≠ some (.s i)) ∧ ρ[i]? = some x)
  | [], [], [], ρ, ρ2, h => by
    simp only [scatter, Option.some.injEq] at h
    subst h
    exact ⟨rfl, fun i x e => Or.inr ⟨fun j => by simp, e⟩⟩
  | [], [], _ :: _, ρ, ρ2, h => by simp [scatter] at h
  | [], _ :: _, outs, ρ, ρ2, h => by simp [scatter] at h
  | true :: ks, [], outs, ρ, ρ2, h => by simp [scatter] at h
  | false :: ks, [], outs, ρ, ρ2, h => by simp [scatter] at h
  | true :: ks, .v d :: as, outs, ρ, ρ2, h => by simp [scatter] at h
  | false :: ks, .s i :: as, outs, ρ, ρ2, h => by simp [scatter] at h
  | true :: ks, .s i :: as, [], ρ, ρ2, h => by simp [scatter] at h
  | true :: ks, .s i :: as, o :: outs, ρ, ρ2, h => by
    simp only [scatter] at h
    obtain ⟨h1, h2⟩ := scatter_get h
    refine ⟨by rw [h1, List.length_set], fun k x e => ?_⟩
    rcases h2 k x e with ⟨j, o', a1, a2, a3⟩ | ⟨a1, a2⟩
    · exact Or.inl ⟨j + 1, o', by simpa using a1, by simpa only [envOut, List.getElem?_cons_succ] using a2, a3⟩
    · rcases get_set a2 with ⟨rfl, rfl, _⟩ | ⟨hn, a2⟩
      · exact Or.inl ⟨0, o, rfl, rfl, rfl⟩
      · refine Or.inr ⟨fun j => ?_, a2⟩
        cases j with
        | zero => simp only [List.getElem?_cons_zero]; exact fun z => hn (by cases z; rfl)
        | succ j => simpa using a1 j
  | false :: ks, .v d :: as, outs, ρ, ρ2, h => by
    simp only [scatter] at h
    obtain ⟨h1, h2⟩ := scatter_get h
    refine ⟨h1, fun k x e => ?_⟩
    rcases h2 k x e with ⟨j, o', a1, a2, a3⟩ | ⟨a1, a2⟩
    · exact Or.inl ⟨j + 1, o', by simpa using a1, by simpa only [envOut, List.getElem?_cons_succ] using a2, a3⟩
    · refine Or.inr ⟨fun j => ?_, a2⟩
      cases j with
      | zero => simp
      | succ j => simpa using a1 j
theorem Own.congr {G : Gx} {F : AP1} {H : Hp} {v : V} {d : IV} {q q' : AP1} (h : Own G F H v d q) (e : ∀ a, q' a ↔ q a) : Own G F H v d q' := by
  cases h with
  | lst h a z k => exact .lst h a z fun x => (e x).trans (k x)
  | dic h a z k => exact .dic h a z fun x => (e x).trans (k x)
  | ins h a k => exact .ins h a fun x => (e x).trans (k x)
  | drw h1 h2 f h3 n1 z1 z2 k => exact .drw h1 h2 f h3 n1 z1 z2 fun x => (e x).trans (k x)
  | prs h z k => exact .prs h z fun x => (e x).trans (k x)
  | lds h a nd np z k => exact .lds h a nd np z fun x => (e x).trans (k x)
  | dnk g h a z k => exact .dnk g h a z fun x => (e x).trans (k x)
  | tpl h a z hl b y k => exact .tpl h a z hl b y fun x => (e x).trans (k x)
  | tab h y t c k => exact .tab h y t c fun x => (e x).trans (k x)
  | sht h a nd k => exact .sht h a nd fun x => (e x).trans (k x)
section
variable {X : Cx} {G : Gx} {W : WX} {σ : L2.St} {H : Hp} {F : AP1} {fp : FPt} {ρ : Env}
/-- the callee's slots -/
def fpC (as : List Av) (fp : FPt) : FPt := fun j a => ∃ i, as[j]? = some (.s i) ∧ fp i a
theorem call_env {ks : List Bool} {as : List Av} {ds : List IV} {vs : List V} (e : EnvR G F H σ ρ fp) (ra : RAs G σ F H vs as) (hg : gather ks as ρ = some ds) (nd : (slots as).Nodup) : EnvR G F H (vs.map some) (envOf ks ds) (fpC as fp) := by
  obtain ⟨l1, l2, hget⟩ := gather_get hg
  have lv := ra.len
  have at_ : ∀ (j : Nat) x, (envOf ks ds)[j]? = some x → ∃ k d v a, ks[j]? = some k ∧ ds[j]? = some d ∧ vs[j]? = some v ∧ as[j]? = some a ∧ (x = if k = true then .ow d else .fz d) ∧ RAv G σ F H v a ∧ ((k = true ∧ ∃ i, a = .s i ∧ ρ[i]? = some (.ow d)) ∨ (k = false ∧ a = .v d)) := fun j x h => by
    obtain ⟨k, d, h1, h2, h3⟩ := envOf_get h
    have hj : j < ks.length := (List.getElem?_eq_some_iff.mp h1).1
    have ha : as[j]? = some as[j] := List.getElem?_eq_getElem (by omega)
    have hv : vs[j]? = some vs[j] := List.getElem?_eq_getElem (by omega)
    exact ⟨k, d, _, _, h1, h2, hv, ha, h3, ra.get hv ha, hget j k _ d h1 ha h2⟩
  refine ⟨fun j d z => ?_, fun j d z => ?_, fun i j a ⟨x, h1, h2⟩ ⟨y, h3, h4⟩ => ?_, fun j a ⟨i, _, h⟩ => e.nf i a h, fun j a ⟨i, _, h⟩ => e.tr i a h, fun j a o ⟨i, _, h⟩ => e.ni i a o h, e.ft, by rw [envOf_len ks ds l2, List.length_map, lv, l1]⟩
  · obtain ⟨k, d', v, a, h1, h2, h3, h4, h5, h6, h7⟩ := at_ j _ z
    rcases h7 with ⟨rfl, i, rfl, h8⟩ | ⟨rfl, rfl⟩
    · cases h5
    · cases h5
      exact ⟨v, by rw [List.getElem?_map, h3]; rfl, h6⟩
  · obtain ⟨k, d', v, a, h1, h2, h3, h4, h5, h6, h7⟩ := at_ j _ z
    rcases h7 with ⟨rfl, i, rfl, h8⟩ | ⟨rfl, rfl⟩
    · cases h5
      obtain ⟨v', e1, e2⟩ := e.ow i d h8
      obtain rfl : v' = v := by
        have h6' : σ[i]? = some (some v) := h6
        rw [e1] at h6'
        exact Option.some.inj (Option.some.inj h6')
      refine ⟨v', by rw [List.getElem?_map, h3]; rfl, e2.congr fun b => ⟨fun ⟨i', q1, q2⟩ => ?_, fun q => ⟨i, h4, q⟩⟩⟩
      rw [h4] at q1
      cases q1
      exact q2
    · cases h5
  · have : x = y := e.dis x y a h2 h4
    subst this
    exact slots_inj nd h1 h3
/-- .. and back -/
def fpB (as : List Av) (fp fpc' : FPt) : FPt := fun i a => (∃ j : Nat, as[j]? = some (.s i) ∧ fpc' j a) ∨ ((∀ j : Nat, as[j]? ≠ some (.s i)) ∧ fp i a)
theorem call_back {ks : List Bool} {as : List Av} {outs : List IV} {vs : List V} {ρ2 : Env} {H' : Hp} {F' : AP1} {fpc' : FPt} {ρc : Env} (e : EnvR G F H σ ρ fp) (ra : RAs G σ F H vs as) (ec : EnvR G F H (vs.map some) ρc (fpC as fp)) (nd : (slots as).Nodup)
    (s : Stp H F (un (fpC as fp)) H' F' (un fpc')) (e' : EnvR G F' H' (vs.map some) (envOut ks outs) fpc') (hs : scatter ks as outs ρ = some ρ2) :
    EnvR G F' H' σ ρ2 (fpB as fp fpc') ∧ Stp H F (un fp) H' F' (un (fpB as fp fpc')) := by
  obtain ⟨l1, hget⟩ := scatter_get hs
  have sq := ec.stq s
  have notc : ∀ i a, (∀ j : Nat, as[j]? ≠ some (.s i)) → fp i a → ¬ un (fpC as fp) a := fun i a n h ⟨j, i', h1, h2⟩ => by
    have := e.dis i i' a h h2
    subst this
    exact n j h1
  have keepN : ∀ i, (∀ j : Nat, as[j]? ≠ some (.s i)) → ∀ a o, H a = some o → fp i a → H' a = some o := fun i n a o h p => s.keep a o h (notc i a n p)
  constructor
  · refine ⟨fun i d z => ?_, fun i d z => ?_, fun i k a h1 h2 => ?_, fun i a h f => ?_, fun i a h => ?_, fun i a o h q => ?_, e'.ft, by rw [l1, e.len]⟩
    · rcases hget i _ z with ⟨j, o, h1, h2, h3⟩ | ⟨h1, h2⟩
      · cases h3
      · obtain ⟨v, q1, q2⟩ := e.fz i d h2
        exact ⟨v, q1, q2.mono sq⟩
    · rcases hget i _ z with ⟨j, o, h1, h2, h3⟩ | ⟨h1, h2⟩
      · cases h3
        obtain ⟨v, q1, q2⟩ := e'.ow j d h2
        rw [List.getElem?_map] at q1
        cases hv : vs[j]? with
        | none => rw [hv] at q1; cases q1
        | some v0 =>
          rw [hv] at q1
          cases q1
          refine ⟨v, ra.get hv h1, q2.congr fun b => ⟨fun h => ?_, fun h => Or.inl ⟨j, h1, h⟩⟩⟩
          rcases h with ⟨j', h4, h5⟩ | ⟨h4, _⟩
          · rw [slots_inj nd h1 h4]; exact h5
          · exact (h4 j h1).elim
      · obtain ⟨v, q1, q2⟩ := e.ow i d h2
        refine ⟨v, q1, (q2.mono sq (keepN i h1)).congr fun b => ⟨fun h => ?_, fun h => Or.inr ⟨h1, h⟩⟩⟩
        rcases h with ⟨j, h4, _⟩ | ⟨_, h5⟩
        · exact (h1 j h4).elim
        · exact h5
    · rcases h1 with ⟨j, h1, h3⟩ | ⟨h1, h3⟩
      · rcases h2 with ⟨j', h2, h4⟩ | ⟨h2, h4⟩
        · have := e'.dis j j' a h3 h4
          subst this
          rw [h1] at h2
          cases h2
          rfl
        · rcases s.pnew a ⟨j, h3⟩ with q | q
          · exact (notc k a h2 h4 q).elim
          · exact (e.tr k a h4 q).elim
      · rcases h2 with ⟨j', h2, h4⟩ | ⟨h2, h4⟩
        · rcases s.pnew a ⟨j', h4⟩ with q | q
          · exact (notc i a h1 h3 q).elim
          · exact (e.tr i a h3 q).elim
        · exact e.dis i k a h3 h4
    · rcases h with ⟨j, h1, h3⟩ | ⟨h1, h3⟩
      · exact e'.nf j a h3 f
      · rcases s.fnew a f with q | q | q
        · exact e.nf i a h3 q
        · exact notc i a h1 h3 q
        · exact e.tr i a h3 q
    · rcases h with ⟨j, h1, h3⟩ | ⟨h1, h3⟩
      · exact e'.tr j a h3
      · exact fun q => e.tr i a h3 (s.dom a q)
    · rcases h with ⟨j, h1, h3⟩ | ⟨h1, h3⟩
      · exact e'.ni j a o h3 q
      · cases hu : H a with
        | none => exact (e.tr i a h3 hu).elim
        | some u =>
          have := keepN i h1 a u hu h3
          rw [q] at this
          cases this
          exact e.ni i a o h3 hu
  · have sub : ∀ a, un (fpC as fp) a → un fp a := fun a ⟨j, i, _, h⟩ => ⟨i, h⟩
    refine ⟨fun a o h n => s.keep a o h fun q => n (sub a q), s.frm, fun a f => ?_, fun a ⟨i, h⟩ => ?_, s.dom⟩
    · rcases s.fnew a f with q | q | q
      · exact Or.inl q
      · exact Or.inr (Or.inl (sub a q))
      · exact Or.inr (Or.inr q)
    · rcases h with ⟨j, h1, h3⟩ | ⟨h1, h3⟩
      · rcases s.pnew a ⟨j, h3⟩ with q | q
        · exact Or.inl (sub a q)
        · exact Or.inr q
      · exact Or.inl ⟨i, h3⟩
theorem call_sp {ks : List Bool} {fn : Fn} {as : List Av} {vs : List V} {Q : VK} (e : EnvR G F H σ ρ fp) (ra : RAs G σ F H vs as) (h : Oc RV G W σ H F fp (callF ks fn as ρ) Q) : spOf G ks fn vs H Q (fun cls d H => W cls d σ H) := by
  unfold callF at h
  cases hg : gather ks as ρ with
  | none => rw [hg] at h; exact h.elim
  | some ds =>
    rw [hg] at h
    dsimp only at h
    by_cases nd : (slots as).Nodup
    · rw [if_pos nd] at h
      obtain ⟨l1, l2, _⟩ := gather_get hg
      have ec := call_env e ra hg nd
      refine ⟨by rw [ra.len, l1], ds, F, _, l2, ec, ?_⟩
      cases hf : fn ds with
      | ok d outs =>
        rw [hf] at h
        dsimp only at h
        cases hs : scatter ks as outs ρ with
        | none => rw [hs] at h; exact h.elim
        | some ρ2 =>
          rw [hs] at h
          intro v H' F' fpc' s e' r
          obtain ⟨b1, b2⟩ := call_back e ra ec nd s e' hs
          exact h v H' F' _ b2 b1 r
      | ex c p outs =>
        rw [hf] at h
        dsimp only at h
        cases hs : scatter ks as outs ρ with
        | none => rw [hs] at h; exact h.elim
        | some ρ2 =>
          rw [hs] at h
          intro v H' F' fpc' s e' r
          obtain ⟨b1, b2⟩ := call_back e ra ec nd s e' hs
          exact h v H' F' _ b2 b1 r
      | no => rw [hf] at h; exact h.elim
    · rw [if_neg nd] at h; exact h.elim
theorem q_callF {ks : List Bool} {fn : Fn} {J : EAv} : ∀ σ H Q, teOf G W (iCallF ks fn J) σ H Q → tCallS (spOf G ks fn) (WE W) (tjOf G W J) σ H Q := by
  rintro σ H Q ⟨ρ, F, fp, e, h⟩
  exact oc_bind e h fun vs as ρ1 H1 F1 fp1 s1 e1 r1 h1 => call_sp e1 r1 h1
theorem j_nil : PA X [] (tjOf G W jNil) := PA.imp pa_nil fun σ H Q ⟨ρ, F, fp, e, h⟩ => oc_okR h e .nil
theorem j_cons {e : Expr} {es : List Expr} {A : E} {B : EAv} (ha : PE X e (teOf G W A)) (hb : PA X es (tjOf G W B)) (hs : starEach (e :: es) X.env = (false, eval e X.env) :: starEach es X.env := by rfl) : PA X (e :: es) (tjOf G W (jCons A B)) :=
  PA.imp (pa_cons ha hb hs) fun σ H Q ⟨ρ, F, fp, en, h⟩ => by
    refine oc_bind en h fun x dx ρ1 H1 F1 fp1 s1 e1 r1 h1 => ?_
    refine oc_bind e1 h1 fun y dy ρ2 H2 F2 fp2 s2 e2 r2 h2 => ?_
    exact oc_okR h2 e2 (RAs.cons (Fz.mono (e1.stq s2) r1) r2)
theorem j_slot (i : Nat) {x : Str} {pos : Pos} {es : List Expr} {B : EAv} (hb : PA X es (tjOf G W B)) (hN : X.N[i]? = some x := by rfl) (hv : Vis X.env.scope x := by first | exact Or.inl rfl | exact Or.inr (Or.inl rfl) | exact Or.inr (Or.inr rfl))
    (hd : (x == ("__debug__" : Str)) = false := by decide) (hcd : (x == ("__classdict__" : Str)) = false := by decide)
    (hs : starEach (.Name x pos :: es) X.env = (false, eval (.Name x pos) X.env) :: starEach es X.env := by rfl) : PA X (.Name x pos :: es) (tjOf G W (jSlot i B)) :=
  PA.imp (pa_cons (pe_var hN hv hd hcd) hb hs) fun σ H Q ⟨ρ, F, fp, en, h⟩ => by
    unfold jSlot at h
    split at h
    · rename_i d hd
      obtain ⟨v, q1, q2⟩ := en.ow i d hd
      refine ⟨v, q1, ?_⟩
      refine oc_bind en h fun y dy ρ2 H2 F2 fp2 s2 e2 r2 h2 => ?_
      exact oc_okR h2 e2 (RAs.cons q1 r2)
    · rename_i d hd
      obtain ⟨v, q1, q2⟩ := en.fz i d hd
      refine ⟨v, q1, ?_⟩
      refine oc_bind en h fun y dy ρ2 H2 F2 fp2 s2 e2 r2 h2 => ?_
      exact oc_okR h2 e2 (RAs.cons q1 r2)
    · exact h.elim
theorem m_call (o : Ok X G W) {k : Nat} {f : Addr} {fd : FuncData} {ps : List Str} {ks : List Bool} {fn : Fn} {x : Str} {e : Expr} {es : List Expr} {p pos : Pos} {J : EAv} (Fo : FnOk X.prog X.w X.K X.mg X.base (L2.CX X.prog X.w) k f fd ps (spOf G ks fn)) (hr : Room k X.A) (hg : Gl X x) (hm : X.mg x = some (.ref f))
    (hk : PySem.W.keepIn X.K (.ref f) = true) (hb : Binds X.K fd ps []) (ha : PA X (e :: es) (tjOf G W J)) (hdb : (x == ("__debug__" : Str)) = false := by decide)
    (he : starEach (e :: es) X.env = (false, eval e X.env) :: starEach es X.env := by rfl) (hpl : (backTo pos (starEach es X.env)).any (·.1) = false := by rfl) : PE X (.Call (.Name x p) (e :: es) [] pos) (teOf G W (iCallF ks fn J)) :=
  PE.imp (pe_callS Fo hr hg hm hk hb (fun σ => passAt o.tk σ) ha hdb he hpl) q_callF
end
end MR
set_option maxRecDepth 100000
set_option maxHeartbeats 4000000
/-! MirK: what is read where it stands (frozen, or a slot's own); operators and built-ins over it. -/
namespace MR
open PySem L2 PyProof.Rows
section
variable {X : Cx} {G : Gx} {W : WX} {σ : L2.St} {H : Hp} {F : AP1} {fp : FPt} {ρ : Env}
inductive Bz (G : Gx) (F : AP1) (H : Hp) : V → IV → Prop
  | fz {v : V} {d : IV} : Fz G F H v d → Bz G F H v d
  | lst {p : Addr} {vs : List V} {ds : List IV} : H p = some (.lst vs) → FzA G F H vs ds → vs.length ≤ big → Bz G F H (.ref p) (.lst ds)
  | dic {p : Addr} {vs : List (Key × V)} {ds : List (Key × IV)} : H p = some (.dK vs) → FzP G F H vs ds → vs.length ≤ big → Bz G F H (.ref p) (.dic ds)
  | ins {p dx : Addr} {c : String} {vs : List (Str × V)} {ds : List (Str × IV)} : H p = some (.ins (G.cls c) dx vs) → FzP G F H vs ds → Bz G F H (.ref p) (.ins c ds)
  | dnk {p : Addr} {L : List NDict.DRow} {ks xs : List IV} {P : Program} {w : World} : G.pw = some (P, w) → Rd H p (NDict.nkO P w p L) → FzN G F H L ks xs → L.length ≤ 1000 → Bz G F H (.ref p) (.dnk ks xs)
inductive BzA (G : Gx) (F : AP1) (H : Hp) : List V → List IV → Prop
  | nil : BzA G F H [] []
  | cons {v : V} {vs : List V} {d : IV} {ds : List IV} : Bz G F H v d → BzA G F H vs ds → BzA G F H (v :: vs) (d :: ds)
/-- can be read where it stands -/
def canRd : IV → Bool
  | .dnk _ _ => true
  | d => canFz d
theorem Own.bz {v : V} {d : IV} {q : AP1} (h : Own G F H v d q) (hc : canRd d = true) : Bz G F H v d := by
  cases h with
  | lst h a z e => exact .lst h a z
  | dic h a z e => exact .dic h a z
  | ins h a e => exact .ins h a
  | drw => cases hc
  | prs => cases hc
  | lds => cases hc
  | dnk g h a z e => exact .dnk g (Or.inl h) a z
  | tpl => cases hc
  | tab => cases hc
  | sht => cases hc
/-- an argument's value now -/
def rs (a : Av) (ρ : Env) : Option IV := match a with
  | .v d => some d
  | .s i => match ρ[i]? with
    | some (.fz d) => some d
    | some (.ow d) => if canRd d = true then some d else none
    | _ => none
theorem RAv.bz {v : V} {a : Av} {d : IV} (e : EnvR G F H σ ρ fp) (r : RAv G σ F H v a) (h : rs a ρ = some d) : Bz G F H v d := by
  cases a with
  | v d' => cases h; exact .fz r
  | s i =>
    unfold rs at h
    have r' : σ[i]? = some (some v) := r
    dsimp only at h
    split at h
    · rename_i d' hd
      cases h
      obtain ⟨w, e1, e2⟩ := e.fz i _ hd
      rw [r'] at e1; cases e1
      exact .fz e2
    · rename_i d' hd
      split at h
      · rename_i hc
        cases h
        obtain ⟨w, e1, e2⟩ := e.ow i _ hd
        rw [r'] at e1; cases e1
        exact e2.bz hc
      · cases h
    · cases h
def rsA : List Av → Env → Option (List IV)
  | [], _ => some []
  | a :: as, ρ => (rs a ρ).bind fun d => (rsA as ρ).map (d :: ·)
theorem RAs.bz (e : EnvR G F H σ ρ fp) : ∀ {vs : List V} {as : List Av} {ds : List IV}, RAs G σ F H vs as → rsA as ρ = some ds → BzA G F H vs ds
  | _, _, _, .nil, h => by cases h; exact .nil
  | _, _, _, .cons r t, h => by
    simp only [rsA] at h
    obtain ⟨d, h1, h2⟩ := Option.bind_eq_some_iff.mp h
    obtain ⟨ds, h3, h4⟩ := Option.map_eq_some_iff.mp h2
    subst h4
    exact .cons (r.bz e h1) (RAs.bz e t h3)
/-! ### views -/
theorem Bz.seqL {v : V} {ds : List IV} (h : Bz G F H v (.lst ds)) : ∃ p vs, v = .ref p ∧ H p = some (.lst vs) ∧ FzA G F H vs ds ∧ vs.length ≤ big := by
  cases h with
  | fz h => cases h with
    | lst f h a z => exact ⟨_, _, rfl, h, a, z⟩
  | lst h a z => exact ⟨_, _, rfl, h, a, z⟩
theorem Bz.seqT {v : V} {ds : List IV} (h : Bz G F H v (.tup ds)) : ∃ p vs, v = .ref p ∧ SqT G.K H p vs ∧ FzA G F H vs ds ∧ vs.length ≤ big := by
  cases h with
  | fz h => cases h with
    | tup h a z => exact ⟨_, _, rfl, h, a, z⟩
theorem Bz.dicV {v : V} {ds : List (Key × IV)} (h : Bz G F H v (.dic ds)) : ∃ p vs, v = .ref p ∧ H p = some (.dK vs) ∧ FzP G F H vs ds ∧ vs.length ≤ big := by
  cases h with
  | fz h => cases h with
    | dic f h a z => exact ⟨_, _, rfl, h, a, z⟩
  | dic h a z => exact ⟨_, _, rfl, h, a, z⟩
theorem Bz.insV {v : V} {c : String} {ds : List (Str × IV)} (h : Bz G F H v (.ins c ds)) : ∃ p dx vs, v = .ref p ∧ H p = some (.ins (G.cls c) dx vs) ∧ FzP G F H vs ds := by
  cases h with
  | fz h => cases h with
    | ins f h a => exact ⟨_, _, _, rfl, h, a⟩
  | ins h a => exact ⟨_, _, _, rfl, h, a⟩
theorem Bz.int_inv {x : V} {i : Int} (h : Bz G F H x (.int i)) : x = .int i := by
  cases h with
  | fz h => exact h.int_inv
theorem Bz.bl_inv {x : V} {i : Bool} (h : Bz G F H x (.bl i)) : x = .bl i := by
  cases h with
  | fz h => exact h.bl_inv
theorem Bz.str_inv {x : V} {i : Str} (h : Bz G F H x (.str i)) : x = .str i := by
  cases h with
  | fz h => exact h.str_inv
theorem Bz.scrV {v : V} {ns : List Int} (h : Bz G F H v (.scr ns)) : ∃ p, v = .ref p ∧ StL G.K H p (ns.map V.int) ∧ ns.length ≤ 63 := by
  cases h with
  | fz h => cases h with
    | scr h z => exact ⟨_, rfl, h, z⟩
theorem Bz.dp {v : V} {d : IV} (h : Bz G F H v d) (p : pln d = true) : Dp G.K H v (pd d) := by
  cases h with
  | fz h => exact h.dp p
  | lst h a z => exact .lst (SqL.of h) (a.dp (by simpa only [pln] using p))
  | dic h a z => simp [pln] at p
  | ins h a => simp [pln] at p
  | dnk g h a z => simp [pln] at p
theorem Bz.isN {v : V} {d : IV} (h : Bz G F H v d) : decide (v = .non) = MR.isN d := by
  cases h with
  | fz h => exact Fz.isN h
  | _ => rfl
theorem Bz.key {v : V} {d : IV} {k : Key} (h : Bz G F H v d) (e : ivKey d = some k) : v = kV k := by
  cases h with
  | fz h => exact Fz.key h e
  | _ => cases e
theorem Bz.tru {v : V} {d : IV} {b : Bool} (h : Bz G F H v d) (ht : MR.tru d = some b) : TruV G.K v H b := by
  cases h with
  | fz h => exact MR.tru_ok h ht
  | lst h a z => cases ht; exact Or.inl ⟨_, SqL.of h, by rw [a.empty]⟩
  | dic h a z => cases ht; exact Or.inr (Or.inr ⟨_, h, by rw [a.empty]⟩)
  | ins h a => cases ht
  | dnk g h a z => cases ht
/-! ### values that are given up -/
/-- a slot's own value is frozen where it is used -/
def iMv (i : Nat) : E := fun ρ => match ρ[i]? with
  | some (.fz d) => .ok d ρ
  | some (.ow d) => if canFz d = true then .ok d (ρ.set i (.fz d)) else .no
  | _ => .no
theorem EnvR.frz {i : Nat} {d : IV} {v : V} (e : EnvR G F H σ ρ fp) (hi : ρ[i]? = some (.ow d)) (hv : σ[i]? = some (some v)) (r : Own G F H v d (fp i)) (hc : canFz d = true) :
    EnvR G (fun a => F a ∨ fp i a) H σ (ρ.set i (.fz d)) (fun j a => j ≠ i ∧ fp j a) := by
  have s : Stq H F H (fun a => F a ∨ fp i a) := ⟨fun _ _ z _ => z, fun _ _ z _ => z, fun _ f => Or.inl f⟩
  refine ⟨fun j d' z => ?_, fun j d' z => ?_, fun j k a h1 h2 => e.dis j k a h1.2 h2.2, fun j a h f => ?_, fun j a h => e.tr j a h.2, fun j a o h => e.ni j a o h.2, fun a f => ?_, by rw [List.length_set]; exact e.len⟩
  · rcases get_set z with ⟨rfl, z1, hl⟩ | ⟨hj, z⟩
    · cases z1
      exact ⟨v, hv, r.freeze hc⟩
    · obtain ⟨w, e1, e2⟩ := e.fz j d' z
      exact ⟨w, e1, e2.mono s⟩
  · rcases get_set z with ⟨rfl, z1, hl⟩ | ⟨hj, z⟩
    · cases z1
    · obtain ⟨w, e1, e2⟩ := e.ow j d' z
      exact ⟨w, e1, (e2.mono s fun _ _ z _ => z).congr fun a => ⟨fun h => h.2, fun h => ⟨hj, h⟩⟩⟩
  · rcases f with f | f
    · exact e.nf j a h.2 f
    · exact h.1 (e.dis j i a h.2 f)
  · rcases f with f | f
    · exact e.ft a f
    · exact e.tr i a f
theorem Stp.frz {i : Nat} (H : Hp) (F : AP1) (fp : FPt) : Stp H F (un fp) H (fun a => F a ∨ fp i a) (un fun j a => j ≠ i ∧ fp j a) :=
  ⟨fun _ _ h _ => h, fun _ f => Or.inl f, fun a f => f.elim Or.inl fun h => Or.inr (Or.inl ⟨i, h⟩), fun a ⟨j, h⟩ => Or.inl ⟨j, h.2⟩, fun _ h => h⟩
theorem q_mv {i : Nat} : ∀ σ H Q, teOf G W (iMv i) σ H Q → tVar i σ H Q := by
  rintro σ H Q ⟨ρ, F, fp, e, h⟩
  unfold iMv at h
  split at h
  · rename_i d hd
    obtain ⟨v, e1, e2⟩ := e.fz i d hd
    exact ⟨v, e1, oc_ok h e (Fr.refl _ _) e2⟩
  · rename_i d hd
    obtain ⟨v, e1, e2⟩ := e.ow i d hd
    split at h
    · rename_i hc
      exact ⟨v, e1, h v H _ _ (Stp.frz H F fp) (e.frz hd e1 e2 hc) (e2.freeze hc)⟩
    · exact h.elim
  · exact h.elim
theorem m_mv (i : Nat) {x : Str} {pos : Pos} (hN : X.N[i]? = some x := by rfl) (hv : Vis X.env.scope x := by first | exact Or.inl rfl | exact Or.inr (Or.inl rfl) | exact Or.inr (Or.inr rfl)) (hd : (x == ("__debug__" : Str)) = false := by decide)
    (hcd : (x == ("__classdict__" : Str)) = false := by decide) : PE X (.Name x pos) (teOf G W (iMv i)) := PE.imp (pe_var hN hv hd hcd) q_mv
/-! ### operands -/
abbrev EV := Env → Rz Av
abbrev tvOf (G : Gx) (W : WX) (m : EV) : TE := tOf (fun G σ F H v a => RAv G σ F H v a) G W m
def vE (A : E) : EV := fun ρ => (A ρ).bind fun d ρ1 => .ok (.v d) ρ1
def vS (i : Nat) : EV := fun ρ => match ρ[i]? with
  | some (.ow _) => .ok (.s i) ρ
  | some (.fz _) => .ok (.s i) ρ
  | _ => .no
theorem v_e {e : Expr} {A : E} (h : PE X e (teOf G W A)) : PE X e (tvOf G W (vE A)) := PE.imp h fun σ H Q ⟨ρ, F, fp, e, w⟩ => oc_bind e w fun x dx ρ1 H1 F1 fp1 s1 e1 r1 h1 => oc_okR h1 e1 r1
theorem v_s (i : Nat) {x : Str} {pos : Pos} (hN : X.N[i]? = some x := by rfl) (hv : Vis X.env.scope x := by first | exact Or.inl rfl | exact Or.inr (Or.inl rfl) | exact Or.inr (Or.inr rfl)) (hd : (x == ("__debug__" : Str)) = false := by decide)
    (hcd : (x == ("__classdict__" : Str)) = false := by decide) : PE X (.Name x pos) (tvOf G W (vS i)) := PE.imp (pe_var hN hv hd hcd) fun σ H Q ⟨ρ, F, fp, e, h⟩ => by
  unfold vS at h
  split at h
  · rename_i d hd
    obtain ⟨v, e1, e2⟩ := e.ow i d hd
    exact ⟨v, e1, oc_okR h e e1⟩
  · rename_i d hd
    obtain ⟨v, e1, e2⟩ := e.fz i d hd
    exact ⟨v, e1, oc_okR h e e1⟩
  · exact h.elim
/-- an operator's rule answers as f, what is read standing frozen or own -/
def OpB (G : Gx) (r : R2) (f : IV → IV → Option IV) : Prop := ∀ F H x y dx dy d (Q : VK), Bz G F H x dx → Bz G F H y dy → f dx dy = some d →
  (∀ v H' F', Fr H F H' F' → Fz G F' H' v d → Q v H') → r x y H Q
theorem OpB.toF {r : R2} {f : IV → IV → Option IV} (h : OpB G r f) : OpF G r f := fun F H x y dx dy d Q hx hy hf k => h F H x y dx dy d Q (.fz hx) (.fz hy) hf k
def rs2 (f : IV → IV → Option IV) (a b : Av) (ρ : Env) : Option IV := match rs a ρ, rs b ρ with
  | some x, some y => f x y
  | _, _ => none
def iBinV (f : IV → IV → Option IV) (A B : EV) : E := fun ρ => (A ρ).bind fun a ρ1 => (B ρ1).bind fun b ρ2 => ofO (rs2 f a b ρ2) ρ2
theorem rs2_some {f : IV → IV → Option IV} {a b : Av} {d : IV} (h : rs2 f a b ρ = some d) : ∃ x y, rs a ρ = some x ∧ rs b ρ = some y ∧ f x y = some d := by
  unfold rs2 at h
  split at h
  · rename_i x y h1 h2
    exact ⟨x, y, h1, h2, h⟩
  · cases h
theorem ob_eq : OpB G (rEqD G.K) oEq := by
  intro F H x y dx dy d Q hx hy hf k
  unfold oEq at hf
  split at hf
  · rename_i hs
    obtain ⟨⟨p1, s1⟩, p2, s2⟩ := shp_and hs
    cases hf
    exact ⟨_, _, hx.dp p1, hy.dp p2, s1, s2, k _ _ _ (Fr.refl _ _) (.bl _)⟩
  · cases hf
/-! items -/
/-- an item of a sequence or of a dict -/
def rDg : R2 := fun x y H Q => ∃ a v, x = .ref a ∧ DGet H a y (some v) ∧ Q v H
theorem ix_dg (hu : X.A.units + 1 < cLine) : IxR X rDg := by
  intro value slice pins s σ H x y v u Q I rx ry h hs
  obtain ⟨a, w, ex, g, q⟩ := h
  subst ex
  obtain rfl : v = Value.ref a := rx
  exact tail_any (dict_typeIs I g) PySem.F.slot_dict_getitem.lookup (d_getItem hu I g ry fun w' s3 I3 rw' => ⟨w, H, I3, rw', q⟩) hs
/-! truth -/
/-! ### new values -/
structure New0 (H H' : Hp) (F' : AP1) (q : AP1) : Prop where
  old : ∀ a, q a → H a = none
  tr : ∀ a, q a → H' a ≠ none
  nf : ∀ a, q a → ¬ F' a
  ni : ∀ a o, q a → H' a = some o → ¬ Imm o
/-- at the end: an own value, without a change to what is tracked -/
theorem ocO_ok {d : IV} {Q : VK} (h : OcO G W σ H F fp (.ok d ρ) Q) (e : EnvR G F H σ ρ fp) {v : V} {H' : Hp} {F' q : AP1} (f : Fr H F H' F') (r : Own G F' H' v d q) (n : New0 H H' F' q) : Q v H' :=
  h v H' F' fp q (f.stp _) (e.fr f) r ⟨n.old, n.tr, n.nf, fun a z ⟨i, p⟩ => e.tr i a p (n.old a z), n.ni⟩
/-- one new object -/
theorem New0.one {p : Addr} {o : HO} (hp : H p = none) (hf : ¬ F p) (hi : ¬ Imm o) : New0 H (upd H p o) F (fun a => a = p) := by
  refine ⟨?_, ?_, ?_, ?_⟩
  · intro a z; rw [z]; exact hp
  · intro a z q; rw [z, upd_same] at q; cases q
  · intro a z; rw [z]; exact hf
  · intro a u z q; rw [z, upd_same] at q; cases q; exact hi
def OpO (G : Gx) (r : R2) (f : IV → IV → Option IV) : Prop := ∀ F H x y dx dy d (Q : VK), (∀ a, F a → H a ≠ none) → Bz G F H x dx → Bz G F H y dy → f dx dy = some d →
  (∀ v H' F' q, Fr H F H' F' → Own G F' H' v d q → New0 H H' F' q → Q v H') → r x y H Q
theorem q_binO {r : R2} {f : IV → IV → Option IV} {A B : EV} (hr : OpO G r f) : ∀ σ H Q, toOf G W (iBinV f A B) σ H Q → tOp r (tvOf G W A) (tvOf G W B) σ H Q := by
  rintro σ H Q ⟨ρ, F, fp, e, h⟩
  refine ocO_bind e h fun x a ρ1 H1 F1 fp1 s1 e1 r1 h1 => ?_
  refine ocO_bind e1 h1 fun y b ρ2 H2 F2 fp2 s2 e2 r2 h2 => ?_
  have r1' : RAv G σ F2 H2 x a := RAv.mono (e1.stq s2) r1
  cases hf : rs2 f a b ρ2 with
  | none => rw [hf] at h2; exact h2.elim
  | some d =>
    rw [hf] at h2
    obtain ⟨dx, dy, g1, g2, g3⟩ := rs2_some hf
    exact hr F2 H2 x y dx dy d Q e2.ft (r1'.bz e2 g1) (RAv.bz e2 r2 g2) g3 fun v H' F' q g z n => ocO_ok h2 e2 g z n
/-! ### lists and tuples joined -/
def oCat (x y : IV) : Option IV := match x, y with
  | .lst xs, .lst ys => if xs.length + ys.length ≤ big then some (.lst (xs ++ ys)) else none
  | _, _ => none
theorem FzA.app : ∀ {vs ws : List V} {ds es : List IV}, FzA G F H vs ds → FzA G F H ws es → FzA G F H (vs ++ ws) (ds ++ es)
  | _, _, _, _, .nil, h => h
  | _, _, _, _, .cons a t, h => .cons a (FzA.app t h)
theorem big_le {n : Nat} (h : n ≤ big) : n ≤ sizeLine := Nat.le_trans h big_line
theorem oo_cat : OpO G rCat oCat := by
  intro F H x y dx dy d Q ft hx hy hf k
  unfold oCat at hf
  split at hf
  · rename_i xs ys
    split at hf
    · rename_i hz
      cases hf
      obtain ⟨p, vs, rfl, h1, a1, z1⟩ := hx.seqL
      obtain ⟨p2, vs2, rfl, h2, a2, z2⟩ := hy.seqL
      have e1 := a1.len
      have e2 := a2.len
      refine ⟨p, p2, vs, vs2, rfl, rfl, h1, h2, big_le (by omega), fun l hl => ?_⟩
      have fr : Fr H F (upd H l (.lst (vs ++ vs2))) F := Fr.new hl
      exact k _ _ F _ fr (.lst upd_same ((a1.app a2).mono fr.stq) (by rw [List.length_append]; omega) fun _ => Iff.rfl) (New0.one hl (fun f => ft l f hl) fun z => z)
    · cases hf
  · cases hf
theorem o_cat {a b : Expr} {A B : EV} {pos : Pos} (ha : PE X a (tvOf G W A)) (hb : PE X b (tvOf G W B)) : PE X (.BinOp a .Add b pos) (toOf G W (iBinV oCat A B)) := PE.imp (pe_op op_cat ha hb) (q_binO oo_cat)
/-- + of ints, texts, tuples -/
def oPlus (x y : IV) : Option IV := match x, y with
  | .int i, .int j => some (.int (i + j))
  | .str i, .str j => if i.length + j.length ≤ big then some (.str (i ++ j)) else none
  | .tup xs, .tup ys => if xs.length + ys.length ≤ 1000 then some (.tup (xs ++ ys)) else none
  | _, _ => none
def rPlus (K : Frag) : R2 := fun x y H Q => rI0 (fun i j => .int (i + j)) x y H Q ∨ (∃ i j, x = .str i ∧ y = .str j ∧ i.length + j.length ≤ sizeLine ∧ Q (.str (i ++ j)) H) ∨ rCatA K x y H Q
theorem op_plus : OpR X (binaryOp .Add) (rPlus X.K) := OpR.or op_add (OpR.or op_add_str op_catA)
theorem ob_plus : OpB G (rPlus G.K) oPlus := by
  intro F H x y dx dy d Q hx hy hf k
  unfold oPlus at hf
  split at hf
  · cases hf
    cases hx.int_inv
    cases hy.int_inv
    exact Or.inl ⟨_, _, rfl, rfl, k _ _ _ (Fr.refl _ _) (.int _)⟩
  · split at hf
    · rename_i hz
      cases hf
      cases hx.str_inv
      cases hy.str_inv
      exact Or.inr (Or.inl ⟨_, _, rfl, rfl, big_le hz, k _ _ _ (Fr.refl _ _) (.str _)⟩)
    · cases hf
  · rename_i xs ys
    split at hf
    · rename_i hz
      cases hf
      obtain ⟨p, vs, rfl, h1, a1, z1⟩ := hx.seqT
      obtain ⟨p2, vs2, rfl, h2, a2, z2⟩ := hy.seqT
      have e1 := a1.len
      have e2 := a2.len
      have hb : vs.length + vs2.length ≤ big := Nat.le_trans (by omega : vs.length + vs2.length ≤ 1000) (by decide)
      refine Or.inr (Or.inr ⟨p, p2, vs, vs2, rfl, rfl, h1, h2, big_le hb, fun e => ?_, fun _ e => ?_, fun _ _ l hl => ?_⟩)
      · subst e
        cases a1
        exact k _ _ _ (Fr.refl _ _) (.tup h2 a2 z2)
      · subst e
        cases a2
        have k' := k (.ref p) H F (Fr.refl _ _)
        rw [List.append_nil] at k'
        exact k' (.tup h1 a1 z1)
      · have fr : Fr H F (upd H l (.tup (vs ++ vs2))) F := Fr.new hl
        exact k _ _ F fr (.tup (SqT.of upd_same) ((a1.app a2).mono fr.stq) (by rw [List.length_append]; exact hb))
    · cases hf
  · cases hf
theorem opPlus (o : Ok X G W) : OpR X (binaryOp .Add) (rPlus G.K) := by
  have h := op_plus (X := X)
  rwa [o.K] at h
theorem m_plus (o : Ok X G W) {a b : Expr} {A B : E} {pos : Pos} (ha : PE X a (teOf G W A)) (hb : PE X b (teOf G W B)) : PE X (.BinOp a .Add b pos) (teOf G W (iBin oPlus A B)) := m_bin (opPlus o) ob_plus.toF ha hb
end
end MR
set_option maxRecDepth 100000
set_option maxHeartbeats 4000000
/-! MirL: built-in functions, isinstance, slices. -/
namespace MR
open PySem L2 PyProof.Rows PySem.W
section
variable {X : Cx} {G : Gx} {W : WX} {σ : L2.St} {H : Hp} {F : AP1} {fp : FPt} {ρ : Env}
def CallB (G : Gx) (r : List V → Hp → VK → Prop) (f : List IV → Option IV) : Prop := ∀ F H xs ds d (Q : VK), BzA G F H xs ds → f ds = some d →
  (∀ v H' F', Fr H F H' F' → Fz G F' H' v d → Q v H') → r xs H Q
def iCallJ (f : List IV → Option IV) (J : EAv) : E := fun ρ => (J ρ).bind fun as ρ1 => ofO ((rsA as ρ1).bind f) ρ1
theorem q_callJ {r : List V → Hp → VK → Prop} {f : List IV → Option IV} {J : EAv} (hr : CallB G r f) : ∀ σ H Q, teOf G W (iCallJ f J) σ H Q → tCB r (tjOf G W J) σ H Q := by
  rintro σ H Q ⟨ρ, F, fp, e, h⟩
  refine oc_bind e h fun xs as ρ1 H1 F1 fp1 s1 e1 r1 h1 => ?_
  cases hf : (rsA as ρ1).bind f with
  | none => rw [hf] at h1; exact h1.elim
  | some d =>
    rw [hf] at h1
    obtain ⟨ds, g1, g2⟩ := Option.bind_eq_some_iff.mp hf
    exact hr F1 H1 xs ds d Q (RAs.bz e1 r1 g1) g2 fun v H' F' g z => oc_ok h1 e1 g z
theorem m_callJ {id : String} {x : Str} {e : Expr} {es : List Expr} {p pos : Pos} {r : List V → Hp → VK → Prop} {f : List IV → Option IV} {J : EAv} (hc : CallR X (.builtin id) r) (hr : CallB G r f) (hg : Gl X x) (hm : X.mg x = none) (hv : bootBuiltins x = some (.builtin id))
    (ha : PA X (e :: es) (tjOf G W J)) (hn : x ≠ "__name__" := by decide) (hdb : (x == ("__debug__" : Str)) = false := by decide)
    (he : starEach (e :: es) X.env = (false, eval e X.env) :: starEach es X.env := by rfl) (hpl : (backTo pos (starEach es X.env)).any (·.1) = false := by rfl) : PE X (.Call (.Name x p) (e :: es) [] pos) (teOf G W (iCallJ f J)) :=
  PE.imp (pe_callB hc hg hm hv ha hn hdb he hpl) (q_callJ hr)
theorem m_callJT {T : String} {x : Str} {e : Expr} {es : List Expr} {p pos : Pos} {r : List V → Hp → VK → Prop} {f : List IV → Option IV} {J : EAv} (hc : CallR X (.type T) r) (hr : CallB G r f) (hg : Gl X x) (hm : X.mg x = none) (hv : bootBuiltins x = some (.type T))
    (ha : PA X (e :: es) (tjOf G W J)) (hn : x ≠ "__name__" := by decide) (hdb : (x == ("__debug__" : Str)) = false := by decide)
    (he : starEach (e :: es) X.env = (false, eval e X.env) :: starEach es X.env := by rfl) (hpl : (backTo pos (starEach es X.env)).any (·.1) = false := by rfl) : PE X (.Call (.Name x p) (e :: es) [] pos) (teOf G W (iCallJ f J)) :=
  PE.imp (pe_callTy hc hg hm hv ha hn hdb he hpl) (q_callJ hr)
theorem BzA.one {xs : List V} {d : IV} (h : BzA G F H xs [d]) : ∃ v, xs = [v] ∧ Bz G F H v d := by
  cases h with
  | cons h t => cases t; exact ⟨_, rfl, h⟩
theorem BzA.two {xs : List V} {d e : IV} (h : BzA G F H xs [d, e]) : ∃ v w, xs = [v, w] ∧ Bz G F H v d ∧ Bz G F H w e := by
  cases h with
  | cons h t => cases t with
    | cons h2 t => cases t; exact ⟨_, _, rfl, h, h2⟩
/-! ### len -/
def fLen : List IV → Option IV
  | [.lst xs] => some (.int xs.length)
  | [.tup xs] => some (.int xs.length)
  | [.dic xs] => some (.int xs.length)
  | [.scr xs] => some (.int xs.length)
  | [.str s] => if s.length ≤ big then some (.int s.length) else none
  | _ => none
def rLen (K : Frag) : List V → Hp → VK → Prop := fun xs H Q => (∃ x n, xs = [x] ∧ LenV K x H n ∧ Q (.int (n : Nat)) H) ∨ (∃ a kvs, xs = [V.ref a] ∧ H a = some (.dK kvs) ∧ Q (.int kvs.length) H)
theorem c_len : CallR X (.builtin "len") (rLen X.K) := CallR.or call_len call_lenD
theorem b_len : CallB G (rLen G.K) fLen := by
  intro F H xs ds d Q hx hf k
  unfold fLen at hf
  split at hf
  · cases hf
    obtain ⟨v, rfl, h⟩ := hx.one
    obtain ⟨p, vs, rfl, h1, a, z⟩ := h.seqL
    exact Or.inl ⟨_, _, rfl, Or.inl ⟨_, SqL.of h1, rfl⟩, k _ _ _ (Fr.refl _ _) (by rw [a.len]; exact .int _)⟩
  · cases hf
    obtain ⟨v, rfl, h⟩ := hx.one
    obtain ⟨p, vs, rfl, h1, a, z⟩ := h.seqT
    exact Or.inl ⟨_, _, rfl, Or.inr ⟨_, h1, rfl⟩, k _ _ _ (Fr.refl _ _) (by rw [a.len]; exact .int _)⟩
  · cases hf
    obtain ⟨v, rfl, h⟩ := hx.one
    obtain ⟨p, vs, rfl, h1, a, z⟩ := h.dicV
    exact Or.inr ⟨_, _, rfl, h1, k _ _ _ (Fr.refl _ _) (by rw [a.len]; exact .int _)⟩
  · cases hf
    obtain ⟨v, rfl, h⟩ := hx.one
    obtain ⟨p, rfl, h1, z⟩ := h.scrV
    exact Or.inl ⟨_, _, rfl, Or.inl ⟨_, stL_sq h1, rfl⟩, k _ _ _ (Fr.refl _ _) (by rw [List.length_map]; exact .int _)⟩
  · split at hf
    · rename_i hz
      cases hf
      obtain ⟨v, rfl, h⟩ := hx.one
      cases h.str_inv
      exact Or.inl ⟨_, _, rfl, ⟨big_le hz, rfl⟩, k _ _ _ (Fr.refl _ _) (.int _)⟩
    · cases hf
  · cases hf
theorem m_len (o : Ok X G W) {e : Expr} {p pos : Pos} {J : EAv} (hg : Gl X "len") (hm : X.mg "len" = none) (ha : PA X [e] (tjOf G W J)) (he : starEach [e] X.env = [(false, eval e X.env)] := by rfl) : PE X (.Call (.Name "len" p) [e] [] pos) (teOf G W (iCallJ fLen J)) := by
  have h := c_len (X := X)
  rw [o.K] at h
  exact m_callJ h b_len hg hm rfl ha (by decide) (by decide) he
/-! ### all, any -/
def blsOf : List IV → Option (List Bool)
  | [] => some []
  | .bl b :: xs => (blsOf xs).map (b :: ·)
  | _ => none
def intsOf : List IV → Option (List Int)
  | [] => some []
  | .int b :: xs => (intsOf xs).map (b :: ·)
  | _ => none
theorem FzA.bls : ∀ {vs : List V} {ds : List IV} {bs : List Bool}, FzA G F H vs ds → blsOf ds = some bs → vs = bs.map V.bl
  | _, _, _, .nil, h => by cases h; rfl
  | _, _, bs, .cons (d := d) h t, e => by
    cases d with
    | bl b =>
      simp only [blsOf] at e
      obtain ⟨cs, e1, e2⟩ := Option.map_eq_some_iff.mp e
      subst e2
      cases h.bl_inv
      rw [FzA.bls t e1]
      rfl
    | _ => cases e
theorem FzA.ints : ∀ {vs : List V} {ds : List IV} {bs : List Int}, FzA G F H vs ds → intsOf ds = some bs → vs = bs.map V.int
  | _, _, _, .nil, h => by cases h; rfl
  | _, _, bs, .cons (d := d) h t, e => by
    cases d with
    | int b =>
      simp only [intsOf] at e
      obtain ⟨cs, e1, e2⟩ := Option.map_eq_some_iff.mp e
      subst e2
      cases h.int_inv
      rw [FzA.ints t e1]
      rfl
    | _ => cases e
def fAll : List IV → Option IV
  | [.lst xs] => (blsOf xs).map fun bs => .bl (bs.all id)
  | _ => none
def fAny : List IV → Option IV
  | [.lst xs] => (blsOf xs).map fun bs => .bl (bs.any id)
  | _ => none
theorem b_all : CallB G (rAll G.K) fAll := by
  intro F H xs ds d Q hx hf k
  unfold fAll at hf
  split at hf
  · obtain ⟨bs, e1, e2⟩ := Option.map_eq_some_iff.mp hf
    subst e2
    obtain ⟨v, rfl, h⟩ := hx.one
    obtain ⟨p, vs, rfl, h1, a, z⟩ := h.seqL
    exact ⟨_, bs, rfl, by rw [← a.bls e1]; exact SqL.of h1, k _ _ _ (Fr.refl _ _) (.bl _)⟩
  · cases hf
theorem b_any : CallB G (rAny G.K) fAny := by
  intro F H xs ds d Q hx hf k
  unfold fAny at hf
  split at hf
  · obtain ⟨bs, e1, e2⟩ := Option.map_eq_some_iff.mp hf
    subst e2
    obtain ⟨v, rfl, h⟩ := hx.one
    obtain ⟨p, vs, rfl, h1, a, z⟩ := h.seqL
    exact ⟨_, bs, rfl, by rw [← a.bls e1]; exact SqL.of h1, k _ _ _ (Fr.refl _ _) (.bl _)⟩
  · cases hf
theorem m_all (o : Ok X G W) {e : Expr} {p pos : Pos} {J : EAv} (hg : Gl X "all") (hm : X.mg "all" = none) (ha : PA X [e] (tjOf G W J)) (he : starEach [e] X.env = [(false, eval e X.env)] := by rfl) : PE X (.Call (.Name "all" p) [e] [] pos) (teOf G W (iCallJ fAll J)) := by
  have h := cr_all o.calm
  rw [o.K] at h
  exact m_callJ h b_all hg hm rfl ha (by decide) (by decide) he
theorem m_any (o : Ok X G W) {e : Expr} {p pos : Pos} {J : EAv} (hg : Gl X "any") (hm : X.mg "any" = none) (ha : PA X [e] (tjOf G W J)) (he : starEach [e] X.env = [(false, eval e X.env)] := by rfl) : PE X (.Call (.Name "any" p) [e] [] pos) (teOf G W (iCallJ fAny J)) := by
  have h := cr_any o.calm
  rw [o.K] at h
  exact m_callJ h b_any hg hm rfl ha (by decide) (by decide) he
/-! ### tuple, list -/
def fTup : List IV → Option IV
  | [.lst xs] => some (.tup xs)
  | [.tup xs] => some (.tup xs)
  | _ => none
theorem b_tup : CallB G (fun xs H Q => ∃ p ys, xs = [.ref p] ∧ ((SqL G.K H p ys ∧ ∀ l, H l = none → Q (.ref l) (upd H l (.tup ys))) ∨ (SqT G.K H p ys ∧ Q (.ref p) H))) fTup := by
  intro F H xs ds d Q hx hf k
  unfold fTup at hf
  split at hf
  · cases hf
    obtain ⟨v, rfl, h⟩ := hx.one
    obtain ⟨p, vs, rfl, h1, a, z⟩ := h.seqL
    refine ⟨_, vs, rfl, Or.inl ⟨SqL.of h1, fun l hl => ?_⟩⟩
    have fr : Fr H F (upd H l (.tup vs)) F := Fr.new hl
    exact k _ _ F fr (.tup (SqT.of upd_same) (a.mono fr.stq) z)
  · cases hf
    obtain ⟨v, rfl, h⟩ := hx.one
    obtain ⟨p, vs, rfl, h1, a, z⟩ := h.seqT
    exact ⟨_, vs, rfl, Or.inr ⟨h1, k _ _ _ (Fr.refl _ _) (.tup h1 a z)⟩⟩
  · cases hf
theorem m_tuple (o : Ok X G W) {e : Expr} {p pos : Pos} {J : EAv} (hg : Gl X "tuple") (hm : X.mg "tuple" = none) (ha : PA X [e] (tjOf G W J)) (he : starEach [e] X.env = [(false, eval e X.env)] := by rfl) : PE X (.Call (.Name "tuple" p) [e] [] pos) (teOf G W (iCallJ fTup J)) := by
  have h := call_tuple_of (X := X)
  rw [o.K] at h
  exact m_callJT h b_tup hg hm rfl ha (by decide) (by decide) he
def kIV : Key → IV
  | .inl i => .int i
  | .inr s => .str s
theorem FzP.keys : ∀ {vs : List (Key × V)} {ds : List (Key × IV)}, FzP G F H vs ds → FzA G F H (vs.map fun kv => kV kv.1) (ds.map fun kv => kIV kv.1)
  | _, _, .nil => .nil
  | _, _, .cons (k := k) h t => by
    cases k with
    | inl i => exact .cons (.int i) (FzP.keys t)
    | inr i => exact .cons (.str i) (FzP.keys t)
/-! ### sum, max, min -/
/-! ### abs, int -/
def fAbs : List IV → Option IV
  | [.int i] => some (.int (if i < 0 then -i else i))
  | _ => none
theorem b_abs : CallB G (fun xs H Q => ∃ i, xs = [.int i] ∧ Q (.int (if i < 0 then -i else i)) H) fAbs := by
  intro F H xs ds d Q hx hf k
  unfold fAbs at hf
  split at hf
  · cases hf
    obtain ⟨v, rfl, h⟩ := hx.one
    cases h.int_inv
    exact ⟨_, rfl, k _ _ _ (Fr.refl _ _) (.int _)⟩
  · cases hf
theorem m_abs {e : Expr} {p pos : Pos} {J : EAv} (hg : Gl X "abs") (hm : X.mg "abs" = none) (ha : PA X [e] (tjOf G W J)) (he : starEach [e] X.env = [(false, eval e X.env)] := by rfl) : PE X (.Call (.Name "abs" p) [e] [] pos) (teOf G W (iCallJ fAbs J)) :=
  m_callJ call_abs b_abs hg hm rfl ha (by decide) (by decide) he
def fInt : List IV → Option IV
  | [.int i] => some (.int i)
  | [.bl b] => some (.int (if b then 1 else 0))
  | _ => none
theorem b_int : CallB G (fun xs H Q => (∃ i, xs = [.int i] ∧ Q (.int i) H) ∨ ∃ k, xs = [.bl k] ∧ Q (.int (if k then 1 else 0)) H) fInt := by
  intro F H xs ds d Q hx hf k
  unfold fInt at hf
  split at hf
  · cases hf
    obtain ⟨v, rfl, h⟩ := hx.one
    cases h.int_inv
    exact Or.inl ⟨_, rfl, k _ _ _ (Fr.refl _ _) (.int _)⟩
  · cases hf
    obtain ⟨v, rfl, h⟩ := hx.one
    cases h.bl_inv
    exact Or.inr ⟨_, rfl, k _ _ _ (Fr.refl _ _) (.int _)⟩
  · cases hf
theorem m_intC {e : Expr} {p pos : Pos} {J : EAv} (hg : Gl X "int") (hm : X.mg "int" = none) (ha : PA X [e] (tjOf G W J)) (he : starEach [e] X.env = [(false, eval e X.env)] := by rfl) : PE X (.Call (.Name "int" p) [e] [] pos) (teOf G W (iCallJ fInt J)) :=
  m_callJT call_int1 b_int hg hm rfl ha (by decide) (by decide) he
/-! ### slices -/
abbrev EO := Env → Rz (Option Int)
abbrev tpOf (G : Gx) (W : WX) (m : EO) : TO := tOf (fun _ _ _ _ v d => v = d) G W m
theorem PO.imp {e : Option Expr} {t t' : TO} (h : PO X e t) (q : ∀ σ H Q, t' σ H Q → t σ H Q) : PO X e t' := ⟨fun pins s σ H Q I w => h.run pins s σ H Q I (q _ _ _ w)⟩
def pNone : EO := fun ρ => .ok none ρ
def pSome (A : E) : EO := fun ρ => (A ρ).bind fun d ρ1 => match d with
  | .int i => .ok (some i) ρ1
  | _ => .no
theorem p_none : PO X none (tpOf G W pNone) := PO.imp po_none fun σ H Q ⟨ρ, F, fp, e, h⟩ => oc_okR h e rfl
theorem p_some {e : Expr} {A : E} (h : PE X e (teOf G W A)) : PO X (some e) (tpOf G W (pSome A)) := PO.imp (po_some h) fun σ H Q ⟨ρ, F, fp, e, h⟩ => by
  refine oc_bind e h fun x dx ρ1 H1 F1 fp1 s1 e1 r1 h1 => ?_
  cases dx with
  | int i => cases r1.int_inv; exact ⟨i, rfl, oc_okR h1 e1 rfl⟩
  | _ => exact h1.elim
def cutI {α : Type} (xs : List α) (lo hi : Option Int) : List α := (xs.drop (HT.sIx xs.length 0 lo)).take (HT.sIx xs.length xs.length hi - HT.sIx xs.length 0 lo)
theorem FzA.drop : ∀ {vs : List V} {ds : List IV} (n : Nat), FzA G F H vs ds → FzA G F H (vs.drop n) (ds.drop n)
  | _, _, 0, h => h
  | _, _, n + 1, .nil => .nil
  | _, _, n + 1, .cons h t => FzA.drop n t
theorem FzA.take : ∀ {vs : List V} {ds : List IV} (n : Nat), FzA G F H vs ds → FzA G F H (vs.take n) (ds.take n)
  | _, _, 0, h => .nil
  | _, _, n + 1, .nil => .nil
  | _, _, n + 1, .cons h t => .cons h (FzA.take n t)
theorem FzA.cut {vs : List V} {ds : List IV} (h : FzA G F H vs ds) (lo hi : Option Int) : FzA G F H (cutV vs lo hi) (cutI ds lo hi) := by
  unfold cutV cutI
  rw [h.len]
  exact (h.drop _).take _
def fSlL (d : IV) (lo hi : Option Int) : Option IV := match d with
  | .lst xs => some (.lst (cutI xs lo hi))
  | _ => none
def fSl (d : IV) (lo hi : Option Int) : Option IV := match d with
  | .tup xs => some (.tup (cutI xs lo hi))
  | .str z => if z.length ≤ big then some (.str (cutS z lo hi)) else none
  | _ => none
def iSl (f : IV → Option Int → Option Int → Option IV) (A : EV) (lo hi : EO) : E := fun ρ => (A ρ).bind fun a ρ1 => (lo ρ1).bind fun l ρ2 => (hi ρ2).bind fun u ρ3 => ofO ((rs a ρ3).bind fun d => f d l u) ρ3
def rSlM (K : Frag) : V → Option Int → Option Int → Hp → VK → Prop := fun x lo hi H Q => rSlA K x lo hi H Q ∨ rSlS x lo hi H Q
end
end MR
set_option maxRecDepth 100000
set_option maxHeartbeats 4000000
/-! MirM: own classes: isinstance, attributes, properties, making. -/
namespace MR
open PySem L2 PyProof.Rows PySem.W
/-- the own classes' facts -/
structure KC (G : Gx) (cs : List String) : Prop where
  cls : ∀ c ∈ cs, Cls G.K (G.cls c)
  ha : ∀ c ∈ cs, findIn G.K (.ref (G.cls c)) "__class__" = some (some (.builtin "object.__class__"))
  hn : specialIn G.K (.builtin "object.__class__") "__get__" = some (some (.builtin "getset_descriptor.__get__"))
  ht : takesIn G.K (.builtin "object.__class__") = some true
  hm : ∀ c ∈ cs, mroIn G.K (G.cls c) (.type "object") = some true
  cc : ∀ c ∈ cs, ∀ c' ∈ cs, kitOne G.K (.ref (G.cls c)) (.ref (G.cls c')) = some (decide (c = c'))
  ct : ∀ c ∈ cs, ∀ T ∈ tysA, kitOne G.K (.ref (G.cls c)) (.type T) = some false
  tc : ∀ c ∈ cs, ∀ T ∈ tysV, kitOne G.K (.type T) (.ref (G.cls c)) = some false
theorem KC.inj {G : Gx} {cs : List String} (h : KC G cs) {c c' : String} (hc : c ∈ cs) (hc' : c' ∈ cs) (e : G.cls c = G.cls c') : c = c' := by
  have h1 := h.cc c hc c' hc'
  have h2 := h.cc c hc c hc
  rw [← e, h2] at h1
  simp only [decide_true, Option.some.injEq] at h1
  exact of_decide_eq_true h1.symm
/-- one built-in class of another -/
def sbT (a b : String) : Bool := a == b || (a == "bool" && b == "int")
theorem kit_all : ∀ a ∈ tysV, ∀ b ∈ tysA, kitB a b = some (sbT a b) := by decide +kernel
section
variable {X : Cx} {G : Gx} {W : WX} {σ : L2.St} {H : Hp} {F : AP1} {fp : FPt} {ρ : Env} {cs : List String}
/-! ### isinstance -/
def tyN : IV → Option String
  | .non => some "NoneType"
  | .bl _ => some "bool"
  | .int _ => some "int"
  | .str _ => some "str"
  | .tup _ => some "tuple"
  | .lst _ => some "list"
  | .dic _ => some "dict"
  | .dnk _ _ => some "dict"
  | _ => none
theorem tyN_mem {d : IV} {n : String} (h : tyN d = some n) : n ∈ tysV := by
  cases d <;> cases h <;> decide
/-- the class of x, a dict whose keys are nested tuples among them -/
def TyY (K : Frag) (H : Hp) (x : V) (t : Value) : Prop := TyX K H x t ∨ ∃ (P : Program) (w : World) (p : Addr) (L : List NDict.DRow), x = .ref p ∧ Rd H p (NDict.nkO P w p L) ∧ t = .type "dict"
theorem kit_ofY {pins : List (Addr × Obj)} {s : Shared} {x : V} {u t : Value} (I : Inv X pins σ H s) (rx : RelV x u) (ty : TyY X.K H x t) : ∃ p : Heap → Prop, PySem.W.KitX X.K u t p ∧ p s.heap ∧ u ≠ .builtin "__main__.__loader__#opaque" := by
  rcases ty with ty | ⟨P, w, p, L, rfl, h, rfl⟩
  · exact kit_of I rx ty
  · cases (show u = Value.ref p from rx)
    have core : NDict.DObj P w s.heap p L → ∃ q : Heap → Prop, PySem.W.KitX X.K (.ref p) (.type "dict") q ∧ q s.heap ∧ (Value.ref p) ≠ .builtin "__main__.__loader__#opaque" := by
      rintro ⟨_, _, xs, o, es, ep, _, ho, hx, _⟩
      exact ⟨_, PySem.W.kitx_dict, ⟨o, ho, hx.1⟩, fun z => nomatch z⟩
    rcases h with h | ⟨o, h⟩
    · exact core (I.hok p _ h).1
    · obtain ⟨_, z⟩ := I.hok p _ h
      exact core z.1
/-- isinstance(x, c) -/
def rIsY (K : Frag) : List V → Hp → VK → Prop := fun xs H Q => ∃ x c, xs = [x, c] ∧ ∃ t u b, ClsV c u ∧ TyY K H x t ∧ kitOne K t u = some b ∧ Q (.bl b) H
theorem call_isY : CallR X (.builtin "isinstance") (rIsY X.K) := fun pins s σ H xs us Q I r h => by
  obtain ⟨x, c, rfl, t, u, b, k, ty, e, q⟩ := h
  obtain ⟨y1, y2, rfl, ry1, ry2⟩ := vals2 r
  have ey := k.eq ry2
  subst ey
  obtain ⟨p, Z, hp, hx⟩ := kit_ofY I ry1 ty
  refine PySem.W.kia_one Z I.kIn hp e hx fun tk => ?_
  exact ⟨.bl b, H, I.tok tk, rfl, q⟩
/-- isinstance(x, (c, ..)) -/
def rIsYT (K : Frag) : List V → Hp → VK → Prop := fun xs H Q => ∃ x tp, xs = [x, .ref tp] ∧ ∃ cs t us b, H tp = some (.tup cs) ∧ Paired ClsV cs us ∧ TyY K H x t ∧ kitAny K t us = some b ∧ Q (.bl b) H
theorem call_isYT : CallR X (.builtin "isinstance") (rIsYT X.K) := fun pins s σ H xs us Q I r h => by
  obtain ⟨x, tp, rfl, cs, t, ws, b, hT, k, ty, e, q⟩ := h
  obtain ⟨y1, y2, rfl, ry1, ry2⟩ := vals2 r
  cases (show y2 = Value.ref tp from ry2)
  obtain ⟨p, Z, hp, hx⟩ := kit_ofY I ry1 ty
  have hO : ObjOk X.prog X.w H s.heap tp (.tup cs) := I.hok tp _ hT
  obtain ⟨_, its, rv, ⟨oc, od, dt, sl⟩, g1, g2, n, g3⟩ := hO
  have e3 := ClsV.all k rv
  subst e3
  simp only at g2 g3
  subst g2 g3
  refine PySem.W.kia_tup Z I.kIn hp g1 e hx fun tk => ?_
  exact ⟨.bl b, H, I.tok tk, rfl, q⟩
theorem Bz.ty {v : V} {d : IV} {n : String} (h : Bz G F H v d) (e : tyN d = some n) : TyY G.K H v (.type n) := by
  cases h with
  | fz h =>
    cases h with
    | non => cases e; exact Or.inl (.base .non)
    | bl b => cases e; exact Or.inl (.base (.bl _))
    | int i => cases e; exact Or.inl (.base (.int _))
    | str s => cases e; exact Or.inl (.base (.str _))
    | ty n => cases e
    | cl c => cases e
    | tup h a z =>
      cases e
      rcases h with (h | ⟨o, h⟩) | ⟨o, its, n, h1, h2, _⟩
      · exact Or.inl (.base (.tup h))
      · exact Or.inl (.fTuple h)
      · exact Or.inl (.kTuple h1 h2)
    | lst f h a z => cases e; exact Or.inl (.base (.lst h))
    | scr h z => cases e
    | dic f h a z => cases e; exact Or.inl (.base (.dK h))
    | ins f h a => cases e
    | err0 f h => cases e
    | errD f h f2 h2 a => cases e
    | lam g e h f hc => cases e
    | dnk g h a z => cases e; exact Or.inr ⟨_, _, _, _, rfl, Or.inr ⟨_, h⟩, rfl⟩
  | lst h a z => cases e; exact Or.inl (.base (.lst h))
  | dic h a z => cases e; exact Or.inl (.base (.dK h))
  | ins h a => cases e
  | dnk g h a z => cases e; exact Or.inr ⟨_, _, _, _, rfl, h, rfl⟩
theorem KC.ty (h : KC G cs) {v : V} {c : String} {fs : List (Str × IV)} (hc : c ∈ cs) (b : Bz G F H v (.ins c fs)) : TyY G.K H v (.ref (G.cls c)) := by
  obtain ⟨p, dx, vs, rfl, hp, _⟩ := b.insV
  exact Or.inl <| .base (.ins hp (h.cls c hc) (h.ha c hc) h.hn h.ht (h.hm c hc))
/-- is d of the class c -/
def isOf (cs : List String) (d c : IV) : Option Bool := match c with
  | .ty T => if T ∈ tysA then (match d with
    | .ins k _ => if k ∈ cs then some false else none
    | _ => (tyN d).map fun n => sbT n T) else none
  | .cl k' => if k' ∈ cs then (match d with
    | .ins k _ => if k ∈ cs then some (decide (k = k')) else none
    | _ => (tyN d).map fun _ => false) else none
  | _ => none
def clU (G : Gx) : IV → Value
  | .ty T => .type T
  | .cl c => .ref (G.cls c)
  | _ => .none
theorem isOf_cls {d c : IV} {b : Bool} (h : isOf cs d c = some b) {v : V} (r : Fz G F H v c) : ClsV v (clU G c) := by
  cases c with
  | ty T => cases r; exact .ty T
  | cl k => cases r; exact .own _
  | _ => cases h
theorem isOf_ty (k : KC G cs) {v : V} {d c : IV} {b : Bool} (r : Bz G F H v d) (h : isOf cs d c = some b) : ∃ t, TyY G.K H v t ∧ ∀ c' b', isOf cs d c' = some b' → kitOne G.K t (clU G c') = some b' := by
  have two : (∃ k' fs, d = .ins k' fs ∧ k' ∈ cs) ∨ ∃ n, tyN d = some n := by
    cases c with
    | ty T =>
      simp only [isOf] at h
      split at h
      · split at h
        · split at h
          · rename_i hk; exact Or.inl ⟨_, _, rfl, hk⟩
          · cases h
        · obtain ⟨n, e, _⟩ := Option.map_eq_some_iff.mp h
          exact Or.inr ⟨n, e⟩
      · cases h
    | cl k' =>
      simp only [isOf] at h
      split at h
      · split at h
        · split at h
          · rename_i hk; exact Or.inl ⟨_, _, rfl, hk⟩
          · cases h
        · obtain ⟨n, e, _⟩ := Option.map_eq_some_iff.mp h
          exact Or.inr ⟨n, e⟩
      · cases h
    | _ => cases h
  rcases two with ⟨k', fs, rfl, hk⟩ | ⟨n, hn⟩
  · refine ⟨_, k.ty hk r, fun c' b' h' => ?_⟩
    cases c' with
    | ty T =>
      simp only [isOf] at h'
      split at h'
      · rename_i hT
        try rw [if_pos hk] at h'
        cases h'
        exact k.ct k' hk T hT
      · cases h'
    | cl k2 =>
      simp only [isOf] at h'
      split at h'
      · rename_i hT
        try rw [if_pos hk] at h'
        cases h'
        exact k.cc k' hk k2 hT
      · cases h'
    | _ => cases h'
  · refine ⟨_, r.ty hn, fun c' b' h' => ?_⟩
    have e1 : ∀ T, T ∈ tysA → isOf cs d (.ty T) = some (sbT n T) := fun T hT => by
      simp only [isOf, if_pos hT]
      cases d <;> first | (cases hn; rfl) | cases hn
    have e2 : ∀ k2, k2 ∈ cs → isOf cs d (.cl k2) = some false := fun T hT => by
      simp only [isOf, if_pos hT]
      cases d <;> first | (cases hn; rfl) | cases hn
    cases c' with
    | ty T =>
      by_cases hT : T ∈ tysA
      · rw [e1 T hT] at h'
        cases h'
        exact kit_ty (kit_all n (tyN_mem hn) T hT)
      · simp only [isOf, if_neg hT] at h'
        cases h'
    | cl k2 =>
      by_cases hT : k2 ∈ cs
      · rw [e2 k2 hT] at h'
        cases h'
        exact k.tc k2 hT n (tyN_mem hn)
      · simp only [isOf, if_neg hT] at h'
        cases h'
    | _ => cases h'
def fIsi (cs : List String) : List IV → Option IV
  | [d, c] => (isOf cs d c).map IV.bl
  | _ => none
theorem Bz.cls {v : V} {c : IV} (h : Bz G F H v c) (hc : (∃ T, c = .ty T) ∨ ∃ k, c = .cl k) : Fz G F H v c := by
  cases h with
  | fz h => exact h
  | _ => rcases hc with ⟨_, e⟩ | ⟨_, e⟩ <;> cases e
theorem b_isi (k : KC G cs) : CallB G (rIsY G.K) (fIsi cs) := by
  intro F H xs ds d Q hx hf kk
  unfold fIsi at hf
  split at hf
  · rename_i d0 c
    obtain ⟨b, e1, e2⟩ := Option.map_eq_some_iff.mp hf
    subst e2
    obtain ⟨v, w, rfl, h1, h2⟩ := hx.two
    have hcl : (∃ T, c = .ty T) ∨ ∃ k, c = .cl k := by
      cases c with
      | ty T => exact Or.inl ⟨_, rfl⟩
      | cl T => exact Or.inr ⟨_, rfl⟩
      | _ => cases e1
    obtain ⟨t, ht, hk⟩ := isOf_ty k h1 e1
    exact ⟨v, w, rfl, t, clU G c, b, isOf_cls e1 (h2.cls hcl), ht, hk c b e1, kk _ _ _ (Fr.refl _ _) (.bl _)⟩
  · cases hf
theorem m_isi (o : Ok X G W) (k : KC G cs) {e c : Expr} {p pos : Pos} {J : EAv} (hg : Gl X "isinstance") (hm : X.mg "isinstance" = none) (ha : PA X [e, c] (tjOf G W J))
    (he : starEach [e, c] X.env = (false, eval e X.env) :: starEach [c] X.env := by rfl) (hpl : (backTo pos (starEach [c] X.env)).any (·.1) = false := by rfl) : PE X (.Call (.Name "isinstance" p) [e, c] [] pos) (teOf G W (iCallJ (fIsi cs) J)) := by
  have h := call_isY (X := X)
  rw [o.K] at h
  exact m_callJ h (b_isi k) hg hm rfl ha (by decide) (by decide) he hpl
/-- isinstance(x, (c, ..)) -/
def anyOf (cs : List String) (d : IV) : List IV → Option Bool
  | [] => some false
  | c :: r => match isOf cs d c, anyOf cs d r with
    | some b, some b' => some (b || b')
    | _, _ => none
theorem anyOf_kit {d : IV} {t : Value} (hk : ∀ c' b', isOf cs d c' = some b' → kitOne G.K t (clU G c') = some b') : ∀ {ds : List IV} {b : Bool}, anyOf cs d ds = some b → kitAny G.K t (ds.map (clU G)) = some b
  | [], b, h => by cases h; rfl
  | c :: r, b, h => by
    simp only [anyOf] at h
    split at h
    · rename_i b1 b2 h1 h2
      cases h
      refine kitAny_cons (hk c b1 h1) (fun e => ?_) fun e => by rw [e]; rfl
      subst e
      exact anyOf_kit hk h2
    · cases h
theorem anyOf_cls {d : IV} : ∀ {ds : List IV} {b : Bool} {vs : List V}, anyOf cs d ds = some b → FzA G F H vs ds → Paired ClsV vs (ds.map (clU G))
  | _, b, _, h, .nil => .nil
  | _, b, _, h, .cons r t => by
    simp only [anyOf] at h
    split at h
    · rename_i b1 b2 h1 h2
      exact .cons (isOf_cls h1 r) (anyOf_cls h2 t)
    · cases h
def iIsiT (cs : List String) (A : EV) (C : EA) : E := fun ρ => (A ρ).bind fun a ρ1 => (C ρ1).bind fun ds ρ2 => match rs a ρ2, ds with
  | some d, c :: r => if r.length ≤ 1000 then ofO ((anyOf cs d (c :: r)).map IV.bl) ρ2 else .no
  | _, _ => .no
theorem m_isiT (o : Ok X G W) (k : KC G cs) {e : Expr} {es : List Expr} {x1} {p pos tpos : Pos} {A : EV} {C : EA} (hg : Gl X "isinstance") (hm : X.mg "isinstance" = none) (ha : PE X e (tvOf G W A)) (hc : PA X es (taOf G W C))
    (he : starEach [e, .Tuple es x1 tpos] X.env = (false, eval e X.env) :: starEach [.Tuple es x1 tpos] X.env := by rfl) (he2 : starEach [.Tuple es x1 tpos] X.env = (false, eval (.Tuple es x1 tpos) X.env) :: starEach [] X.env := by rfl)
    (hpl : (backTo pos (starEach [.Tuple es x1 tpos] X.env)).any (·.1) = false := by rfl) : PE X (.Call (.Name "isinstance" p) [e, .Tuple es x1 tpos] [] pos) (teOf G W (iIsiT cs A C)) := by
  have h := call_isYT (X := X)
  rw [o.K] at h
  refine PE.imp (pe_callB h hg hm rfl (pa_cons ha (pa_cons (pe_tup hc) pa_nil he2) he) (by decide) (by decide) he hpl) ?_
  rintro σ H Q ⟨ρ, F, fp, en, h⟩
  refine oc_bind en h fun x a ρ1 H1 F1 fp1 s1 e1 r1 h1 => ?_
  refine oc_bind e1 h1 fun vs ds ρ2 H2 F2 fp2 s2 e2 r2 h2 => ?_
  have r1' : RAv G σ F2 H2 x a := RAv.mono (e1.stq s2) r1
  split at h2
  · rename_i d c r hd
    split at h2
    · rename_i hz
      cases hf : anyOf cs d (c :: r) with
      | none => rw [hf] at h2; exact h2.elim
      | some b =>
        rw [hf] at h2
        have hl := r2.len
        refine ⟨by rw [hl, List.length_cons]; exact big_le (Nat.le_trans (by omega : r.length + 1 ≤ 1001) (by decide)), fun q hq => ?_⟩
        have fr : Fr H2 F2 (upd H2 q (.tup vs)) F2 := Fr.new hq
        have e3 := e2.fr fr
        have bz := (r1'.mono fr.stq).bz e3 hd
        have i1 : ∃ b1, isOf cs d c = some b1 := by
          simp only [anyOf] at hf
          split at hf
          · rename_i b1 b2 h1 h2; exact ⟨b1, h1⟩
          · cases hf
        obtain ⟨b1, i1⟩ := i1
        obtain ⟨t, ht, hk⟩ := isOf_ty k bz i1
        exact ⟨x, q, rfl, vs, t, _, b, upd_same, anyOf_cls hf r2, ht, anyOf_kit hk hf, oc_ok h2 e2 fr (.bl _)⟩
    · exact h2.elim
  · exact h2.elim
/-- an own class, named -/
theorem m_cls {x : Str} {c : String} {pos : Pos} (hg : Gl X x) (hm : X.mg x = some (.ref (G.cls c))) (hd : (x == ("__debug__" : Str)) = false := by decide) : PE X (.Name x pos) (teOf G W (iC (.cl c))) :=
  PE.imp (pe_glob (v := .ref (G.cls c)) hg hm rfl hd) (q_c fun _ _ => .cl c)
/-- a built-in class, named -/
theorem m_ty {x : Str} {T : String} {pos : Pos} (hg : Gl X x) (hm : X.mg x = none) (hv : bootBuiltins x = some (.type T)) (hn : x ≠ "__name__" := by decide) (hd : (x == ("__debug__" : Str)) = false := by decide) : PE X (.Name x pos) (teOf G W (iC (.ty T))) :=
  PE.imp (pe_bltn (v := .ty T) hg hm hv rfl hn hd) (q_c fun _ _ => .ty T)
/-! ### attributes -/
theorem FzP.lookup : ∀ {vs : List (Str × V)} {ds : List (Str × IV)} {f : Str} {d : IV}, FzP G F H vs ds → ds.lookup f = some d → ∃ v, vs.lookup f = some v ∧ Fz G F H v d
  | _, _, _, _, .nil, e => by simp [List.lookup] at e
  | _, _, f, d', .cons (k := k) (v := v) (d := d) (vs := vs) (ds := ds) h t, e => by
    simp only [List.lookup] at e ⊢
    cases hk : f == k with
    | true => rw [hk] at e; cases e; exact ⟨v, rfl, h⟩
    | false => rw [hk] at e; exact FzP.lookup t e
def iFld (cs : List String) (A : EV) (f : Str) : E := fun ρ => (A ρ).bind fun a ρ1 => match rs a ρ1 with
  | some (.ins c fs) => if c ∈ cs then ofO (fs.lookup f) ρ1 else .no
  | _ => .no
theorem m_fld (o : Ok X G W) (k : KC G cs) {e : Expr} {f : Str} {A : EV} {pos : Pos} (hn : ∀ c ∈ cs, NoAttr G.K (G.cls c) f) (he : PE X e (tvOf G W A)) (hb : attributeBase e f X.env (eval e X.env) = eval e X.env := by rfl) : PE X (.Attribute e f pos) (teOf G W (iFld cs A f)) :=
  PE.imp (pe_fld he hb) fun σ H Q ⟨ρ, F, fp, en, h⟩ => by
    refine oc_bind en h fun x a ρ1 H1 F1 fp1 s1 e1 r1 h1 => ?_
    split at h1
    · rename_i c fs hd
      split at h1
      · rename_i hc
        cases hl : fs.lookup f with
        | none => rw [hl] at h1; exact h1.elim
        | some d =>
          rw [hl] at h1
          obtain ⟨p, dx, vs, rfl, hp, fa⟩ := (RAv.bz e1 r1 hd).insV
          obtain ⟨v, l, r⟩ := fa.lookup hl
          exact ⟨p, _, dx, vs, v, rfl, hp, by rw [o.K]; exact k.cls c hc, by rw [o.K]; exact hn c hc, l, oc_ok h1 e1 (Fr.refl _ _) r⟩
      · exact h1.elim
    · exact h1.elim
/-- a property that gives an attribute -/
def iProp (c : String) (A : EV) (f : Str) : E := fun ρ => (A ρ).bind fun a ρ1 => match rs a ρ1 with
  | some (.ins c' fs) => if c' = c then ofO (fs.lookup f) ρ1 else .no
  | _ => .no
theorem m_prop (o : Ok X G W) (c : String) {e : Expr} {f g : Str} {p ga : Addr} {fd : FuncData} {ps : List Str} {n : Nat} {A : EV} {pos : Pos} (hc : Cls X.K (G.cls c)) (hp : PropOf X.K (G.cls c) g p ga) (Fo : FnOk X.prog X.w X.K X.mg X.base (L2.CX X.prog X.w) n ga fd ps (getSp (G.cls c) f))
    (hr : Room (n + 1) X.A) (hb : Binds X.K fd ps []) (he : PE X e (tvOf G W A)) (hab : attributeBase e g X.env (eval e X.env) = eval e X.env := by rfl) : PE X (.Attribute e g pos) (teOf G W (iProp c A f)) :=
  PE.imp (pe_prop (E := fun _ _ _ => False) he hc hp Fo hr hb .nil (fun pins σ H s e s' I ⟨_, _, _, _, _, _, _, _, _, _, _, _, hE⟩ => hE.elim) hab) fun σ H Q ⟨ρ, F, fp, en, h⟩ => by
    refine oc_bind en h fun x a ρ1 H1 F1 fp1 s1 e1 r1 h1 => ?_
    split at h1
    · rename_i c' fs hd
      split at h1
      · rename_i hc
        subst hc
        cases hl : fs.lookup f with
        | none => rw [hl] at h1; exact h1.elim
        | some d =>
          rw [hl] at h1
          obtain ⟨p, dx, vs, rfl, hp, fa⟩ := (RAv.bz e1 r1 hd).insV
          obtain ⟨v, l, r⟩ := fa.lookup hl
          exact ⟨p, dx, vs, rfl, hp, p, dx, vs, v, rfl, hp, l, oc_ok h1 e1 (Fr.refl _ _) r⟩
      · exact h1.elim
    · exact h1.elim
end
end MR
set_option maxRecDepth 100000
set_option maxHeartbeats 4000000
/-! MirN: what is written: attributes, items, append, pop; dict displays; making. -/
namespace MR
open PySem L2 PyProof.Rows
section
variable {X : Cx} {G : Gx} {W : WX} {σ : L2.St} {H : Hp} {F : AP1} {fp : FPt} {ρ : Env} {cs : List String} {pin : List Nat}
/-! ### a slot's own object is written -/
theorem EnvR.put {i : Nat} {p : Addr} {o : HO} {d : IV} {v : V} (e : EnvR G F H σ ρ fp) (hp : fp i p) (hv : σ[i]? = some (some v)) (hi : ¬ Imm o) (r : Own G F (L2.upd H p o) v d (fp i)) : EnvR G F (L2.upd H p o) σ (ρ.set i (.ow d)) fp := by
  have k : ∀ a u, a ≠ p → H a = some u → L2.upd H p o a = some u := fun a u h1 h2 => by rw [upd_ne h1]; exact h2
  have nF : ∀ a, F a → a ≠ p := fun a f z => e.nf i p hp (by rw [← z]; exact f)
  have s : Stq H F (L2.upd H p o) F := ⟨fun a u h f => k a u (nF a f) h, fun a u h m => k a u (fun z => e.ni i p u hp (by rw [← z]; exact h) m) h, fun _ f => f⟩
  refine ⟨fun j d' z => ?_, fun j d' z => ?_, e.dis, e.nf, fun j a z q => ?_, fun j a u z q => ?_, fun a f q => ?_, by rw [List.length_set]; exact e.len⟩
  · rcases get_set z with ⟨rfl, z1, hl⟩ | ⟨hj, z⟩
    · cases z1
    · obtain ⟨w, e1, e2⟩ := e.fz j d' z
      exact ⟨w, e1, e2.mono s⟩
  · rcases get_set z with ⟨rfl, z1, hl⟩ | ⟨hj, z⟩
    · cases z1; exact ⟨v, hv, r⟩
    · obtain ⟨w, e1, e2⟩ := e.ow j d' z
      exact ⟨w, e1, e2.mono s fun a u h q => k a u (fun z => hj (e.dis j i p (by rw [← z]; exact q) hp)) h⟩
  · by_cases hq : a = p
    · rw [hq, upd_same] at q; cases q
    · rw [upd_ne hq] at q; exact e.tr j a z q
  · by_cases hq : a = p
    · rw [hq, upd_same] at q; cases q; exact hi
    · rw [upd_ne hq] at q; exact e.ni j a u z q
  · rw [upd_ne (nF a f)] at q; exact e.ft a f q
theorem Stp.put {i : Nat} {p : Addr} {o : HO} (hp : fp i p) : Stp H F (un fp) (L2.upd H p o) F (un fp) := by
  refine ⟨fun a u h n => ?_, fun _ f => f, fun _ f => Or.inl f, fun _ f => Or.inl f, fun a h => ?_⟩
  · rw [upd_ne (fun z => n ⟨i, by rw [z]; exact hp⟩)]; exact h
  · by_cases hq : a = p
    · rw [hq, upd_same] at h; cases h
    · rw [upd_ne hq] at h; exact h
/-- frozen things behind such a write -/
theorem EnvR.putS {i : Nat} {p : Addr} {o : HO} (e : EnvR G F H σ ρ fp) (hp : fp i p) : Stq H F (L2.upd H p o) F := e.stq (Stp.put hp)
/-! ### self.f = e -/
def putI (f : Str) (v : IV) : List (Str × IV) → List (Str × IV)
  | [] => [(f, v)]
  | (g, x) :: r => if g = f then (g, v) :: r else (g, x) :: putI f v r
theorem FzP.put {f : Str} {v : V} {d : IV} (h : Fz G F H v d) : ∀ {vs : List (Str × V)} {ds : List (Str × IV)}, FzP G F H vs ds → FzP G F H (putF f v vs) (putI f d ds)
  | _, _, .nil => .cons h .nil
  | _, _, .cons (k := k) h2 t => by
    by_cases e : k = f
    · simp only [putF, putI, if_pos e]; exact .cons h t
    · simp only [putF, putI, if_neg e]; exact .cons h2 (FzP.put h t)
def sFldS (cs : List String) (i : Nat) (f : Str) (m : E) : S := fun ρ => (m ρ).bindS fun d ρ1 => match ρ1[i]? with
  | some (.ow (.ins c fs)) => if c ∈ cs ∧ fs.length < 1000 then .nx (ρ1.set i (.ow (.ins c (putI f d fs)))) else .no
  | _ => .no
theorem s_fld (o : Ok X G W) (k : KC G cs) (i : Nat) {x f : Str} {e : Expr} {m : E} {pos' pos npos : Pos} (hn : ∀ c ∈ cs, NoAttr G.K (G.cls c) f) (he : PE X e (teOf G W m)) (hN : X.N[i]? = some x := by rfl)
    (hv : Vis X.env.scope x := by first | exact Or.inl rfl | exact Or.inr (Or.inl rfl) | exact Or.inr (Or.inr rfl)) (hd : (x == ("__debug__" : Str)) = false := by decide) (hcd : (x == ("__classdict__" : Str)) = false := by decide)
    (hs : swapsWith e (some (.Attribute (.Name x npos) f pos')) pos.line X.env = pure false := by rfl) : PS X (.Assign [.Attribute (.Name x npos) f pos'] e pos) (tsOf G W pin (sFldS cs i f m)) :=
  PS.imp (ps_fld (pe_var hN hv hd hcd) he hs) fun D σ H ⟨ρ, F, fp, en, h⟩ => by
    refine ocS_bind en h fun y d ρ1 H1 F1 fp1 s1 e1 r1 h1 => ?_
    split at h1
    · rename_i c fs hd
      obtain ⟨v, g1, g2⟩ := e1.ow i _ hd
      split at h1
      · rename_i hc
        cases g2 with
        | @ins p dx _ vs _ _ hp a z =>
          have hz := (z p).mpr rfl
          refine ⟨_, g1, p, _, dx, vs, rfl, hp, by rw [o.K]; exact k.cls c hc.1, by rw [o.K]; exact hn c hc.1, by rw [a.len]; exact hc.2, ?_⟩
          have q := e1.putS (o := .ins (G.cls c) dx (putF f y vs)) hz
          exact h1 σ _ F1 fp1 (Stp.put hz) (e1.put hz g1 (fun z => z) (.ins upd_same ((a.mono q).put (r1.mono q)) z)) (Pn.refl _ _)
      · exact h1.elim
    · exact h1.elim
/-! ### x[i] = e -/
def putKI (kvs : List (Key × IV)) (k : Key) (v : IV) : List (Key × IV) :=
  if (kvs.any fun kv => decide (kv.1 = k)) = true then kvs.map (fun kv => if kv.1 = k then (kv.1, v) else kv) else kvs ++ [(k, v)]
theorem FzP.any {k : Key} : ∀ {vs : List (Key × V)} {ds : List (Key × IV)}, FzP G F H vs ds → (vs.any fun kv => decide (kv.1 = k)) = (ds.any fun kv => decide (kv.1 = k))
  | _, _, .nil => rfl
  | _, _, .cons h t => by rw [List.any_cons, List.any_cons, FzP.any t]
theorem FzP.mapP {k : Key} {v : V} {d : IV} (h : Fz G F H v d) : ∀ {vs : List (Key × V)} {ds : List (Key × IV)}, FzP G F H vs ds → FzP G F H (vs.map fun kv => if kv.1 = k then (kv.1, v) else kv) (ds.map fun kv => if kv.1 = k then (kv.1, d) else kv)
  | _, _, .nil => .nil
  | _, _, .cons (k := k') h2 t => by
    rw [List.map_cons, List.map_cons]
    by_cases e : k' = k
    · simp only [if_pos e]; exact .cons h (FzP.mapP h t)
    · simp only [if_neg e]; exact .cons h2 (FzP.mapP h t)
theorem FzP.snoc {k : Key} {v : V} {d : IV} (h : Fz G F H v d) : ∀ {vs : List (Key × V)} {ds : List (Key × IV)}, FzP G F H vs ds → FzP G F H (vs ++ [(k, v)]) (ds ++ [(k, d)])
  | _, _, .nil => .cons h .nil
  | _, _, .cons h2 t => .cons h2 (FzP.snoc h t)
theorem FzP.putK {k : Key} {v : V} {d : IV} (h : Fz G F H v d) {vs : List (Key × V)} {ds : List (Key × IV)} (a : FzP G F H vs ds) : FzP G F H (L2.putK vs k v) (putKI ds k d) := by
  unfold L2.putK putKI
  rw [a.any]
  split
  · exact a.mapP h
  · exact a.snoc h
theorem FzA.set {v : V} {d : IV} (h : Fz G F H v d) : ∀ {vs : List V} {ds : List IV} (j : Nat), FzA G F H vs ds → FzA G F H (vs.set j v) (ds.set j d)
  | _, _, j, .nil => .nil
  | _, _, 0, .cons h2 t => .cons h t
  | _, _, j + 1, .cons h2 t => .cons h2 (FzA.set h j t)
def stI (d k v : IV) : Option IV := match d with
  | .lst ds => match k with
    | .int j => (ixN ds.length j).map fun j => .lst (ds.set j v)
    | _ => none
  | .dic ds => match ivKey k with
    | some k => if ds.length < 1000 then some (.dic (putKI ds k v)) else none
    | none => none
  | _ => none
def isOw : Option Sl → Bool
  | some (.ow _) => true
  | _ => false
def sSub (i : Nat) (I : E) (m : E) : S := fun ρ => (m ρ).bindS fun v ρ1 => if isOw ρ1[i]? = true then (I ρ1).bindS fun k ρ2 => match ρ2[i]? with
  | some (.ow d) => match stI d k v with
    | some d' => .nx (ρ2.set i (.ow d'))
    | none => .no
  | _ => .no else .no
/-! ### x.append(e), x.pop() -/
def isOwL : Option Sl → Bool
  | some (.ow (.lst _)) => true
  | _ => false
theorem isOwL_some {x : Option Sl} (h : isOwL x = true) : ∃ d, x = some (.ow (.lst d)) := by
  unfold isOwL at h
  split at h
  · exact ⟨_, rfl⟩
  · cases h
theorem Own.isL {v : V} {ds : List IV} {q : AP1} (h : Own G F H v (.lst ds) q) : tyV G.K "list" v H := by
  cases h with
  | lst h a z e => exact Or.inl ⟨rfl, _, SqL.of h⟩
def sApp (i : Nat) (m : E) : S := fun ρ => if isOwL ρ[i]? = true then (m ρ).bindS fun d ρ1 => match ρ1[i]? with
  | some (.ow (.lst ds)) => if ds.length < 100000 then .nx (ρ1.set i (.ow (.lst (ds ++ [d])))) else .no
  | _ => .no else .no
theorem s_app (o : Ok X G W) (i : Nat) {x : Str} {e : Expr} {m : E} {apos cpos pos npos : Pos} (he : PE X e (teOf G W m)) (hN : X.N[i]? = some x := by rfl)
    (hv : Vis X.env.scope x := by first | exact Or.inl rfl | exact Or.inr (Or.inl rfl) | exact Or.inr (Or.inr rfl)) (hd : (x == ("__debug__" : Str)) = false := by decide) (hcd : (x == ("__classdict__" : Str)) = false := by decide)
    (hbase : attributeBase (.Name x npos) "append" X.env (eval (.Name x npos) X.env) = eval (.Name x npos) X.env := by rfl)
    (hfew : ((backTo cpos (starEach [e] X.env)).all (fun x => !x.1) && (backToKw cpos (keywordEach [] X.env)).all (fun x => x.1.isSome)
      && decide (([e] : List Expr).length + ([] : List Keyword).length + (if ([] : List Keyword).isEmpty then 0 else 1) < 30)) = true := by rfl)
    (hline : (apos.endLine == cpos.line) = true := by rfl) (hs1 : starEach [e] X.env = [(false, eval e X.env)] := by rfl)
    (hs : swapsWith (.Call (.Attribute (.Name x npos) "append" apos) [e] [] cpos) none pos.line X.env = pure false := by rfl) :
    PS X (.Expr (.Call (.Attribute (.Name x npos) "append" apos) [e] [] cpos) pos) (tsOf G W pin (sApp i m)) := by
  have hm : MtR X "list.append" rAppend := mt_append
  refine PS.imp (ps_expr (pe_bm PySem.F.plainAttrs_list PySem.F.slot_list_append PySem.F.type_list_append hm (pe_var hN hv hd hcd) (pa_cons he pa_nil hs1) hbase hfew hline hs1 rfl) hs) ?_
  rintro D σ H ⟨ρ, F, fp, en, h⟩
  unfold sApp at h
  split at h
  · rename_i hw
    obtain ⟨d0, hd0⟩ := isOwL_some hw
    obtain ⟨u, g1, g2⟩ := en.ow i _ hd0
    refine ⟨u, g1, by rw [o.K]; exact g2.isL, ?_⟩
    refine ocS_bind en h fun y d ρ1 H1 F1 fp1 s1 e1 r1 h1 => ?_
    split at h1
    · rename_i ds hds
      obtain ⟨u', g1', g2'⟩ := e1.ow i _ hds
      obtain rfl : u' = u := by rw [g1] at g1'; cases g1'; rfl
      split at h1
      · rename_i hz
        cases g2' with
        | @lst p vs _ _ hp a z q =>
          have hq := (q p).mpr rfl
          have hl := a.len
          have qq := e1.putS (o := .lst (vs ++ [y])) hq
          refine ⟨p, vs, y, rfl, rfl, hp, big_le (Nat.le_trans (by omega : vs.length + 1 ≤ 100000) (by decide)), ?_⟩
          exact h1 σ _ F1 fp1 (Stp.put hq) (e1.put hq g1 (fun z => z) (.lst upd_same (FzA.snoc (a.mono qq) (r1.mono qq)) (by rw [List.length_append, List.length_singleton]; exact Nat.le_trans (by omega : vs.length + 1 ≤ 100000) (by decide)) q)) (Pn.refl _ _)
      · exact h1.elim
    · exact h1.elim
  · exact h.elim
theorem FzA.erase : ∀ {vs : List V} {ds : List IV} (j : Nat), FzA G F H vs ds → FzA G F H (vs.eraseIdx j) (ds.eraseIdx j)
  | _, _, _, .nil => .nil
  | _, _, 0, .cons h t => t
  | _, _, j + 1, .cons h t => .cons h (FzA.erase j t)
end
end MR
set_option maxRecDepth 100000
set_option maxHeartbeats 4000000
/-! MirO: dict displays; making instances. -/
namespace MR
open PySem L2 PyProof.Rows
section
variable {X : Cx} {G : Gx} {W : WX} {σ : L2.St} {H : Hp} {F : AP1} {fp : FPt} {ρ : Env} {cs : List String} {pin : List Nat}
/-! ### {k: v, ..} -/
inductive FzQ (G : Gx) (F : AP1) (H : Hp) : List (V × V) → List (IV × IV) → Prop
  | nil : FzQ G F H [] []
  | cons {k v : V} {vs : List (V × V)} {a b : IV} {ds : List (IV × IV)} : Fz G F H k a → Fz G F H v b → FzQ G F H vs ds → FzQ G F H ((k, v) :: vs) ((a, b) :: ds)
abbrev EQ := Env → Rz (List (IV × IV))
abbrev tqOf (G : Gx) (W : WX) (m : EQ) : L2.St → Hp → (List (V × V) → Hp → Prop) → Prop := tOf (fun G _ F H v d => FzQ G F H v d) G W m
structure PD (X : Cx) (G : Gx) (W : WX) (pos : Pos) (keys : List (Option Expr)) (values : List Expr) (m : EQ) : Prop where
  ex : ∃ trs, PPs X pos keys values trs ∧ ∀ σ H Q, tqOf G W m σ H Q → tPairs trs σ H Q
def keysOf : List (IV × IV) → Option (List (Key × IV))
  | [] => some []
  | (k, v) :: r => match ivKey k, keysOf r with
    | some k, some r => some ((k, v) :: r)
    | _, _ => none
theorem FzQ.keys : ∀ {vs : List (V × V)} {ds : List (IV × IV)} {kd : List (Key × IV)}, FzQ G F H vs ds → keysOf ds = some kd → ∃ kvs : List (Key × V), vs = kvs.map (fun kv => (kV kv.1, kv.2)) ∧ FzP G F H kvs kd ∧ kvs.length = ds.length
  | _, _, _, .nil, h => by cases h; exact ⟨[], rfl, .nil, rfl⟩
  | _, _, _, .cons (k := k) (v := v) h1 h2 t, h => by
    simp only [keysOf] at h
    split at h
    · rename_i kk rr g1 g2
      cases h
      obtain ⟨kvs, e1, e2, e3⟩ := FzQ.keys t g2
      subst e1
      cases Fz.key h1 g1
      exact ⟨(kk, v) :: kvs, rfl, .cons h2 e2, by rw [List.length_cons, List.length_cons, e3]⟩
    · cases h
theorem o_dict0 {pos : Pos} : PE X (.Dict [] [] pos) (toOf G W (fun ρ => .ok (.dic []) ρ)) := PE.imp pe_dnewK fun σ H Q ⟨ρ, F, fp, e, h⟩ p hp => by
  have fr : Fr H F (upd H p (.dK [])) F := Fr.new hp
  exact ocO_ok (q := fun a => a = p) h e fr (.dic upd_same .nil (by decide) fun _ => Iff.rfl) (New0.one hp (fun f => e.ft p f hp) fun z => z)
/-! ### C(e, ..) -/
section
variable {CX : CXT} {k : Nat} {f C : Addr} {fd : FuncData} {ps : List Str} {sp : Sp} {E : XK}
theorem run_mk {pins : List (Addr × Obj)} {s : Shared} {Q : VK} {us : List Value} {kw : List (Str × Value)} {full : Value → List Value} {fullV : V → List V} (M : Mk X.K C f) (Fo : FnOk X.prog X.w X.K X.mg X.base CX k f fd ps sp) (hr : Room (k + 1) X.A)
    (hb : ∀ (s' : Shared) x, X.K.In s'.heap → BindsTo s' fd ⟨Value.ref x :: us, kw⟩ (ps.zip (full (.ref x)))) (rf : ∀ x, Vals (fullV (.ref x)) (full (.ref x))) (hx : PassesAt CX X σ E) (I : Inv X pins σ H s)
    (h : ∀ x dx, H x = none → H dx = none → dx ≠ x → sp (fullV (.ref x)) (upd (upd H dx (.own x)) x (.ins C dx [])) (fun v H2 => v = .non ∧ Q (.ref x) H2) E) :
    wpAny (model X.prog X.w) X.A (call (.ref C) us kw) (EP X pins σ Q) X.xe s := by
  have hq := h (s.heap.objs.size + 1) s.heap.objs.size (I.hok.fresh (Nat.le_succ _)) (I.hok.fresh (Nat.le_refl _)) (Nat.ne_of_lt (Nat.lt_succ_self _))
  have J := Inv.made (C := C) I
  refine wpAny_call (make_map (f := f) I.kIn M.makes M.init (beq_iff_eq.mp M.fn) ?_)
  have hrun := Fo.run (X.A.under (.builtin "type.__call__" ⟨.ref C :: us, kw⟩)) X.stack { s with heap := (s.heap.push PySem.W.emptyDict).push (PySem.W.instObj C s.heap.objs.size) } _
    ⟨Value.ref (s.heap.objs.size + 1) :: us, kw⟩ (full (.ref (s.heap.objs.size + 1))) (fullV (.ref (s.heap.objs.size + 1))) _ E (hr.make C us kw) (J.env0.make C us kw) (hb _ _ J.kIn) (rf _) hq
  refine codeAny_mono hrun fun r s' hq' => ?_
  cases r with
  | error e => exact hx pins _ _ e s' J hq'
  | ok fl => cases fl with
    | ret u =>
      obtain ⟨v, H', I3, rv, ev, q3⟩ := J.after hq'
      subst ev
      exact ⟨rv, V.ref (s.heap.objs.size + 1), H', I3, rfl, q3⟩
    | next => exact hq'.elim
    | brk => exact hq'.elim
    | cont => exact hq'.elim
end
/-- what a caller has behind a step that only touches others' objects -/
theorem EnvR.far {H' : Hp} {F' : AP1} {P P' : AP1} (e : EnvR G F H σ ρ fp) (s : Stp H F P H' F' P') (hd : ∀ a, un fp a → ¬ P a) (hi : ∀ a, P a → H a = none ∨ ∀ o, H a = some o → ¬ Imm o) (hf : ∀ a, F a → ¬ P a) (ft : ∀ a, F' a → H' a ≠ none) : EnvR G F' H' σ ρ fp := by
  have q : Stq H F H' F' := ⟨fun a o h f => s.keep a o h (hf a f), fun a o h m => s.keep a o h fun p => (hi a p).elim (fun z => by rw [h] at z; cases z) fun z => z o h m, s.frm⟩
  have k : ∀ i a o, H a = some o → fp i a → H' a = some o := fun i a o h p => s.keep a o h (hd a ⟨i, p⟩)
  refine ⟨fun j d z => ?_, fun j d z => ?_, e.dis, fun j a h f => ?_, fun j a h => ?_, fun j a o h z => ?_, ft, e.len⟩
  · obtain ⟨w, e1, e2⟩ := e.fz j d z
    exact ⟨w, e1, e2.mono q⟩
  · obtain ⟨w, e1, e2⟩ := e.ow j d z
    exact ⟨w, e1, e2.mono q fun a o h p => k j a o h p⟩
  · rcases s.fnew a f with g | g | g
    · exact e.nf j a h g
    · exact hd a ⟨j, h⟩ g
    · exact e.tr j a h g
  · cases hu : H a with
    | none => exact (e.tr j a h hu).elim
    | some u => rw [k j a u hu h]; exact fun z => by cases z
  · cases hu : H a with
    | none => exact (e.tr j a h hu).elim
    | some u =>
      rw [k j a u hu h] at z
      cases z
      exact e.ni j a o h hu
/-- an instance is made: its __init__ as f -/
def mkF (c : String) (fn : Fn) (ds : List IV) (ρ : Env) : Rz IV := match fn (.ins c [] :: ds) with
  | .ok .non [.ins c' fs] => if c' = c then .ok (.ins c fs) ρ else .no
  | .ex cl p [_] => .ex cl p ρ
  | _ => .no
theorem mkF_fz {c : String} {fn : Fn} {ds : List IV} {ρ ρ' : Env} {d : IV} (h : mkF c fn ds ρ = .ok d ρ') : canFz d = true := by
  unfold mkF at h
  split at h
  · split at h
    · cases h; rfl
    · cases h
  · cases h
  · cases h
def ksI (n : Nat) : List Bool := true :: List.replicate n false
theorem envOf_rep : ∀ (ds : List IV), envOf (List.replicate ds.length false) ds = ds.map Sl.fz
  | [] => rfl
  | d :: ds => by
    rw [List.length_cons, List.replicate_succ, List.map_cons]
    simp only [envOf]
    rw [envOf_rep ds]
theorem mk_sp {c : String} {fn : Fn} {ds : List IV} {vs : List V} {n : Nat} {Q : VK} (hn : n = ds.length) (e : EnvR G F H σ ρ fp) (ra : FzA G F H vs ds) (h : OcO G W σ H F fp (mkF c fn ds ρ) Q) {x dx : Addr} (hx : H x = none) (hdx : H dx = none) (hne : dx ≠ x) :
    spOf G (ksI n) fn (.ref x :: vs) (upd (upd H dx (.own x)) x (.ins (G.cls c) dx [])) (fun v H2 => v = .non ∧ Q (.ref x) H2) (fun cls d H => W cls d σ H) := by
  subst hn
  have hx1 : (upd H dx (.own x)) x = none := by rw [upd_ne (Ne.symm hne)]; exact hx
  have fr1 : Fr H F (upd H dx (.own x)) F := Fr.new hdx
  have fr2 : Fr (upd H dx (.own x)) F (upd (upd H dx (.own x)) x (.ins (G.cls c) dx [])) F := Fr.new hx1
  have fr : Fr H F (upd (upd H dx (.own x)) x (.ins (G.cls c) dx [])) F := fr1.trans fr2
  have e2 := e.fr fr
  have nF : ¬ F x := fun f => e.ft x f hx
  have nP : ¬ un fp x := fun ⟨i, q⟩ => e.tr i x q hx
  have el : ds.length = vs.length := ra.len.symm
  have hE : envOf (ksI ds.length) (.ins c [] :: ds) = .ow (.ins c []) :: ds.map Sl.fz := by
    unfold ksI
    simp only [envOf]
    rw [envOf_rep]
  have ec : EnvR G F (upd (upd H dx (.own x)) x (.ins (G.cls c) dx [])) ((V.ref x :: vs).map some) (envOf (ksI ds.length) (.ins c [] :: ds)) (fun j a => j = 0 ∧ a = x) := by
    rw [hE]
    refine ⟨fun j d z => ?_, fun j d z => ?_, fun i j a h1 h2 => by rw [h1.1, h2.1], fun j a h f => nF (by rw [← h.2]; exact f), fun j a h z => ?_, fun j a o h z => ?_, e2.ft, by simp [el]⟩
    · cases j with
      | zero => simp at z
      | succ j =>
        rw [List.getElem?_cons_succ, List.getElem?_map] at z
        cases hd : ds[j]? with
        | none => rw [hd] at z; cases z
        | some d' =>
          rw [hd] at z
          cases z
          obtain ⟨v, g1, g2⟩ := ra.get hd
          exact ⟨v, by rw [List.map_cons, List.getElem?_cons_succ, List.getElem?_map, g1]; rfl, g2.mono fr.stq⟩
    · cases j with
      | zero =>
        rw [List.getElem?_cons_zero] at z
        cases z
        exact ⟨.ref x, rfl, .ins upd_same .nil fun a => ⟨fun h => h.2, fun h => ⟨rfl, h⟩⟩⟩
      | succ j =>
        rw [List.getElem?_cons_succ, List.getElem?_map] at z
        cases hd : ds[j]? with
        | none => rw [hd] at z; cases z
        | some d' => rw [hd] at z; cases z
    · rw [h.2, upd_same] at z; cases z
    · rw [h.2, upd_same] at z; cases z; exact fun z => z
  refine ⟨by simp [ksI, el], .ins c [] :: ds, F, _, by simp [ksI], ec, ?_⟩
  unfold mkF at h
  have far : ∀ H' F' fpc' ρc, Stp (upd (upd H dx (.own x)) x (.ins (G.cls c) dx [])) F (un fun j a => j = 0 ∧ a = x) H' F' (un fpc') → EnvR G F' H' ((V.ref x :: vs).map some) ρc fpc' → EnvR G F' H' σ ρ fp ∧ Stp H F (un fp) H' F' (un fp) := by
    intro H' F' fpc' ρc s ec'
    refine ⟨e2.far s (fun a p ⟨j, q⟩ => nP (by rw [← q.2]; exact p)) (fun a ⟨j, q⟩ => Or.inr fun o z => ?_) (fun a f ⟨j, q⟩ => nF (by rw [← q.2]; exact f)) ec'.ft, ?_⟩
    · rw [q.2, upd_same] at z; cases z; exact fun z => z
    · refine ⟨fun a o z n => s.keep a o (fr.keep a o z) fun ⟨j, q⟩ => (by rw [q.2, hx] at z; cases z), s.frm, fun a f => ?_, fun a p => Or.inl p, fun a z => fr.dom a (s.dom a z)⟩
      rcases s.fnew a f with g | ⟨j, g⟩ | g
      · exact Or.inl g
      · exact Or.inr (Or.inr (by rw [g.2]; exact hx))
      · exact Or.inr (Or.inr (fr.dom a g))
  cases hf : fn (.ins c [] :: ds) with
  | no => rw [hf] at h; exact h.elim
  | ex cl p outs =>
    rw [hf] at h
    dsimp only at h ⊢
    split at h
    · rename_i hh; cases hh
    · rename_i hh
      cases hh
      intro d H' F' fpc' s ec' r
      obtain ⟨a1, a2⟩ := far H' F' fpc' _ s ec'
      exact h d H' F' fp a2 a1 r
    · exact h.elim
  | ok d outs =>
    rw [hf] at h
    dsimp only at h ⊢
    split at h
    · rename_i c' fs hh
      cases hh
      split at h
      · rename_i hc
        subst hc
        intro v H' F' fpc' s ec' r
        obtain ⟨a1, a2⟩ := far H' F' fpc' _ s ec'
        have hv : v = .non := by cases r; rfl
        refine ⟨hv, ?_⟩
        obtain ⟨w, w1, w2⟩ := ec'.ow 0 (.ins c' fs) rfl
        have w3 : w = .ref x := by cases w1; rfl
        subst w3
        refine h (.ref x) H' F' fp (fpc' 0) a2 a1 w2 ⟨fun a p => ?_, fun a p => ec'.tr 0 a p, fun a p => ec'.nf 0 a p, fun a p q => ?_, fun a o p => ec'.ni 0 a o p⟩
        · cases w2 with
          | ins hp fa z => rw [(z a).mp p]; exact hx
        · cases w2 with
          | ins hp fa z => exact nP (by rw [← (z a).mp p]; exact q)
      · exact h.elim
    · rename_i hh; cases hh
    · exact h.elim
/-- C(e, ..); dds: the defaults that are filled in -/
def iMake (c : String) (fn : Fn) (dds : List IV) (A : EA) : E := fun ρ => (A ρ).bind fun ds ρ1 => mkF c fn (ds ++ dds) ρ1
theorem iMake_fz {c : String} {fn : Fn} {dds : List IV} {A : EA} : ∀ ρ d ρ', iMake c fn dds A ρ = .ok d ρ' → canFz d = true := by
  intro ρ d ρ' h
  obtain ⟨ds, ρ1, _, h1⟩ := Rz.bind_ok h
  exact mkF_fz h1
theorem o_make (o : Ok X G W) (c : String) {k n : Nat} {f : Addr} {fd : FuncData} {ps : List Str} {fn : Fn} {dds : List IV} {dvs : List V} {dus : List Value} {x : Str} {e : Expr} {es : List Expr} {p pos : Pos} {A : EA} (M : Mk X.K (G.cls c) f)
    (Fo : FnOk X.prog X.w X.K X.mg X.base (L2.CX X.prog X.w) k f fd ps (spOf G (ksI n) fn)) (hr : Room (k + 1) X.A) (hg : Gl X x) (hm : X.mg x = some (.ref (G.cls c))) (hb : Binds X.K fd ps dus) (hd : Vals dvs dus) (hdd : ∀ F H, FzA G F H dvs dds)
    (hn : n = (e :: es).length + dds.length) (hps : ps.length = n + 1) (ha : PA X (e :: es) (taOf G W A)) (hA : ∀ ρ ds ρ1, A ρ = .ok ds ρ1 → ds.length = (e :: es).length) (hdb : (x == ("__debug__" : Str)) = false := by decide)
    (he : starEach (e :: es) X.env = (false, eval e X.env) :: starEach es X.env := by rfl) (hpl : (backTo pos (starEach es X.env)).any (·.1) = false := by rfl) : PE X (.Call (.Name x p) (e :: es) [] pos) (toOf G W (iMake c fn dds A)) := by
  refine ⟨fun pins s σ H Q I h => ?_⟩
  refine wpAny_Call_Name_kw (ld_glob I hg hm ?_ hdb)
  obtain ⟨ρ, F, fp, en, h⟩ := h
  have hP : taOf G W A σ H (fun vs H1 => ∃ ds ρ1 F1 fp1, ds.length = (e :: es).length ∧ EnvR G F1 H1 σ ρ1 fp1 ∧ FzA G F1 H1 vs ds ∧ OcO G W σ H1 F1 fp1 (mkF c fn (ds ++ dds) ρ1) Q) := by
    refine ⟨ρ, F, fp, en, ?_⟩
    unfold iMake at h
    cases hA' : A ρ with
    | no => rw [hA'] at h; exact h
    | ex c p ρ' => rw [hA'] at h; exact h
    | ok ds ρ1 =>
      rw [hA'] at h
      exact fun vs H1 F1 fp1 t e1 r => ⟨ds, ρ1, F1, fp1, hA _ _ _ hA', e1, r, OcO.step t h⟩
  refine PySem.W.callWith_K (h₀ := X.base) I.ok.mod.kin M.kp (thn (ha.run pos pins s σ H _ I hP) fun us s1 ⟨vs, H1, I1, r, q⟩ => ⟨I1.kIn, ?_⟩) he hpl
  obtain ⟨ds, ρ1, F1, fp1, hl, e1, fa, w⟩ := q
  have hlu : us.length = (e :: es).length := by rw [← r.length, fa.len, hl]
  have hdl : dus.length = dds.length := by rw [← hd.length, (hdd F H).len]
  refine run_mk (CX := L2.CX X.prog X.w) (E := fun cls d H => W cls d σ H) (full := fun x => x :: (us ++ dus)) (fullV := fun x => x :: (vs ++ dvs)) M Fo hr (fun s' x kin => ?_) (fun x => .cons rfl (r.append hd)) (passAt o.tk σ) I1 ?_
  · have hlen : (Value.ref x :: us ++ dus).length = ps.length := by
      rw [hps, List.length_append, List.length_cons, hlu, hdl, hn]; omega
    exact hb s' (Value.ref x :: us) kin hlen
  · intro x dx hx hdx hne
    exact mk_sp (by rw [List.length_append, hl, hn]) e1 (fa.app (hdd F1 H1)) w hx hdx hne
theorem m_make (o : Ok X G W) (c : String) {k n : Nat} {f : Addr} {fd : FuncData} {ps : List Str} {fn : Fn} {dds : List IV} {dvs : List V} {dus : List Value} {x : Str} {e : Expr} {es : List Expr} {p pos : Pos} {A : EA} (M : Mk X.K (G.cls c) f)
    (Fo : FnOk X.prog X.w X.K X.mg X.base (L2.CX X.prog X.w) k f fd ps (spOf G (ksI n) fn)) (hr : Room (k + 1) X.A) (hg : Gl X x) (hm : X.mg x = some (.ref (G.cls c))) (hb : Binds X.K fd ps dus) (hd : Vals dvs dus) (hdd : ∀ F H, FzA G F H dvs dds)
    (hn : n = (e :: es).length + dds.length) (hps : ps.length = n + 1) (ha : PA X (e :: es) (taOf G W A)) (hA : ∀ ρ ds ρ1, A ρ = .ok ds ρ1 → ds.length = (e :: es).length) (hdb : (x == ("__debug__" : Str)) = false := by decide)
    (he : starEach (e :: es) X.env = (false, eval e X.env) :: starEach es X.env := by rfl) (hpl : (backTo pos (starEach es X.env)).any (·.1) = false := by rfl) : PE X (.Call (.Name x p) (e :: es) [] pos) (teOf G W (iMake c fn dds A)) :=
  m_frz (o_make o c M Fo hr hg hm hb hd hdd hn hps ha hA hdb he hpl) iMake_fz
/-- how many values a list of expressions gives -/
structure LenA (A : EA) (n : Nat) : Prop where
  len : ∀ ρ ds ρ1, A ρ = .ok ds ρ1 → ds.length = n
theorem l_nil : LenA iNil 0 := ⟨fun ρ ds ρ1 h => by cases h; rfl⟩
theorem l_cons {A : E} {B : EA} {n : Nat} (h : LenA B n) : LenA (iCons A B) (n + 1) := ⟨fun ρ ds ρ1 h' => by
  obtain ⟨x, ρ2, _, h1⟩ := Rz.bind_ok h'
  obtain ⟨xs, ρ3, h2, h3⟩ := Rz.bind_ok h1
  cases h3
  rw [List.length_cons, h.len _ _ _ h2]⟩
/-- C(e, .., k = v, ..) -/
def iMakeK (c : String) (fn : Fn) (A Z : EA) : E := fun ρ => (A ρ).bind fun ds ρ1 => (Z ρ1).bind fun zs ρ2 => mkF c fn (ds ++ zs) ρ2
theorem iMakeK_fz {c : String} {fn : Fn} {A Z : EA} : ∀ ρ d ρ', iMakeK c fn A Z ρ = .ok d ρ' → canFz d = true := by
  intro ρ d ρ' h
  obtain ⟨ds, ρ1, _, h1⟩ := Rz.bind_ok h
  obtain ⟨zs, ρ2, _, h2⟩ := Rz.bind_ok h1
  exact mkF_fz h2
theorem PK.imp {kws : List Keyword} {t t' : TA} (h : PK X kws t) (q : ∀ σ H Q, t' σ H Q → t σ H Q) : PK X kws t' := ⟨fun pos pins s σ H Q I w => h.run pos pins s σ H Q I (q _ _ _ w)⟩
theorem k_nil : PK X [] (taOf G W iNil) := PK.imp pk_nil q_nil
theorem k_cons {nm : Option Str} {e : Expr} {kpos : Pos} {kws : List Keyword} {A : E} {B : EA} (ha : PE X e (teOf G W A)) (hb : PK X kws (taOf G W B)) : PK X (⟨nm, e, kpos⟩ :: kws) (taOf G W (iCons A B)) := PK.imp (pk_cons ha hb) q_cons
theorem o_makeK (o : Ok X G W) (c : String) {k n m : Nat} {f : Addr} {fd : FuncData} {ps ks : List Str} {fn : Fn} {x : Str} {e : Expr} {es : List Expr} {kws : List Keyword} {p pos : Pos} {A Z : EA} (M : Mk X.K (G.cls c) f)
    (Fo : FnOk X.prog X.w X.K X.mg X.base (L2.CX X.prog X.w) k f fd ps (spOf G (ksI (n + m)) fn)) (hr : Room (k + 1) X.A) (hg : Gl X x) (hm : X.mg x = some (.ref (G.cls c))) (hb : KBn X.K fd ps (n + 1) ks (fun us ws => us ++ ws) (fun vs zs => vs ++ zs))
    (ha : PA X (e :: es) (taOf G W A)) (hA : LenA A n) (hk : PK X kws (taOf G W Z)) (hZ : LenA Z m) (hm2 : ks.length = m)
    (hall : (backToKw pos (keywordEach kws X.env)).all (·.1.isSome) = true := by rfl) (hks : (backToKw pos (keywordEach kws X.env)).filterMap (·.1) = ks := by rfl) (hdb : (x == ("__debug__" : Str)) = false := by decide)
    (he : starEach (e :: es) X.env = (false, eval e X.env) :: starEach es X.env := by rfl) (hpl : ((backTo pos (starEach (e :: es) X.env)).any (·.1) || (backToKw pos (keywordEach kws X.env)).any (·.1.isNone)) = false := by rfl) :
    PE X (.Call (.Name x p) (e :: es) kws pos) (toOf G W (iMakeK c fn A Z)) := by
  refine ⟨fun pins s σ H Q I h => ?_⟩
  refine wpAny_Call_Name_kw (ld_glob I hg hm ?_ hdb)
  obtain ⟨ρ, F, fp, en, h⟩ := h
  have hP : taOf G W A σ H (fun vs H1 => ∃ ds ρ1 F1 fp1, ds.length = n ∧ EnvR G F1 H1 σ ρ1 fp1 ∧ FzA G F1 H1 vs ds ∧ OcO G W σ H1 F1 fp1 ((Z ρ1).bind fun zs ρ2 => mkF c fn (ds ++ zs) ρ2) Q) := by
    refine ⟨ρ, F, fp, en, ?_⟩
    unfold iMakeK at h
    cases hA' : A ρ with
    | no => rw [hA'] at h; exact h
    | ex c p ρ' => rw [hA'] at h; exact h
    | ok ds ρ1 =>
      rw [hA'] at h
      exact fun vs H1 F1 fp1 t e1 r => ⟨ds, ρ1, F1, fp1, hA.len _ _ _ hA', e1, r, OcO.step t h⟩
  refine PySem.W.callWith_KW (h₀ := X.base) I.ok.mod.kin M.kp hall (thn (ha.run pos pins s σ H _ I hP) fun us s1 ⟨vs, H1, I1, r, q⟩ => ?_) hpl he
  obtain ⟨ds, ρ1, F1, fp1, hl, e1, fa, w⟩ := q
  have hZP : taOf G W Z σ H1 (fun zs H2 => ∃ es' ρ2 F2 fp2, es'.length = m ∧ EnvR G F2 H2 σ ρ2 fp2 ∧ FzA G F2 H2 vs ds ∧ FzA G F2 H2 zs es' ∧ OcO G W σ H2 F2 fp2 (mkF c fn (ds ++ es') ρ2) Q) := by
    refine ⟨ρ1, F1, fp1, e1, ?_⟩
    cases hZ' : Z ρ1 with
    | no => rw [hZ'] at w; exact w
    | ex c p ρ' => rw [hZ'] at w; exact w
    | ok es' ρ2 =>
      rw [hZ'] at w
      exact fun zs H2 F2 fp2 t e2 r2 => ⟨es', ρ2, F2, fp2, hZ.len _ _ _ hZ', e2, fa.mono (e1.stq t), r2, OcO.step t w⟩
  refine thn (hk.run pos pins s1 σ H1 _ I1 hZP) fun ws s2 ⟨zs, H2, I2, rz, q2⟩ => ⟨I2.kIn, ?_⟩
  obtain ⟨es', ρ2, F2, fp2, hl2, e2, fa2, fz2, w2⟩ := q2
  rw [hks]
  have hlu : us.length = n := by rw [← r.length, fa2.len, hl]
  have hlw : ws.length = ks.length := by rw [← rz.length, fz2.len, hl2, hm2]
  refine run_mk (CX := L2.CX X.prog X.w) (E := fun cls d H => W cls d σ H) (full := fun x => x :: us ++ ws) (fullV := fun x => x :: vs ++ zs) M Fo hr (fun s' x kin => ?_) (fun x => (show Vals (V.ref x :: vs) (Value.ref x :: us) from Paired.cons rfl r).append rz) (passAt o.tk σ) I2 ?_
  · exact hb.to s' (Value.ref x :: us) ws kin (by rw [List.length_cons, hlu]) hlw
  · intro x dx hx hdx hne
    exact mk_sp (n := n + m) (by rw [List.length_append, hl, hl2]) e2 (fa2.app fz2) w2 hx hdx hne
theorem m_makeK (o : Ok X G W) (c : String) {k n m : Nat} {f : Addr} {fd : FuncData} {ps ks : List Str} {fn : Fn} {x : Str} {e : Expr} {es : List Expr} {kws : List Keyword} {p pos : Pos} {A Z : EA} (M : Mk X.K (G.cls c) f)
    (Fo : FnOk X.prog X.w X.K X.mg X.base (L2.CX X.prog X.w) k f fd ps (spOf G (ksI (n + m)) fn)) (hr : Room (k + 1) X.A) (hg : Gl X x) (hm : X.mg x = some (.ref (G.cls c))) (hb : KBn X.K fd ps (n + 1) ks (fun us ws => us ++ ws) (fun vs zs => vs ++ zs))
    (ha : PA X (e :: es) (taOf G W A)) (hA : LenA A n) (hk : PK X kws (taOf G W Z)) (hZ : LenA Z m) (hm2 : ks.length = m)
    (hall : (backToKw pos (keywordEach kws X.env)).all (·.1.isSome) = true := by rfl) (hks : (backToKw pos (keywordEach kws X.env)).filterMap (·.1) = ks := by rfl) (hdb : (x == ("__debug__" : Str)) = false := by decide)
    (he : starEach (e :: es) X.env = (false, eval e X.env) :: starEach es X.env := by rfl) (hpl : ((backTo pos (starEach (e :: es) X.env)).any (·.1) || (backToKw pos (keywordEach kws X.env)).any (·.1.isNone)) = false := by rfl) :
    PE X (.Call (.Name x p) (e :: es) kws pos) (teOf G W (iMakeK c fn A Z)) := m_frz (o_makeK o c M Fo hr hg hm hb ha hA hk hZ hm2 hall hks hdb he hpl) iMakeK_fz
end
end MR
set_option maxRecDepth 100000
set_option maxHeartbeats 4000000
/-! MirP: == where own classes have their own. -/
namespace MR
open PySem PySem.SeqAt
open AutoSeq1 (wpAny_loadPart')
open MeetsSeq MeetsSeq2 MeetsSeq3 SeqRoads2
section
variable {prog : Program} {w : World} {A : Around} {R : Result → Shared → Prop}
/-- two tuples, item by item: the answers e, whatever the comparing makes -/
theorem tup_eqM (p q : Addr) (us vs : Array Value) (k1 k2 : Nat) (d1 d2 : Option Addr) (z1 z2 : Array (Option Value)) (e : Nat → Bool) (J : Nat → Shared → Prop)
    (step : ∀ i (h1 : i < us.size) (h2 : i < vs.size) t, J i t → wpAny (model prog w) A.in1 (eqBool us[i] vs[i]) (fun r t' => r = e i ∧ J (i + 1) t') (fun er t' => R (.error er) t') t)
    (done : ∀ i t, J i t → R (.ok (.ret (.bool ((List.range (min us.size vs.size)).all e && us.size == vs.size)))) t) {t : Shared} (hp1 : t.heap.get? p = some { cls := .type "tuple", dict := d1, data := .seq us k1, slots := z1 })
    (hq1 : t.heap.get? q = some { cls := .type "tuple", dict := d2, data := .seq vs k2, slots := z2 }) (h : J 0 t) :
    wpAny (model prog w) A.in1 (Builtin.«tuple.__eq__» ⟨[.ref p, .ref q], []⟩) (GQ.FinOf prog w A R) (fun er t' => R (.error er) t') t := by
  have f2 := AutoSeq1.sub_tuple_tuple
  have hlen : (us.toList.zip vs.toList).length = min us.size vs.size := by simp
  have h0 := h
  obtain ⟨hh, g, dr, tk, os⟩ := t
  wp_walk using wpAny_loadPart' hp1, wpAny_loadPart' hq1, wpAny_forIn_list _ (fun more b t' => b.1 = none ∧ ∃ i, more = (us.toList.zip vs.toList).drop i ∧ i ≤ min us.size vs.size ∧ J i t' ∧ ((List.range i).all e = true)) _
  case turn =>
    rintro ⟨y, x⟩ more b t' ⟨hb1, i, hz, hi, hJ, hall⟩
    have hlt : i < (us.toList.zip vs.toList).length := by
      rcases Nat.lt_or_ge i (us.toList.zip vs.toList).length with hx | hx
      · exact hx
      · rw [List.drop_of_length_le hx] at hz; cases hz
    have hm : i < min us.size vs.size := hlen ▸ hlt
    have h1 : i < us.size := Nat.lt_of_lt_of_le hm (Nat.min_le_left ..)
    have h2 : i < vs.size := Nat.lt_of_lt_of_le hm (Nat.min_le_right ..)
    rw [List.drop_eq_getElem_cons hlt] at hz
    injection hz with hpair hmore
    have ey : y = us[i] := by have := congrArg Prod.fst hpair; simpa using this
    have ex : x = vs[i] := by have := congrArg Prod.snd hpair; simpa using this
    subst ey ex
    refine wpAny_bind (wpAny_mono (step i h1 h2 t' hJ) (fun r t2 ⟨hr, hJ2⟩ => ?_) fun _ _ z => z)
    subst hr
    cases hy : e i with
    | true =>
      wp_walk
      exact ⟨rfl, i + 1, hmore, hm, hJ2, by rw [List.range_succ, List.all_append, hall]; simp [hy]⟩
    | false =>
      have fin := done (i + 1) t2 hJ2
      have eall : (List.range (min us.size vs.size)).all e = false := by
        rw [List.all_eq_false]
        exact ⟨i, List.mem_range.mpr hm, by simp [hy]⟩
      rw [eall] at fin
      wp_walk
      simpa using fin
  case fin =>
    rintro ⟨b1, b2⟩ t' ⟨hb1, i, hz, hi, hJ, hall⟩
    simp only at hb1
    subst hb1
    have hge : min us.size vs.size ≤ i := by
      rcases Nat.lt_or_ge i (us.toList.zip vs.toList).length with hx | hx
      · rw [List.drop_eq_getElem_cons hx] at hz; cases hz
      · exact hlen ▸ hx
    have fin := done i t' hJ
    have ei : i = min us.size vs.size := Nat.le_antisymm hi hge
    rw [← ei, hall] at fin
    wp_walk
    simpa [Builtin.Tuple.tupleCompareSizes] using fin
  case h => exact ⟨rfl, 0, rfl, Nat.zero_le _, h0, rfl⟩
end
section
variable {prog : Program} {w : World} {A : Around} {E : Value → Shared → Prop} {s : Shared}
theorem rc_tupM {p q : Addr} {us vs : Array Value} {Q : Value → Shared → Prop} (hu : A.units < cLine) (e : Nat → Bool) (J : Nat → Shared → Prop) (hp : s.heap.IsTuple p us) (hq : s.heap.IsTuple q vs)
    (step : ∀ i (h1 : i < us.size) (h2 : i < vs.size) t, J i t → wpAny (model prog w) A.in1 (eqBool us[i] vs[i]) (fun r t' => r = e i ∧ J (i + 1) t') E t)
    (done : ∀ i t, J i t → Q (.bool ((List.range (min us.size vs.size)).all e && us.size == vs.size)) t) (h : J 0 s) : wpAny (model prog w) A (richCompare .Eq (.ref p) (.ref q)) Q E s := by
  obtain ⟨⟨c1, d1, da1, z1⟩, hp1, hc1, k1, hd1⟩ := id hp
  obtain ⟨⟨c2, d2, da2, z2⟩, hq1, hc2, k2, hd2⟩ := id hq
  simp only at hc1 hd1 hc2 hd2
  subst hc1 hd1 hc2 hd2
  refine wpAny_richCompare_same_room (op := .Eq) ⟨_, hp1, rfl⟩ ⟨_, hq1, rfl⟩ F.slot_tuple_eq (GQ.call_here F.slot_tuple_eq ⟨_, hp1, rfl⟩ F.entry_tuple_eq (F.args_tuple_eq_2 _ _) ?_) hu
  exact tup_eqM (R := wants (fun v t' => v ≠ .notImplemented ∧ Q v t') E) p q us vs k1 k2 d1 d2 z1 z2 e J step (fun i t hJ => ⟨(fun z => nomatch z), done i t hJ⟩) hp1 hq1 h
end
end MR
namespace MR
open PySem L2 PyProof.Rows
section
variable {X : Cx} {G : Gx} {W : WX} {σ : L2.St} {H : Hp} {F : AP1} {fp : FPt} {ρ : Env} {cs : List String} {pin : List Nat} {n : Nat}
/-! ### the same thing stands for the same value -/
mutual
def cmpb (cs : List String) : IV → Bool
  | .non => true
  | .bl _ => true
  | .int _ => true
  | .str _ => true
  | .tup xs => cmpbA cs xs
  | .lst xs => cmpbA cs xs
  | .ins c fs => decide (c ∈ cs) && cmpbP cs fs
  | _ => false
def cmpbA (cs : List String) : List IV → Bool
  | [] => true
  | x :: xs => cmpb cs x && cmpbA cs xs
def cmpbP (cs : List String) : List (Str × IV) → Bool
  | [] => true
  | (_, x) :: xs => cmpb cs x && cmpbP cs xs
end
/-- the class of what stands at an address -/
def clsAt (G : Gx) : IV → Option Value
  | .tup _ => some (.type "tuple")
  | .lst _ => some (.type "list")
  | .ins c _ => some (.ref (G.cls c))
  | _ => none
theorem Fz.clsAt {pins : List (Addr × Obj)} {s : Shared} {p : Addr} {d : IV} (I : Inv X pins σ H s) (hK : X.K = G.K) (h : Fz G F H (.ref p) d) (c : cmpb cs d = true) : ∃ o, s.heap.get? p = some o ∧ MR.clsAt G d = some o.cls := by
  cases h with
  | cl c' => simp [cmpb] at c
  | tup h a z =>
    rw [← hK] at h
    obtain ⟨its, _, ⟨o, h1, h2, _⟩, _⟩ := I.tuple h
    exact ⟨o, h1, by rw [h2]; rfl⟩
  | lst f h a z =>
    obtain ⟨its, _, ⟨o, k, h1, h2, _⟩, _⟩ := I.list (SqL.of h)
    exact ⟨o, h1, by rw [h2]; rfl⟩
  | scr h z => simp [cmpb] at c
  | dic f h a z => simp [cmpb] at c
  | ins f h a =>
    obtain ⟨mA, J, _⟩ := ins_get I.hok h
    exact ⟨_, J.obj, rfl⟩
  | err0 f h => simp [cmpb] at c
  | errD f h f2 h2 a => simp [cmpb] at c
  | lam g e h f hc => simp [cmpb] at c
  | dnk g h a z => simp [cmpb] at c
theorem cls_ne {d d' : IV} {pins : List (Addr × Obj)} {s : Shared} {p : Addr} (I : Inv X pins σ H s) (hK : X.K = G.K) (h : Fz G F H (.ref p) d) (c : cmpb cs d = true) (h' : Fz G F H (.ref p) d') (c' : cmpb cs d' = true) : MR.clsAt G d = MR.clsAt G d' := by
  obtain ⟨o, e1, e2⟩ := h.clsAt I hK c
  obtain ⟨o', e1', e2'⟩ := h'.clsAt I hK c'
  rw [e1] at e1'
  cases e1'
  rw [e2, e2']
mutual
theorem Fz.inj {pins : List (Addr × Obj)} {s : Shared} (I : Inv X pins σ H s) (hK : X.K = G.K) (k : KC G cs) : ∀ {v : V} {d d' : IV}, Fz G F H v d → Fz G F H v d' → cmpb cs d = true → cmpb cs d' = true → d = d'
  | _, _, _, .non, h', _, _ => by cases h'; rfl
  | _, _, _, .bl b, h', _, _ => by cases h'; rfl
  | _, _, _, .int i, h', _, _ => by cases h'; rfl
  | _, _, _, .str z, h', _, _ => by cases h'; rfl
  | _, _, _, .ty z, h', c, _ => by simp [cmpb] at c
  | _, _, _, .cl z, h', c, _ => by simp [cmpb] at c
  | _, _, _, .scr h z, h', c, _ => by simp [cmpb] at c
  | _, _, _, .dic f h a z, h', c, _ => by simp [cmpb] at c
  | _, _, _, .err0 f h, h', c, _ => by simp [cmpb] at c
  | _, _, _, .errD f h f2 h2 a, h', c, _ => by simp [cmpb] at c
  | _, _, _, .lam g e h f hc, h', c, _ => by simp [cmpb] at c
  | _, _, _, .dnk g h a z, h', c, _ => by simp [cmpb] at c
  | _, .tup ds, d', .tup (vs := vs) h a z, h', c, c' => by
    have e := cls_ne I hK (.tup (F := F) h a z) c h' c'
    cases d' with
    | tup ds' =>
      cases h' with
      | tup h2 a2 z2 =>
        rw [← hK] at h h2
        have ev := I.tuple_inj h h2
        subst ev
        rw [FzA.inj I hK k a a2 (by simpa only [cmpb] using c) (by simpa only [cmpb] using c')]
    | lst _ => simp [MR.clsAt] at e
    | ins _ _ => simp [MR.clsAt] at e
    | _ => simp [MR.clsAt] at e
  | _, .lst ds, d', .lst (vs := vs) f h a z, h', c, c' => by
    have e := cls_ne I hK (.lst f h a z) c h' c'
    cases d' with
    | lst ds' =>
      cases h' with
      | lst f2 h2 a2 z2 =>
        rw [h] at h2
        cases h2
        rw [FzA.inj I hK k a a2 (by simpa only [cmpb] using c) (by simpa only [cmpb] using c')]
    | tup _ => simp [MR.clsAt] at e
    | ins _ _ => simp [MR.clsAt] at e
    | _ => simp [MR.clsAt] at e
  | _, .ins cn ds, d', .ins (vs := vs) f h a, h', c, c' => by
    have e := cls_ne I hK (.ins f h a) c h' c'
    cases d' with
    | ins cn' ds' =>
      cases h' with
      | ins f2 h2 a2 =>
        simp only [cmpb, Bool.and_eq_true, decide_eq_true_eq] at c c'
        have ec : cn = cn' := k.inj c.1 c'.1 (by simpa [MR.clsAt] using e)
        subst ec
        rw [h] at h2
        cases h2
        rw [FzP.inj I hK k a a2 c.2 c'.2]
    | tup _ => simp [MR.clsAt] at e
    | lst _ => simp [MR.clsAt] at e
    | _ => simp [MR.clsAt] at e
theorem FzA.inj {pins : List (Addr × Obj)} {s : Shared} (I : Inv X pins σ H s) (hK : X.K = G.K) (k : KC G cs) : ∀ {vs : List V} {ds ds' : List IV}, FzA G F H vs ds → FzA G F H vs ds' → cmpbA cs ds = true → cmpbA cs ds' = true → ds = ds'
  | _, _, _, .nil, h', _, _ => by cases h'; rfl
  | _, _, _, .cons h t, h', c, c' => by
    cases h' with
    | cons h2 t2 =>
      simp only [cmpbA, Bool.and_eq_true] at c c'
      rw [Fz.inj I hK k h h2 c.1 c'.1, FzA.inj I hK k t t2 c.2 c'.2]
theorem FzP.inj {pins : List (Addr × Obj)} {s : Shared} (I : Inv X pins σ H s) (hK : X.K = G.K) (k : KC G cs) : ∀ {vs : List (Str × V)} {ds ds' : List (Str × IV)}, FzP G F H vs ds → FzP G F H vs ds' → cmpbP cs ds = true → cmpbP cs ds' = true → ds = ds'
  | _, _, _, .nil, h', _, _ => by cases h'; rfl
  | _, _, _, .cons h t, h', c, c' => by
    cases h' with
    | cons h2 t2 =>
      simp only [cmpbP, Bool.and_eq_true] at c c'
      rw [Fz.inj I hK k h h2 c.1 c'.1, FzP.inj I hK k t t2 c.2 c'.2]
end
/-! ### != by an own == -/
section
variable {M : Model} {prog : Program} {w : World} {A : Around} {E : Value → Shared → Prop} {s : Shared} {K : Frag} {x C f : Addr} {ox : Obj} {od : Option Obj} {b tb : Value}
theorem bound_ne {as : List Value} {Q : Option Value → Shared → Prop} (kin : K.In s.heap) (I : PySem.W.InstAt s.heap x ox C od) (hs : PySem.W.findIn K (.ref C) "__ne__" = some (some (.builtin "object.__ne__")))
    (h : wpAny M A (call (.builtin "object.__ne__") (.ref x :: as)) (fun v => Q (some v)) E s) : wpAny M A (callSpecialIfBound? (.ref x) "__ne__" as) Q E s := by
  have last : wpAny M A (call (.builtin "object.__ne__") ([.ref x] ++ as) >>= fun v => pure (some v)) Q E s := wpAny_bind (wpAny_mono h (fun v t q => wpAny_pure q) fun _ _ q => q)
  simp only [callSpecialIfBound?, bindSpecialIfBound?]
  refine wpAny_holding (wpAny_bind (wpAny_bind (wpAny_bind (I.type.here ((PySem.W.looks_findIn kin hs).here (wpAny_bind (wpAny_askSetting (wpAny_ite ?_))))))))
  split
  · exact wpAny_bind (wpAny_of_eq (F.cmp_object.ne.bind _) (wpAny_pure (by exact last)))
  · exact wpAny_tryCatch (wpAny_bind (wpAny_of_eq (F.cmp_object.ne.bind _) (wpAny_pure (by exact last))))
theorem entry_ne {Q : Fin → Shared → Prop} (hu : A.units < cLine) (kin : K.In s.heap) (I : PySem.W.InstAt s.heap x ox C od) (he : PySem.W.findIn K (.ref C) "__eq__" = some (some (.ref f))) (hf : PySem.W.isFn K (.ref f) = true)
    (h : wpAny M A (call (.ref f) [.ref x, b]) (fun v t => ∃ k, v = .bool k ∧ Q (.done (.ret (.bool (!k)))) t) E s) : wpAny M A (Builtin.«object.__ne__» ⟨[.ref x, b], []⟩) Q E s := by
  unfold Builtin.«object.__ne__»
  repeat (first
    | with_reducible refine wpAny_cRoomFor hu ?_
    | (refine wpAny_bind (m := callSpecialIfBound? (.ref x) (Str.ofString "__eq__") [b]) (PySem.W.ifBound_K kin I he hf (wpAny_mono h (fun v t hv => by
        obtain ⟨k, rfl, q⟩ := hv
        repeat (first | exact q | exact wpAny_pure q | exact wpAny_truthy_bool q | (refine wpAny_bind (m := truthy (.bool _)) (wpAny_truthy_bool ?_)) | wp_step)) fun _ _ z => z)))
    | wp_step)
theorem rc_ne {Q : Value → Shared → Prop} (hu : A.units + 1 < cLine) (kin : K.In s.heap) (I : PySem.W.InstAt s.heap x ox C od) (hm : PySem.W.mroIn K C (.type "object") = some true) (hs : PySem.W.findIn K (.ref C) "__ne__" = some (some (.builtin "object.__ne__")))
    (he : PySem.W.findIn K (.ref C) "__eq__" = some (some (.ref f))) (hf : PySem.W.isFn K (.ref f) = true) (hb : PySem.W.Looks (model prog w) s.heap (typeOf b) (.ref C))
    (h : wpAny (model prog w) A.in1 (call (.ref f) [.ref x, b]) (fun v t => ∃ k, v = .bool k ∧ Q (.bool (!k)) t) E s) : wpAny (model prog w) A (richCompare .NotEq (.ref x) b) Q E s := by
  have one : wpAny (model prog w) A (tryCompare (.ref x) "__ne__" b) (fun r t => ∃ v, r = some v ∧ Q v t) E s := by
    unfold tryCompare
    refine wpAny_bind (bound_ne kin I hs (wpAny_call (codeAny_call_builtin F.cmp_object.ne.plain F.cmpEntry_ne (PySem.W.check_slot F.cmpKind_ne F.cmpSplit_ne (I.type.andThen (PySem.W.looks_mroIn kin hm)) (F.cmpArgs_ne _ _) ?_))))
    refine entry_ne (A := A.in1) hu kin I he hf (wpAny_mono h (fun v t hv => ?_) fun _ _ z => z)
    obtain ⟨k, rfl, q⟩ := hv
    first | exact ⟨k, rfl, wpAny_pure ⟨_, rfl, q⟩⟩ | exact ⟨k, rfl, wpAny_pure (wpAny_pure ⟨_, rfl, q⟩)⟩ | exact ⟨k, rfl, ⟨_, rfl, q⟩⟩
  simp only [richCompare, cmpInfo_NotEq, oneThing_ref]
  refine wpAny_holding (wpAny_bind (wpAny_cRoomFor (by omega) ?_))
  refine wpAny_bind (I.type.here (wpAny_bind (hb.here ?_)))
  rw [show (Value.ref C != Value.ref C) = false from by simp]
  simp only [Bool.false_eq_true, if_false]
  refine wpAny_bind (wpAny_pure ?_)
  simp only [Bool.false_eq_true, if_false]
  refine wpAny_bind (wpAny_mono one (fun r t z => ?_) fun _ _ z => z)
  obtain ⟨v, rfl, q⟩ := z
  exact wpAny_pure q
end
end
end MR
set_option maxRecDepth 100000
set_option maxHeartbeats 4000000
/-! MirQ: == over tuples and instances. -/
namespace MR
open PySem L2 PyProof.Rows
section
variable {X : Cx} {G : Gx} {W : WX} {σ : L2.St} {H : Hp} {F : AP1} {fp : FPt} {ρ : Env} {cs : List String} {pin : List Nat} {n m : Nat}
abbrev EQf := IV → IV → Option Bool
/-- what an answer leaves -/
def Aft (X : Cx) (pins : List (Addr × Obj)) (σ : L2.St) (H : Hp) (F : AP1) (s' : Shared) : Prop := ∃ H' F', Inv X pins σ H' s' ∧ Fr H F H' F' ∧ ∀ a, F' a → H' a ≠ none
def EqM (X : Cx) (G : Gx) (n : Nat) (f : EQf) : Prop := ∀ (A : Around) (pins : List (Addr × Obj)) (s : Shared) (σ : L2.St) (H : Hp) (F : AP1) (x y : V) (u v : Value) (dx dy : IV) (b : Bool), Sub X n A → Inv X pins σ H s → RelV x u → RelV y v →
  (∀ a, F a → H a ≠ none) → Fz G F H x dx → Fz G F H y dy → f dx dy = some b → wpAny (model X.prog X.w) A (eqBool u v) (fun r s' => r = b ∧ Aft X pins σ H F s') X.xe s
def RcM (X : Cx) (G : Gx) (op : CmpOp) (n : Nat) (f : EQf) : Prop := ∀ (A : Around) (pins : List (Addr × Obj)) (s : Shared) (σ : L2.St) (H : Hp) (F : AP1) (x y : V) (u v : Value) (dx dy : IV) (b : Bool), Sub X n A → Inv X pins σ H s → RelV x u → RelV y v →
  (∀ a, F a → H a ≠ none) → Fz G F H x dx → Fz G F H y dy → f dx dy = some b → wpAny (model X.prog X.w) A (richCompare op u v) (fun r s' => r = .bool b ∧ Aft X pins σ H F s') X.xe s
theorem EqM.mono {f : EQf} (h : EqM X G n f) (hn : n ≤ m) : EqM X G m f := fun A pins s σ H F x y u v dx dy b sb => h A pins s σ H F x y u v dx dy b (sb.mono hn)
theorem RcM.mono {op : CmpOp} {f : EQf} (h : RcM X G op n f) (hn : n ≤ m) : RcM X G op m f := fun A pins s σ H F x y u v dx dy b sb => h A pins s σ H F x y u v dx dy b (sb.mono hn)
def orQ (f g : EQf) : EQf := fun x y => match f x y with
  | some b => some b
  | none => g x y
theorem orQ_some {f g : EQf} {x y : IV} {b : Bool} (h : orQ f g x y = some b) : f x y = some b ∨ g x y = some b := by
  unfold orQ at h
  split at h
  · rename_i b' hb; cases h; exact Or.inl hb
  · exact Or.inr h
theorem EqM.or {f g : EQf} (h : EqM X G n f) (h' : EqM X G n g) : EqM X G n (orQ f g) := fun A pins s σ H F x y u v dx dy b sb I rx ry ft hx hy e => (orQ_some e).elim (h A pins s σ H F x y u v dx dy b sb I rx ry ft hx hy) (h' A pins s σ H F x y u v dx dy b sb I rx ry ft hx hy)
theorem RcM.or {op : CmpOp} {f g : EQf} (h : RcM X G op n f) (h' : RcM X G op n g) : RcM X G op n (orQ f g) := fun A pins s σ H F x y u v dx dy b sb I rx ry ft hx hy e => (orQ_some e).elim (h A pins s σ H F x y u v dx dy b sb I rx ry ft hx hy) (h' A pins s σ H F x y u v dx dy b sb I rx ry ft hx hy)
/-! ### data -/
/-! ### tuples -/
def eqL (f : EQf) : List IV → List IV → Option Bool
  | x :: xs, y :: ys => match f x y, eqL f xs ys with
    | some a, some b => some (a && b)
    | _, _ => none
  | [], [] => some true
  | _, _ => some false
def tupQ (f : EQf) : EQf := fun x y => match x, y with
  | .tup xs, .tup ys => eqL f xs ys
  | _, _ => none
/-- the i-th answer -/
def ansQ (f : EQf) (xs ys : List IV) (i : Nat) : Bool := match xs[i]?, ys[i]? with
  | some x, some y => (f x y).getD false
  | _, _ => false
theorem eqL_ans {f : EQf} : ∀ {xs ys : List IV} {b : Bool}, eqL f xs ys = some b → (∀ (i : Nat) x y, xs[i]? = some x → ys[i]? = some y → f x y = some (ansQ f xs ys i)) ∧ b = ((List.range (min xs.length ys.length)).all (ansQ f xs ys) && xs.length == ys.length)
  | [], [], b, h => by cases h; exact ⟨fun i x y e => by simp at e, rfl⟩
  | [], y :: ys, b, h => by cases h; exact ⟨fun i x y e => by simp at e, by simp⟩
  | x :: xs, [], b, h => by cases h; exact ⟨fun i x y _ e => by simp at e, by simp⟩
  | x :: xs, y :: ys, b, h => by
    simp only [eqL] at h
    split at h
    · rename_i a b' h1 h2
      cases h
      obtain ⟨g1, g2⟩ := eqL_ans h2
      have e0 : ansQ f (x :: xs) (y :: ys) 0 = a := by simp [ansQ, h1]
      have es : ∀ i, ansQ f (x :: xs) (y :: ys) (i + 1) = ansQ f xs ys i := fun i => by simp [ansQ]
      refine ⟨fun i x' y' e1 e2 => ?_, ?_⟩
      · cases i with
        | zero =>
          simp at e1 e2
          subst e1; subst e2
          rw [e0]; exact h1
        | succ i =>
          rw [es]
          exact g1 i x' y' (by simpa using e1) (by simpa using e2)
      · have em : min (x :: xs).length (y :: ys).length = min xs.length ys.length + 1 := by simp [Nat.succ_min_succ]
        have el : ((x :: xs).length == (y :: ys).length) = (xs.length == ys.length) := by simp
        have hmap : ((List.range (min xs.length ys.length)).map Nat.succ).all (ansQ f (x :: xs) (y :: ys)) = (List.range (min xs.length ys.length)).all (ansQ f xs ys) := by
          rw [List.all_map]
          congr 1
        rw [em, el, List.range_succ_eq_map, List.all_cons, e0, hmap, g2, Bool.and_assoc]
    · cases h
theorem rcM_tup (hK : X.K = G.K) {f : EQf} (h : EqM X G n f) : RcM X G .Eq (n + 1) (tupQ f) := by
  intro A pins s σ H F x y u v dx dy b sb I rx ry ft hx hy e
  unfold tupQ at e
  split at e
  · rename_i xs ys
    obtain ⟨g1, g2⟩ := eqL_ans e
    cases hx with
    | @tup p vs _ hq a z =>
      cases hy with
      | @tup q ws _ hq2 a2 z2 =>
        cases rx
        cases ry
        rw [← hK] at hq hq2
        obtain ⟨its, r, t1, _⟩ := I.tuple hq
        obtain ⟨its2, r2, t2, _⟩ := I.tuple hq2
        have l1 : its.length = xs.length := by rw [← r.length, a.len]
        have l2 : its2.length = ys.length := by rw [← r2.length, a2.len]
        refine rc_tupM sb.room.units0 (ansQ f xs ys) (fun _ t => Aft X pins σ H F t) t1 t2 (fun i h1 h2 t J => ?_) (fun i t J => ⟨by rw [List.size_toArray, List.size_toArray, l1, l2, g2], J⟩) ⟨H, F, I, Fr.refl _ _, ft⟩
        obtain ⟨H1, F1, I1, fr1, ft1⟩ := J
        have k1 : i < its.length := by simpa using h1
        have k2 : i < its2.length := by simpa using h2
        have x1 : i < xs.length := by omega
        have x2 : i < ys.length := by omega
        obtain ⟨v1, b1, b2⟩ := a.get (List.getElem?_eq_getElem x1)
        obtain ⟨v2, b3, b4⟩ := a2.get (List.getElem?_eq_getElem x2)
        obtain ⟨u1, c1, c2⟩ := r.get b1
        obtain ⟨u2, c3, c4⟩ := r2.get b3
        have d1 : its.toArray[i] = u1 := by rw [List.getElem?_eq_getElem k1] at c1; simpa using c1
        have d2 : its2.toArray[i] = u2 := by rw [List.getElem?_eq_getElem k2] at c3; simpa using c3
        rw [d1, d2]
        refine wpAny_mono (h A.in1 pins t σ H1 F1 v1 v2 u1 u2 _ _ _ sb.in1 I1 c2 c4 ft1 (b2.mono fr1.stq) (b4.mono fr1.stq) (g1 i _ _ (List.getElem?_eq_getElem x1) (List.getElem?_eq_getElem x2))) (fun r t' q => ?_) fun _ _ z => z
        obtain ⟨q1, H2, F2, I2, fr2, ft2⟩ := q
        exact ⟨q1, H2, F2, I2, fr1.trans fr2, ft2⟩
  · cases e
/-! ### instances -/
def insQ (c : String) (fn : Fn) : EQf := fun x y => match x, y with
  | .ins c1 f1, .ins c2 f2 => if c1 = c ∧ c2 = c then (match fn [.ins c1 f1, .ins c2 f2] with
    | .ok (.bl b) [] => some b
    | _ => none) else none
  | _, _ => none
def insN (c : String) (fn : Fn) : EQf := fun x y => (insQ c fn x y).map (!·)
/-- an own == keeps its promise -/
structure EqF (X : Cx) (G : Gx) (n : Nat) (c : String) (fn : Fn) (f : Addr) (fd : FuncData) (ps : List Str) : Prop where
  ok : FnOk X.prog X.w X.K X.mg X.base (L2.CX X.prog X.w) n f fd ps (spOf G [false, false] fn)
  eq : PySem.W.findIn X.K (.ref (G.cls c)) "__eq__" = some (some (.ref f))
  fn_ : PySem.W.isFn X.K (.ref f) = true
  bi : Binds X.K fd ps []
theorem insQ_inv {c : String} {fn : Fn} {x y : IV} {b : Bool} (h : insQ c fn x y = some b) : ∃ f1 f2, x = .ins c f1 ∧ y = .ins c f2 ∧ fn [.ins c f1, .ins c f2] = .ok (.bl b) [] := by
  unfold insQ at h
  split at h
  · split at h
    · rename_i hc
      obtain ⟨rfl, rfl⟩ := hc
      split at h
      · rename_i b' hb; cases h; exact ⟨_, _, rfl, rfl, hb⟩
      · cases h
    · cases h
  · cases h
theorem ins_sp {c : String} {fn : Fn} {f1 f2 : List (Str × IV)} {b : Bool} {x y : V} (ft : ∀ a, F a → H a ≠ none) (hx : Fz G F H x (.ins c f1)) (hy : Fz G F H y (.ins c f2)) (hf : fn [.ins c f1, .ins c f2] = .ok (.bl b) []) {Q : VK}
    (hQ : ∀ H' F', Fr H F H' F' → (∀ a, F' a → H' a ≠ none) → Q (.bl b) H') (E : XK) : spOf G [false, false] fn [x, y] H Q E := by
  refine ⟨rfl, [.ins c f1, .ins c f2], F, fun _ _ => False, rfl, ?_, ?_⟩
  · refine ⟨fun j d z => ?_, fun j d z => ?_, fun _ _ _ h => h.elim, fun _ _ h => h.elim, fun _ _ h => h.elim, fun _ _ _ h => h.elim, ft, rfl⟩
    · cases j with
      | zero => cases z; exact ⟨x, rfl, hx⟩
      | succ j => cases j with
        | zero => cases z; exact ⟨y, rfl, hy⟩
        | succ j => simp [envOf] at z
    · cases j with
      | zero => cases z
      | succ j => cases j with
        | zero => cases z
        | succ j => simp [envOf] at z
  · rw [hf]
    intro v H' F' fp' s e r
    cases r.bl_inv
    exact hQ H' F' ⟨fun a o h => s.keep a o h fun ⟨_, z⟩ => z, s.frm, fun a f => (s.fnew a f).elim Or.inl fun z => z.elim (fun ⟨_, z⟩ => z.elim) fun z => Or.inr ⟨z, e.ft a f⟩⟩ e.ft
theorem ins_run {c : String} {fn : Fn} {f : Addr} {fd : FuncData} {ps : List Str} (h : EqF X G n c fn f fd ps) {A : Around} {pins : List (Addr × Obj)} {s : Shared} {x y : V} {u v : Value} {f1 f2 : List (Str × IV)} {b : Bool} (sb : Sub X n A) (I : Inv X pins σ H s) (rx : RelV x u) (ry : RelV y v)
    (ft : ∀ a, F a → H a ≠ none) (hx : Fz G F H x (.ins c f1)) (hy : Fz G F H y (.ins c f2)) (hf : fn [.ins c f1, .ins c f2] = .ok (.bl b) []) :
    wpAny (model X.prog X.w) A (call (.ref f) [u, v]) (fun r s' => r = .bool b ∧ Aft X pins σ H F s') X.xe s := by
  have hsp := ins_sp ft hx hy hf (Q := fun v H' => v = .bl b ∧ ∃ F', Fr H F H' F' ∧ ∀ a, F' a → H' a ≠ none) (fun H' F' fr ft' => ⟨rfl, F', fr, ft'⟩) (fun _ _ _ => False)
  have e0 : Env0 X.prog X.w X.K X.mg X.base A X.stack s H := by
    have e := I.env0
    exact ⟨by rw [sb.fr]; exact e.frames, e.mod, e.bs, e.bsz, e.funs, e.frf, e.hok, e.bare⟩
  have hl := h.ok.len _ _ _ _ hsp
  have r2 : Vals [x, y] [u, v] := .cons rx (.cons ry .nil)
  have hb := h.bi s [u, v] I.kIn (by rw [List.append_nil, r2.length.symm]; exact hl)
  rw [List.append_nil] at hb
  refine wpAny_call (codeAny_mono (h.ok.run A X.stack s H ⟨[u, v], []⟩ [u, v] [x, y] _ (fun _ _ _ => False) sb.room e0 hb r2 hsp) fun r s' hq => ?_)
  cases r with
  | error e => obtain ⟨_, _, _, _, _, _, _, _, _, _, _, _, hE⟩ := hq; exact hE.elim
  | ok fl => cases fl with
    | ret w =>
      obtain ⟨z, H', I', rz, ez, F', fr, ft'⟩ := I.after hq
      subst ez
      cases rz
      exact ⟨rfl, H', F', I', fr, ft'⟩
    | next => exact hq.elim
    | brk => exact hq.elim
    | cont => exact hq.elim
theorem rcM_ins {c : String} {fn : Fn} {f : Addr} {fd : FuncData} {ps : List Str} (h : EqF X G n c fn f fd ps) : RcM X G .Eq n (insQ c fn) := by
  intro A pins s σ H F x y u v dx dy b sb I rx ry ft hx hy e
  obtain ⟨f1, f2, rfl, rfl, hf⟩ := insQ_inv e
  have hrun := ins_run h sb I rx ry ft hx hy hf
  cases hx with
  | @ins p dxx _ vs _ fx hp a =>
    cases hy with
    | @ins q dyy _ ws _ fy hq a2 =>
      cases rx
      cases ry
      obtain ⟨mA, J, _⟩ := ins_get I.hok hp
      obtain ⟨mB, J2, _⟩ := ins_get I.hok hq
      obtain ⟨od, J, _⟩ := J.look
      obtain ⟨od2, J2, _⟩ := J2.look
      obtain ⟨mm, hF⟩ := I.fr
      refine PySem.W.cmp_K (op := .Eq) (tb := .ref (G.cls c)) sb.room.units0 hF I.ok.mod.kin J J2.type (by simp [PySem.W.notFirst]) h.eq h.fn_ ?_
      refine wpAny_mono hrun (fun r s' q => ?_) fun _ _ z => z
      obtain ⟨rfl, q⟩ := q
      exact ⟨rfl, q⟩
theorem rcM_insN {c : String} {fn : Fn} {f : Addr} {fd : FuncData} {ps : List Str} (h : EqF X G n c fn f fd ps) (hm : PySem.W.mroIn X.K (G.cls c) (.type "object") = some true) (hs : PySem.W.findIn X.K (.ref (G.cls c)) "__ne__" = some (some (.builtin "object.__ne__"))) : RcM X G .NotEq (n + 1) (insN c fn) := by
  intro A pins s σ H F x y u v dx dy b sb I rx ry ft hx hy e
  obtain ⟨b', e', rfl⟩ := Option.map_eq_some_iff.mp e
  obtain ⟨f1, f2, rfl, rfl, hf⟩ := insQ_inv e'
  have hrun := ins_run h sb.in1 I rx ry ft hx hy hf
  cases hx with
  | @ins p dxx _ vs _ fx hp a =>
    cases hy with
    | @ins q dyy _ ws _ fy hq a2 =>
      cases rx
      cases ry
      obtain ⟨mA, J, _⟩ := ins_get I.hok hp
      obtain ⟨mB, J2, _⟩ := ins_get I.hok hq
      obtain ⟨od, J, _⟩ := J.look
      obtain ⟨od2, J2, _⟩ := J2.look
      refine rc_ne (by have := sb.room.units; omega) I.kIn J hm hs h.eq h.fn_ J2.type (wpAny_mono hrun (fun r s' q => ?_) fun _ _ z => z)
      obtain ⟨rfl, q⟩ := q
      exact ⟨b', rfl, rfl, q⟩
/-! ### the same object -/
mutual
def same : IV → IV → Bool
  | .non, .non => true
  | .bl a, .bl b => a == b
  | .int a, .int b => a == b
  | .str a, .str b => a == b
  | .tup a, .tup b => sameA a b
  | .lst a, .lst b => sameA a b
  | .ins c f, .ins c' f' => c == c' && sameP f f'
  | _, _ => false
def sameA : List IV → List IV → Bool
  | [], [] => true
  | x :: xs, y :: ys => same x y && sameA xs ys
  | _, _ => false
def sameP : List (Str × IV) → List (Str × IV) → Bool
  | [], [] => true
  | (k, x) :: xs, (k', y) :: ys => k == k' && same x y && sameP xs ys
  | _, _ => false
end
mutual
theorem same_rfl : ∀ (d : IV), cmpb cs d = true → same d d = true
  | .non, _ => rfl
  | .bl b, _ => by simp [same]
  | .int b, _ => by simp [same]
  | .str b, _ => by simp [same]
  | .ty b, h => by simp [cmpb] at h
  | .cl b, h => by simp [cmpb] at h
  | .scr b, h => by simp [cmpb] at h
  | .dic b, h => by simp [cmpb] at h
  | .drw _ _ _ _, h => by simp [cmpb] at h
  | .tup xs, h => by simp only [same]; exact sameA_rfl xs (by simpa only [cmpb] using h)
  | .lst xs, h => by simp only [same]; exact sameA_rfl xs (by simpa only [cmpb] using h)
  | .ins c f, h => by
    simp only [cmpb, Bool.and_eq_true] at h
    simp only [same, beq_self_eq_true, Bool.true_and]
    exact sameP_rfl f h.2
theorem sameA_rfl : ∀ (d : List IV), cmpbA cs d = true → sameA d d = true
  | [], _ => rfl
  | x :: xs, h => by
    simp only [cmpbA, Bool.and_eq_true] at h
    simp only [sameA, Bool.and_eq_true]
    exact ⟨same_rfl x h.1, sameA_rfl xs h.2⟩
theorem sameP_rfl : ∀ (d : List (Str × IV)), cmpbP cs d = true → sameP d d = true
  | [], _ => rfl
  | (k, x) :: xs, h => by
    simp only [cmpbP, Bool.and_eq_true] at h
    simp only [sameP, beq_self_eq_true, Bool.true_and, Bool.and_eq_true]
    exact ⟨same_rfl x h.1, sameP_rfl xs h.2⟩
end
/-- inside a container: the same object is equal to itself -/
def rfQ (cs : List String) (f : EQf) : EQf := fun x y => if (cmpb cs x && cmpb cs y && isRf x && isRf y) = true then (match f x y with
  | some b => if (b || !same x y) = true then some b else none
  | none => none) else none
where isRf : IV → Bool
  | .tup _ => true
  | .lst _ => true
  | .ins _ _ => true
  | _ => false
theorem Fz.rf {v : V} {d : IV} (h : Fz G F H v d) (r : rfQ.isRf d = true) : ∃ a, v = .ref a := by
  cases h <;> first | exact ⟨_, rfl⟩ | cases r
theorem RcM.eqM (hK : X.K = G.K) (k : KC G cs) {f : EQf} (h : RcM X G .Eq n f) : EqM X G n (rfQ cs f) := by
  intro A pins s σ H F x y u v dx dy b sb I rx ry ft hx hy e
  unfold rfQ at e
  split at e
  · rename_i hc
    simp only [Bool.and_eq_true] at hc
    obtain ⟨⟨⟨c1, c2⟩, c3⟩, c4⟩ := hc
    split at e
    · rename_i b' hf
      split at e
      · rename_i hb
        cases e
        obtain ⟨a, rfl⟩ := hx.rf c3
        obtain ⟨a2, rfl⟩ := hy.rf c4
        cases rx
        cases ry
        by_cases hab : a = a2
        · subst hab
          have ed := Fz.inj I hK k hx hy c1 c2
          subst ed
          rw [same_rfl dx c1] at hb
          simp at hb
          subst hb
          exact SeqAt.EqAt.same (A := A) (s := s) (.ref a) X.prog X.w X.xe _ ⟨rfl, H, F, I, Fr.refl _ _, ft⟩
        · refine GQ.eqBool_refG hab (wpAny_mono (h A pins s σ H F (.ref a) (.ref a2) _ _ dx dy b sb I rfl rfl ft hx hy hf) (fun r s' q => ?_) fun _ _ z => z)
          exact ⟨b, q.1, rfl, q.2⟩
      · cases e
    · cases e
  · cases e
/-! ### as operators -/
def rM (G : Gx) (f : EQf) : R2 := fun x y H Q => ∃ F dx dy b, (∀ a, F a → H a ≠ none) ∧ Fz G F H x dx ∧ Fz G F H y dy ∧ f dx dy = some b ∧ ∀ H' F', Fr H F H' F' → Q (.bl b) H'
theorem RcM.op {f : EQf} {op : CmpOp} (h : RcM X G op n f) (hr : Room n X.A) (ho : compareOp op = richCompare op) : OpR X (compareOp op) (rM G f) := by
  intro pins s σ H x y v u Q I rx ry hq
  obtain ⟨F, dx, dy, b, ft, hx, hy, e, q⟩ := hq
  rw [ho]
  refine wpAny_mono (h X.A pins s σ H F x y v u dx dy b ⟨hr, rfl⟩ I rx ry ft hx hy e) (fun r s' z => ?_) fun _ _ z => z
  obtain ⟨rfl, H', F', I', fr, _⟩ := z
  exact ⟨.bl b, H', I', rfl, q H' F' fr⟩
def oM (f : EQf) (x y : IV) : Option IV := (f x y).map IV.bl
theorem q_M {f : EQf} {A B : E} : ∀ σ H Q, teOf G W (iBin (oM f) A B) σ H Q → tOp (rM G f) (teOf G W A) (teOf G W B) σ H Q := by
  rintro σ H Q ⟨ρ, F, fp, e, h⟩
  refine oc_bind e h fun x dx ρ1 H1 F1 fp1 s1 e1 r1 h1 => ?_
  refine oc_bind e1 h1 fun y dy ρ2 H2 F2 fp2 s2 e2 r2 h2 => ?_
  have r1' : Fz G F2 H2 x dx := Fz.mono (e1.stq s2) r1
  cases hf : oM f dx dy with
  | none => rw [hf] at h2; exact h2.elim
  | some d =>
    rw [hf] at h2
    obtain ⟨b, e3, rfl⟩ := Option.map_eq_some_iff.mp hf
    exact ⟨F2, dx, dy, b, e2.ft, r1', r2, e3, fun H' F' fr => oc_ok h2 e2 fr (.bl b)⟩
theorem q_MT {f : EQf} {A B : E} : ∀ σ H Q, ttOf G W (iCmp (oM f) A B) σ H Q → tTest (tOp (rM G f) (teOf G W A) (teOf G W B)) σ H Q := by
  rintro σ H Q ⟨ρ, F, fp, e, h⟩
  refine oc_bind e h fun x dx ρ1 H1 F1 fp1 s1 e1 r1 h1 => ?_
  refine oc_bind e1 h1 fun y dy ρ2 H2 F2 fp2 s2 e2 r2 h2 => ?_
  have r1' : Fz G F2 H2 x dx := Fz.mono (e1.stq s2) r1
  cases hf : f dx dy with
  | none => simp only [oM, hf, Option.map] at h2; exact h2.elim
  | some b =>
    simp only [oM, hf, Option.map] at h2
    exact ⟨F2, dx, dy, b, e2.ft, r1', r2, hf, fun H' F' fr => ⟨b, rfl, h2 b H' F' fp2 (fr.stp _) (e2.fr fr) rfl⟩⟩
theorem m_M {op : CmpOp} {f : EQf} {a b : Expr} {A B : E} {pos : Pos} (ho : OpR X (compareOp op) (rM G f)) (ha : PE X a (teOf G W A)) (hb : PE X b (teOf G W B)) (hm : behindInMarks op b = false := by first | exact nobehind _ (by decide) (by decide) | rfl) :
    PE X (.Compare a [op] [b] pos) (teOf G W (iBin (oM f) A B)) := PE.imp (pe_cmpR ho ha hb hm) q_M
theorem n_M {op : CmpOp} {f : EQf} {a b : Expr} {A B : E} {pos : Pos} (ho : OpR X (compareOp op) (rM G f)) (ha : PE X a (teOf G W A)) (hb : PE X b (teOf G W B)) (hm : behindInMarks op b = false := by first | exact nobehind _ (by decide) (by decide) | rfl) :
    PT X (.Compare a [op] [b] pos) (ttOf G W (iCmp (oM f) A B)) := PT.imp (pt_cmpR ho ha hb hm) q_MT
end
end MR
set_option maxRecDepth 100000
set_option maxHeartbeats 4000000
/-! MirR: the draw: reads, stores, pop, its begin. -/
namespace MR
open PySem L2 PyProof.Rows
section
variable {X : Cx} {G : Gx} {W : WX} {σ : L2.St} {H : Hp} {F : AP1} {fp : FPt} {ρ : Env} {cs : List String} {pin : List Nat}
abbrev drKV (l c : Addr) (rest turn : Int) : List (Key × V) := [(.inr "large", .ref l), (.inr "rest", .int rest), (.inr "cells", .ref c), (.inr "turn", .int turn)]
theorem dr_putR {l c : Addr} {r t v : Int} : L2.putK (drKV l c r t) (.inr "rest") (.int v) = drKV l c v t := rfl
theorem dr_putT {l c : Addr} {r t v : Int} : L2.putK (drKV l c r t) (.inr "turn") (.int v) = drKV l c r v := rfl
def iDrRest (i : Nat) : E := fun ρ => match ρ[i]? with
  | some (.ow (.drw lg cl rest turn)) => .ok (.int rest) ρ
  | _ => .no
def iDrTurn (i : Nat) : E := fun ρ => match ρ[i]? with
  | some (.ow (.drw lg cl rest turn)) => .ok (.int turn) ρ
  | _ => .no
def iDrCells (i : Nat) : E := fun ρ => match ρ[i]? with
  | some (.ow (.drw lg cl rest turn)) => .ok (.lst (cl.map .int)) ρ
  | _ => .no
/-- the entry of a key, by HandS's reading -/
theorem dr_ix (hu : X.A.units + 1 < cLine) (i : Nat) {x key : Str} {j : Nat} {npos kpos pos : Pos} (hN : X.N[i]? = some x) (hv : Vis X.env.scope x) (hd : (x == ("__debug__" : Str)) = false) (hcd : (x == ("__classdict__" : Str)) = false) :
    PE X (.Subscript (.Name x npos) (.Constant (.str key) j kpos) pos) (tOp rDg (tVar i) (tC (.str key))) := pe_ix (ix_dg hu) (pe_var hN hv hd hcd) pe_str (fun _ _ => rfl)
section
variable (o : Ok X G W) (i : Nat) {x : Str} {j : Nat} {npos kpos pos : Pos} (hN : X.N[i]? = some x := by rfl) (hv : Vis X.env.scope x := by first | exact Or.inl rfl | exact Or.inr (Or.inl rfl) | exact Or.inr (Or.inr rfl))
  (hd : (x == ("__debug__" : Str)) = false := by decide) (hcd : (x == ("__classdict__" : Str)) = false := by decide)
include o hN hv hd hcd
theorem m_drRest : PE X (.Subscript (.Name x npos) (.Constant (.str "rest") j kpos) pos) (teOf G W (iDrRest i)) := PE.imp (dr_ix (by have := o.hu; omega) i hN hv hd hcd) fun σ H Q ⟨ρ, F, fp, en, h⟩ => by
  unfold iDrRest at h
  split at h
  · rename_i hd
    obtain ⟨v, e1, e2⟩ := en.ow i _ hd
    refine ⟨v, e1, ?_⟩
    cases e2 with
    | drw h1 h2 f h3 n1 z1 z2 e => exact ⟨_, _, rfl, (by have g := DGet.k (k := .inr "rest") h1; exact g), oc_ok h en (Fr.refl _ _) (.int _)⟩
  · exact h.elim
theorem m_drTurn : PE X (.Subscript (.Name x npos) (.Constant (.str "turn") j kpos) pos) (teOf G W (iDrTurn i)) := PE.imp (dr_ix (by have := o.hu; omega) i hN hv hd hcd) fun σ H Q ⟨ρ, F, fp, en, h⟩ => by
  unfold iDrTurn at h
  split at h
  · rename_i hd
    obtain ⟨v, e1, e2⟩ := en.ow i _ hd
    refine ⟨v, e1, ?_⟩
    cases e2 with
    | drw h1 h2 f h3 n1 z1 z2 e => exact ⟨_, _, rfl, (by have g := DGet.k (k := .inr "turn") h1; exact g), oc_ok h en (Fr.refl _ _) (.int _)⟩
  · exact h.elim
theorem m_drCells : PE X (.Subscript (.Name x npos) (.Constant (.str "cells") j kpos) pos) (teOf G W (iDrCells i)) := PE.imp (dr_ix (by have := o.hu; omega) i hN hv hd hcd) fun σ H Q ⟨ρ, F, fp, en, h⟩ => by
  unfold iDrCells at h
  split at h
  · rename_i hd
    obtain ⟨v, e1, e2⟩ := en.ow i _ hd
    refine ⟨v, e1, ?_⟩
    cases e2 with
    | drw h1 h2 f h3 n1 z1 z2 e => exact ⟨_, _, rfl, (by have g := DGet.k (k := .inr "cells") h1; exact g), oc_ok h en (Fr.refl _ _) (.lst f h3 (fz_ints _) (by rw [List.length_map]; exact z2))⟩
  · exact h.elim
end
/-! stores -/
def sDrRest (i : Nat) (m : E) : S := fun ρ => if isOw ρ[i]? = true then (m ρ).bindS fun d ρ1 => match d, ρ1[i]? with
  | .int v, some (.ow (.drw lg cl rest turn)) => .nx (ρ1.set i (.ow (.drw lg cl v turn)))
  | _, _ => .no else .no
def sDrTurn (i : Nat) (m : E) : S := fun ρ => if isOw ρ[i]? = true then (m ρ).bindS fun d ρ1 => match d, ρ1[i]? with
  | .int v, some (.ow (.drw lg cl rest turn)) => .nx (ρ1.set i (.ow (.drw lg cl rest v)))
  | _, _ => .no else .no
section
variable (o : Ok X G W) (i : Nat) {x : Str} {j : Nat} {e : Expr} {m : E} {npos kpos pos' pos : Pos} (he : PE X e (teOf G W m)) (hN : X.N[i]? = some x := by rfl)
  (hv : Vis X.env.scope x := by first | exact Or.inl rfl | exact Or.inr (Or.inl rfl) | exact Or.inr (Or.inr rfl))
  (hd : (x == ("__debug__" : Str)) = false := by decide) (hcd : (x == ("__classdict__" : Str)) = false := by decide)
include o he hN hv hd hcd
theorem s_drRest 
    (ha : ∀ v, assign (.Subscript (.Name x npos) (.Constant (.str "rest") j kpos) pos') X.env v = (do
      let ov ← holding [v] (eval (.Name x npos) X.env)
      let iv ← holding [v, ov] (eval (.Constant (.str "rest") j kpos) X.env)
      standAt pos'
      holding [v, ov, iv] (setItem ov iv v)
      release [v, ov, iv] []) := by intro _; rfl)
    (hs : swapsWithSole [.Subscript (.Name x npos) (.Constant (.str "rest") j kpos) pos'] e pos.line X.env = pure false := by rfl) (hw : swappedStores [.Subscript (.Name x npos) (.Constant (.str "rest") j kpos) pos'] e X.env = pure none := by rfl)
    (h1 : (assignEach [.Subscript (.Name x npos) (.Constant (.str "rest") j kpos) pos'] X.env).map (·.2) = [assign (.Subscript (.Name x npos) (.Constant (.str "rest") j kpos) pos') X.env] := by rfl) :
    PS X (.Assign [.Subscript (.Name x npos) (.Constant (.str "rest") j kpos) pos'] e pos) (tsOf G W pin (sDrRest i m)) :=
  PS.imp (ps_asg he (pg_sub (pe_var hN hv hd hcd) pe_str (set_dict (by have := o.hu; omega)) ha) hs hw h1) fun D σ H ⟨ρ, F, fp, en, h⟩ => by
    unfold sDrRest at h
    split at h
    · refine ocS_bind en h fun y d ρ1 H1 F1 fp1 s1 e1 r1 h1 => ?_
      split at h1
      · rename_i v lg cl rest turn hd
        cases r1.int_inv
        obtain ⟨u, g1, g2⟩ := e1.ow i _ hd
        refine ⟨u, g1, ?_⟩
        cases g2 with
        | @drw p l c _ _ _ _ _ k1 k2 f k3 n1 z1 z2 q =>
          have hq := (q p).mpr (Or.inl rfl)
          refine ⟨p, _, rfl, (DPut.k (k := .inr "rest") k1 (by rw [sizeLine_eq]; show 4 < 16777216; decide)), ?_⟩
          rw [dr_putR]
          have nl : l ≠ p := Ne.symm n1
          have nc : c ≠ p := fun z => e1.nf i p hq (by rw [← z]; exact f)
          exact h1 σ _ F1 fp1 (Stp.put hq) (e1.put hq g1 (fun z => z) (.drw upd_same (by rw [upd_ne nl]; exact k2) f (by rw [upd_ne nc]; exact k3) n1 z1 z2 q)) (Pn.refl _ _)
      · exact h1.elim
    · exact h.elim
theorem s_drTurn 
    (ha : ∀ v, assign (.Subscript (.Name x npos) (.Constant (.str "turn") j kpos) pos') X.env v = (do
      let ov ← holding [v] (eval (.Name x npos) X.env)
      let iv ← holding [v, ov] (eval (.Constant (.str "turn") j kpos) X.env)
      standAt pos'
      holding [v, ov, iv] (setItem ov iv v)
      release [v, ov, iv] []) := by intro _; rfl)
    (hs : swapsWithSole [.Subscript (.Name x npos) (.Constant (.str "turn") j kpos) pos'] e pos.line X.env = pure false := by rfl) (hw : swappedStores [.Subscript (.Name x npos) (.Constant (.str "turn") j kpos) pos'] e X.env = pure none := by rfl)
    (h1 : (assignEach [.Subscript (.Name x npos) (.Constant (.str "turn") j kpos) pos'] X.env).map (·.2) = [assign (.Subscript (.Name x npos) (.Constant (.str "turn") j kpos) pos') X.env] := by rfl) :
    PS X (.Assign [.Subscript (.Name x npos) (.Constant (.str "turn") j kpos) pos'] e pos) (tsOf G W pin (sDrTurn i m)) :=
  PS.imp (ps_asg he (pg_sub (pe_var hN hv hd hcd) pe_str (set_dict (by have := o.hu; omega)) ha) hs hw h1) fun D σ H ⟨ρ, F, fp, en, h⟩ => by
    unfold sDrTurn at h
    split at h
    · refine ocS_bind en h fun y d ρ1 H1 F1 fp1 s1 e1 r1 h1 => ?_
      split at h1
      · rename_i v lg cl rest turn hd
        cases r1.int_inv
        obtain ⟨u, g1, g2⟩ := e1.ow i _ hd
        refine ⟨u, g1, ?_⟩
        cases g2 with
        | @drw p l c _ _ _ _ _ k1 k2 f k3 n1 z1 z2 q =>
          have hq := (q p).mpr (Or.inl rfl)
          refine ⟨p, _, rfl, (DPut.k (k := .inr "turn") k1 (by rw [sizeLine_eq]; show 4 < 16777216; decide)), ?_⟩
          rw [dr_putT]
          have nl : l ≠ p := Ne.symm n1
          have nc : c ≠ p := fun z => e1.nf i p hq (by rw [← z]; exact f)
          exact h1 σ _ F1 fp1 (Stp.put hq) (e1.put hq g1 (fun z => z) (.drw upd_same (by rw [upd_ne nl]; exact k2) f (by rw [upd_ne nc]; exact k3) n1 z1 z2 q)) (Pn.refl _ _)
      · exact h1.elim
    · exact h.elim
end
/-! the large ones -/
def iDrLg (i : Nat) : EB := fun ρ => match ρ[i]? with
  | some (.ow (.drw lg cl rest turn)) => .ok (!lg.isEmpty) ρ
  | _ => .no
def iDrPop (i : Nat) : E := fun ρ => match ρ[i]? with
  | some (.ow (.drw (g :: lg) cl rest turn)) => .ok (.int g) (ρ.set i (.ow (.drw lg cl rest turn)))
  | _ => .no
theorem dpA_ints {K : Frag} : ∀ (ns : List Int), DpAll K H (ns.map V.int) (ns.map PyData.int)
  | [] => .nil
  | n :: ns => .cons (.int n) (dpA_ints ns)
theorem layA_ints : ∀ (ns : List Int), PyData.canLayAll0 (ns.map PyData.int) = true
  | [] => rfl
  | n :: ns => by
    rw [List.map_cons]
    simp only [PyData.canLayAll0, Bool.and_eq_true]
    exact ⟨rfl, layA_ints ns⟩
theorem shaped_ints (ns : List Int) : SeqAt.shaped (.list (ns.map PyData.int)) = true := by
  unfold SeqAt.shaped
  rw [Bool.and_eq_true, decide_eq_true_eq]
  refine ⟨layA_ints ns, ?_⟩
  show PyData.depth (.list (ns.map PyData.int)) ≤ 64
  simp only [PyData.depth]
  rw [PySem.W.depth_ints]
  decide
theorem eqv_nil (ns : List Int) : PyData.eqv (.list (ns.map PyData.int)) (.list []) = ns.isEmpty := by
  cases ns with
  | nil => rfl
  | cons n ns => rfl
theorem n_drLg (o : Ok X G W) (i : Nat) {x : Str} {j : Nat} {npos kpos spos lpos pos : Pos} (hN : X.N[i]? = some x := by rfl) (hv : Vis X.env.scope x := by first | exact Or.inl rfl | exact Or.inr (Or.inl rfl) | exact Or.inr (Or.inr rfl))
    (hd : (x == ("__debug__" : Str)) = false := by decide) (hcd : (x == ("__classdict__" : Str)) = false := by decide) :
    PT X (.Compare (.Subscript (.Name x npos) (.Constant (.str "large") j kpos) spos) [.NotEq] [.List [] lpos] pos) (ttOf G W (iDrLg i)) :=
  PT.imp (pt_cmpR (opNe o) (dr_ix (by have := o.hu; omega) i hN hv hd hcd) (pe_lst pa_nil) (by first | exact nobehind _ (by decide) (by decide) | rfl)) fun σ H Q ⟨ρ, F, fp, en, h⟩ => by
    unfold iDrLg at h
    split at h
    · rename_i lg cl rest turn hd
      obtain ⟨v, e1, e2⟩ := en.ow i _ hd
      refine ⟨v, e1, ?_⟩
      cases e2 with
      | @drw p l c _ _ _ _ _ h1 h2 f h3 n1 z1 z2 e =>
        refine ⟨p, .ref l, rfl, (by have g := DGet.k (k := .inr "large") h1; exact g), Nat.zero_le _, fun q hq => ?_⟩
        have fr : Fr H F (upd H q (.lst [])) F := Fr.new hq
        refine ⟨.list (lg.map PyData.int), .list [], .lst (SqL.of (fr.keep _ _ h2)) (dpA_ints lg), .lst (SqL.of upd_same) .nil, shaped_ints lg, rfl, !lg.isEmpty, by rw [eqv_nil], h _ _ F fp (fr.stp _) (en.fr fr) rfl⟩
    · exact h.elim
theorem m_drPop (o : Ok X G W) (i : Nat) {x : Str} {j : Nat} {k0 : Nat} {npos kpos spos zpos apos cpos : Pos} (hN : X.N[i]? = some x := by rfl) (hv : Vis X.env.scope x := by first | exact Or.inl rfl | exact Or.inr (Or.inl rfl) | exact Or.inr (Or.inr rfl))
    (hd : (x == ("__debug__" : Str)) = false := by decide) (hcd : (x == ("__classdict__" : Str)) = false := by decide)
    (hbase : attributeBase (.Subscript (.Name x npos) (.Constant (.str "large") j kpos) spos) "pop" X.env (eval (.Subscript (.Name x npos) (.Constant (.str "large") j kpos) spos) X.env) = eval (.Subscript (.Name x npos) (.Constant (.str "large") j kpos) spos) X.env := by rfl)
    (hfew : ((backTo cpos (starEach [.Constant (.int 0) k0 zpos] X.env)).all (fun x => !x.1) && (backToKw cpos (keywordEach [] X.env)).all (fun x => x.1.isSome)
      && decide (([.Constant (.int 0) k0 zpos] : List Expr).length + ([] : List Keyword).length + (if ([] : List Keyword).isEmpty then 0 else 1) < 30)) = true := by rfl)
    (hline : (apos.endLine == cpos.line) = true := by rfl) (hs1 : starEach [.Constant (.int 0) k0 zpos] X.env = [(false, eval (.Constant (.int 0) k0 zpos) X.env)] := by rfl) :
    PE X (.Call (.Attribute (.Subscript (.Name x npos) (.Constant (.str "large") j kpos) spos) "pop" apos) [.Constant (.int 0) k0 zpos] [] cpos) (teOf G W (iDrPop i)) := by
  have hm : MtR X "list.pop" rPopAt := mt_popAt
  refine PE.imp (pe_bm PySem.F.plainAttrs_list PySem.F.slot_list_pop PySem.F.type_list_pop hm (dr_ix (by have := o.hu; omega) i hN hv hd hcd) (pa_cons pe_int pa_nil hs1) hbase hfew hline hs1 rfl) ?_
  rintro σ H Q ⟨ρ, F, fp, en, h⟩
  unfold iDrPop at h
  split at h
  · rename_i g lg cl rest turn hd
    obtain ⟨v, e1, e2⟩ := en.ow i _ hd
    refine ⟨v, e1, ?_⟩
    cases e2 with
    | @drw p l c _ _ _ _ _ h1 h2 f h3 n1 z1 z2 e =>
      have hq := (e l).mpr (Or.inr rfl)
      refine ⟨p, .ref l, rfl, (by have g := DGet.k (k := .inr "large") h1; exact g), Or.inl ⟨rfl, _, SqL.of h2⟩, ?_⟩
      refine ⟨l, (g :: lg).map V.int, 0, 0, .int g, rfl, rfl, h2, by decide, by decide, ?_, rfl, ?_⟩
      · unfold seqIndex?
        simp
      · have nc : c ≠ l := fun z => en.nf i l hq (by rw [← z]; exact f)
        exact h (.int g) _ F fp (Stp.put hq) (en.put hq e1 (fun z => z) (.drw (by rw [upd_ne n1]; exact h1) upd_same f (by rw [upd_ne nc]; exact h3) n1 (by rw [List.length_cons] at z1; omega) z2 e)) (.int g)
  · exact h.elim
end
end MR
set_option maxRecDepth 100000
set_option maxHeartbeats 4000000
/-! MirS: name = [..]; the draw's begin. -/
namespace MR
open PySem L2 PyProof.Rows
section
variable {X : Cx} {G : Gx} {W : WX} {σ : L2.St} {H : Hp} {F : AP1} {fp : FPt} {ρ : Env} {cs : List String} {pin : List Nat}
/-! ### name = [e for ..] on one line -/
section
variable (o : Ok X G W) (i : Nat) {y : Str} {py : Pos} {elt tg iter : Expr} {ifs : List Expr} {scope : Scope} {own : List (Str × Nat)} {pos spos : Pos} {M : EL} {t : TM} {l : List Nat} {ts : EB} {el : E} (hN : X.N.Nodup) (hi : PI X tg iter (tiOf G W M)) (ok : BlkOk X.N X.env.scope scope own)
  (hg : ∀ (s : Shared) (H : Hp) (C : Addr) (cl : List (Str × Addr)) (fp : List Addr), PG (X.blk s H scope (compEnvC scope cl C X.env) fp) tg (tgOf G l t)) (ht : ∀ (s : Shared) (H : Hp) (C : Addr) (cl : List (Str × Addr)) (fp : List Addr), PTs (X.blk s H scope (compEnvC scope cl C X.env) fp) ifs (ttOf G W0 ts))
  (he : ∀ (s : Shared) (H : Hp) (C : Addr) (cl : List (Str × Addr)) (fp : List Addr), PE (X.blk s H scope (compEnvC scope cl C X.env) fp) elt (teOf G W0 el)) (hl : ∀ i ∈ l, i ∈ own.map (·.2) := by decide) (hy : X.N[i]? = some y := by rfl) (hyl : X.env.scope.names.lookup y = some .local := by rfl)
  (hp : i ∉ pin := by decide) (hsw : swapsWith (.ListComp elt [⟨tg, iter, ifs, 0⟩] scope pos) (some (.Name y py)) spos.line X.env = pure true := by rfl) (hs : ∀ x, foldedSetIterable iter X.env x = pure x := by intro _; rfl)
include o hN hi ok hg ht he hl hy hyl hp hsw hs
theorem s_setLcO : PS X (.Assign [.Name y py] (.ListComp elt [⟨tg, iter, ifs, 0⟩] scope pos) spos) (tsOf G W pin (sSetO i (iLc M t ts el (own.map (·.2))))) :=
  PS.imp (ps_setLc o.calm hN hy hyl hsw hi ok hg ht he hs) fun D σ H h => q_lc hl _ _ _ (q_setO hp D σ H h)
theorem s_setLc : PS X (.Assign [.Name y py] (.ListComp elt [⟨tg, iter, ifs, 0⟩] scope pos) spos) (tsOf G W pin (sSet i (iLc M t ts el (own.map (·.2))))) :=
  PS.imp (ps_setLc o.calm hN hy hyl hsw hi ok hg ht he hs) fun D σ H h => q_lc hl _ _ _ (q_frz (iLc_fz _ _ _ _ _) _ _ _ (q_set hp D σ H h))
end
/-! ### the draw's begin -/
def aInt (i : Int) : Int := if i < 0 then -i else i
def lgOf (ns : List Int) : List Int := (ns.filter fun g => decide ((10 : Int) ^ 18 ≤ aInt g)).map fun g => aInt g - 10 ^ 18
def spB (G : Gx) : Sp := fun vs H Q _ => vs.length = 1 ∧ ∃ F ns, (∀ a, F a → H a ≠ none) ∧ FzA G F H vs [.scr ns] ∧ ∀ v H' F' q, Fr H F H' F' → Own G F' H' v (.drw (lgOf ns) (ns.map aInt) 0 0) q → New0 H H' F' q → Q v H'
abbrev trsB (G : Gx) (W : WX) (mC : E) : List (TE × TE) := [(tC (.str "large"), tVar 1), (tC (.str "rest"), tC (.int 0)), (tC (.str "cells"), toOf G W mC), (tC (.str "turn"), tC (.int 0))]
theorem own_ints {v : V} {ns : List Int} {q : AP1} (h : Own G F H v (.lst (ns.map IV.int)) q) : ∃ p, v = .ref p ∧ H p = some (.lst (ns.map V.int)) ∧ ns.length ≤ big ∧ ∀ a, q a ↔ a = p := by
  cases h with
  | @lst p vs _ _ hp a z e =>
    have hi : intsOf (ns.map IV.int) = some ns := by
      clear hp a z e
      induction ns with
      | nil => rfl
      | cons n ns ih => simp only [List.map_cons, intsOf, ih, Option.map]
    have ev := a.ints hi
    subst ev
    exact ⟨p, rfl, hp, by rw [List.length_map] at z; exact z, e⟩
theorem q_beg {mL mC : E} {ns : List Int} {vs : List V} {N : List Str} {Q : VK} {E : XK} (hL : mL [.fz (.scr ns), .un, .un] = .ok (.lst ((lgOf ns).map .int)) [.fz (.scr ns), .un, .un])
    (hC : mC [.fz (.scr ns), .ow (.lst ((lgOf ns).map .int)), .un] = .ok (.lst ((ns.map aInt).map .int)) [.fz (.scr ns), .ow (.lst ((lgOf ns).map .int)), .un]) (hN : N.length = 3) (h1 : vs.length = 1) (ft : ∀ a, F a → H a ≠ none) (fa : FzA G F H vs [.scr ns])
    (hQ : ∀ v H' F' q, Fr H F H' F' → Own G F' H' v (.drw (lgOf ns) (ns.map aInt) 0 0) q → New0 H H' F' q → Q v H') :
    tSeq (tsOf G W [] (sSetO 1 mL)) (tRet (tDisp (trsB G W mC))) { nx := fun _ H' => Q .non H', rt := Q } (L2.start N vs) H := by
  have e0 : EnvR G F H (vs.map some) (envOf [false] [.scr ns]) (fun _ _ => False) := by
    refine ⟨fun j d z => ?_, fun j d z => ?_, fun _ _ _ h => h.elim, fun _ _ h => h.elim, fun _ _ h => h.elim, fun _ _ _ h => h.elim, ft, by simp [envOf, h1]⟩
    · cases j with
      | zero =>
        cases z
        cases fa with
        | cons r t => exact ⟨_, rfl, r⟩
      | succ j => simp [envOf] at z
    · cases j with
      | zero => cases z
      | succ j => simp [envOf] at z
  have e1 := e0.start (N := N) h1
  rw [hN] at e1
  refine ⟨_, F, _, e1, ?_⟩
  show OcS G W [] (L2.start N vs) H F (fun _ _ => False) ((mL [.fz (.scr ns), .un, .un]).bindS fun d ρ1 => .nx (ρ1.set 1 (.ow d))) _
  rw [hL]
  intro σ1 H1 F1 fp1 s1 e2 _ p hp
  obtain ⟨u, g1, g2⟩ := e2.ow 1 _ rfl
  refine ⟨u, g1, ?_⟩
  have fr0 : Fr H1 F1 (upd H1 p (.dK [])) F1 := Fr.new hp
  have e3 := e2.fr fr0
  refine ⟨_, F1, fp1, e3, ?_⟩
  show OcO G W σ1 _ F1 fp1 (mC [.fz (.scr ns), .ow (.lst ((lgOf ns).map .int)), .un]) _
  rw [hC]
  intro c H2 F2 fp2 qc s2 e4 oc nc
  obtain ⟨l, rfl, hl, zl, ql⟩ := own_ints g2
  obtain ⟨cc, rfl, hcc, zc, qqc⟩ := own_ints oc
  have nFp : ¬ F1 p := fun f => e2.ft p f hp
  have nPp : ¬ un fp1 p := fun ⟨i, q⟩ => e2.tr i p q hp
  have pk : H2 p = some (.dK []) := s2.keep _ _ upd_same nPp
  obtain ⟨l2, el, hl2, _, ql2⟩ : ∃ l2, V.ref l = .ref l2 ∧ H2 l2 = some (.lst ((lgOf ns).map V.int)) ∧ _ ∧ ∀ a, fp2 1 a ↔ a = l2 := by
    obtain ⟨u2, k1, k2⟩ := e4.ow 1 _ rfl
    obtain ⟨l2, rfl, b1, b2, b3⟩ := own_ints k2
    rw [g1] at k1
    cases k1
    exact ⟨l, rfl, b1, b2, b3⟩
  cases el
  have inl : fp2 1 l := (ql2 l).mpr rfl
  have inc : qc cc := (qqc cc).mpr rfl
  have npl : p ≠ l := fun z => by rw [z] at pk; rw [hl2] at pk; cases pk
  have npc : p ≠ cc := fun z => by
    have := nc.old cc inc
    rw [← z, upd_same] at this
    cases this
  have nlc : l ≠ cc := fun z => nc.np cc inc ⟨1, by rw [← z]; exact inl⟩
  refine ⟨pk, [(.inr "large", .ref l), (.inr "rest", .int 0), (.inr "cells", .ref cc), (.inr "turn", .int 0)], rfl, (by decide : 4 ≤ 15), ?_⟩
  have s3 : Stp H F (un fun _ _ => False) H2 F2 (un fp2) := (s1.trans (fr0.stp _)).trans s2
  have nu : ∀ a, ¬ un (fun (_ : Nat) (_ : Addr) => False) a := fun a ⟨_, z⟩ => z
  have nF2p : ¬ F2 p := fun f => by
    rcases s2.fnew p f with g | g | g
    · exact nFp g
    · exact nPp g
    · rw [upd_same] at g; cases g
  have hpH : H p = none := s1.dom p hp
  have hlH : H l = none := (s3.pnew l ⟨1, inl⟩).elim (fun z => (nu l z).elim) id
  have hcH : H cc = none := s1.dom cc (fr0.dom cc (nc.old cc inc))
  have kp : ∀ a u, a ≠ p → H2 a = some u → upd H2 p (.dK (mergeK [] [(.inr "large", .ref l), (.inr "rest", .int 0), (.inr "cells", .ref cc), (.inr "turn", .int 0)])) a = some u := fun a u h1 h2 => by rw [upd_ne h1]; exact h2
  have dp : ∀ a, upd H2 p (.dK (mergeK [] [(.inr "large", .ref l), (.inr "rest", .int 0), (.inr "cells", .ref cc), (.inr "turn", .int 0)])) a = none → H2 a = none := fun a z => by
    by_cases hq : a = p
    · rw [hq, upd_same] at z; cases z
    · rw [upd_ne hq] at z; exact z
  refine hQ (.ref p) _ (fun a => F2 a ∨ a = cc) (fun a => a = p ∨ a = l) ⟨fun a o z => ?_, fun a f => Or.inl (s3.frm a f), fun a f => ?_⟩ (.drw upd_same ?_ (Or.inr rfl) ?_ npl zl zc fun a => Iff.rfl) ⟨?_, ?_, ?_, ?_⟩
  · exact kp a o (fun q => by rw [q, hpH] at z; cases z) (s3.keep a o z (nu a))
  · rcases f with f | f
    · rcases s3.fnew a f with g | g | g
      · exact Or.inl g
      · exact (nu a g).elim
      · exact Or.inr ⟨g, fun z => e4.ft a f (dp a z)⟩
    · rw [f]
      exact Or.inr ⟨hcH, fun z => by have := dp cc z; rw [hcc] at this; cases this⟩
  · rw [upd_ne (Ne.symm npl)]; exact hl2
  · rw [upd_ne (Ne.symm npc)]; exact hcc
  · rintro a (z | z)
    · rw [z]; exact hpH
    · rw [z]; exact hlH
  · rintro a (z | z) q
    · rw [z, upd_same] at q; cases q
    · rw [z, upd_ne (Ne.symm npl), hl2] at q; cases q
  · rintro a (z | z) (f | f)
    · exact nF2p (by rw [← z]; exact f)
    · exact npc (z.symm.trans f)
    · exact e4.nf 1 l inl (by rw [← z]; exact f)
    · exact nlc (z.symm.trans f)
  · rintro a o (z | z) q
    · rw [z, upd_same] at q; cases q; exact fun z => z
    · rw [z, upd_ne (Ne.symm npl), hl2] at q; cases q; exact fun z => z
/-! what the two comprehensions give -/
def gAbs : E := iCallJ fAbs (jCons (iVar 2) jNil)
def g18 : E := iBin oPow (iC (.int 10)) (iC (.int 18))
def mLarge : E := iLc (iSeq (iVar 0)) (tgN 2) (iCmp oGe gAbs g18) (iBin oSub gAbs g18) [2]
def mCells : E := iLc (iSeq (iVar 0)) (tgN 2) iYes gAbs [2]
theorem ev_abs {x y : Sl} {n : Int} : gAbs [x, y, .fz (.int n)] = .ok (.int (aInt n)) [x, y, .fz (.int n)] := rfl
theorem ev_cells {ns : List Int} {y : Sl} : mCells [.fz (.scr ns), y, .un] = .ok (.lst ((ns.map aInt).map .int)) [.fz (.scr ns), y, .un] := by
  have h : ∀ (ms : List Int), lcLoop (tgN 2) iYes gAbs [2] (ms.map .int) [.fz (.scr ns), y, .un] = .ok ((ms.map aInt).map .int) [.fz (.scr ns), y, .un] := by
    intro ms
    induction ms with
    | nil => rfl
    | cons m ms ih =>
      simp only [List.map_cons, lcLoop, tgN, wipeE, iYes, List.set]
      rw [ev_abs]
      simp only [restE, keepF, List.set]
      show (Rz.bind (lcLoop (tgN 2) iYes gAbs [2] (ms.map .int) [.fz (.scr ns), y, .un]) _) = _
      rw [ih]
      rfl
  show (Rz.bind (lcLoop (tgN 2) iYes gAbs [2] (ns.map .int) [.fz (.scr ns), y, .un]) _) = _
  rw [h ns]
  rfl
theorem ev_large {ns : List Int} {y : Sl} : mLarge [.fz (.scr ns), y, .un] = .ok (.lst ((lgOf ns).map .int)) [.fz (.scr ns), y, .un] := by
  have h : ∀ (ms : List Int), lcLoop (tgN 2) (iCmp oGe gAbs g18) (iBin oSub gAbs g18) [2] (ms.map .int) [.fz (.scr ns), y, .un] = .ok ((lgOf ms).map .int) [.fz (.scr ns), y, .un] := by
    intro ms
    induction ms with
    | nil => rfl
    | cons m ms ih =>
      simp only [List.map_cons, lcLoop, tgN, wipeE, List.set]
      have e1 : iCmp oGe gAbs g18 [.fz (.scr ns), y, .fz (.int m)] = .ok (decide ((10 : Int) ^ 18 ≤ aInt m)) [.fz (.scr ns), y, .fz (.int m)] := rfl
      have e2 : iBin oSub gAbs g18 [.fz (.scr ns), y, .fz (.int m)] = .ok (.int (aInt m - 10 ^ 18)) [.fz (.scr ns), y, .fz (.int m)] := rfl
      rw [e1]
      by_cases hd : (10 : Int) ^ 18 ≤ aInt m
      · rw [decide_eq_true hd]
        dsimp only
        rw [e2]
        simp only [restE, keepF, List.set]
        show (Rz.bind (lcLoop (tgN 2) (iCmp oGe gAbs g18) (iBin oSub gAbs g18) [2] (ms.map .int) [.fz (.scr ns), y, .un]) _) = _
        rw [ih]
        unfold lgOf
        rw [List.filter_cons_of_pos (by simpa using hd)]
        rfl
      · rw [decide_eq_false hd]
        simp only [restE, keepF, List.set]
        show lcLoop (tgN 2) (iCmp oGe gAbs g18) (iBin oSub gAbs g18) [2] (ms.map .int) [.fz (.scr ns), y, .un] = _
        rw [ih]
        unfold lgOf
        rw [List.filter_cons_of_neg (by simpa using hd)]
  show (Rz.bind (lcLoop (tgN 2) (iCmp oGe gAbs g18) (iBin oSub gAbs g18) [2] (ns.map .int) [.fz (.scr ns), y, .un]) _) = _
  rw [h ns]
  rfl
end
section
variable {P : Program} {w : World} {K : Frag} {mg : Str → Option Value} {base : Heap}
end
section
variable {X : Cx} {G : Gx} {W : WX} {σ : L2.St} {H : Hp} {F : AP1} {fp : FPt} {ρ : Env} {pin : List Nat}
def iBeg (A : E) : E := fun ρ => (A ρ).bind fun d ρ1 => match d with
  | .scr ns => .ok (.drw (lgOf ns) (ns.map aInt) 0 0) ρ1
  | _ => .no
theorem o_beg (o : Ok X G W) {k : Nat} {f : Addr} {fd : FuncData} {ps : List Str} {x : Str} {e : Expr} {p pos : Pos} {A : E} (Fo : FnOk X.prog X.w X.K X.mg X.base (L2.CX X.prog X.w) k f fd ps (spB G)) (hr : Room k X.A) (hg : Gl X x) (hm : X.mg x = some (.ref f))
    (hk : PySem.W.keepIn X.K (.ref f) = true) (hb : Binds X.K fd ps []) (ha : PE X e (teOf G W A)) (hdb : (x == ("__debug__" : Str)) = false := by decide)
    (he : starEach [e] X.env = [(false, eval e X.env)] := by rfl) : PE X (.Call (.Name x p) [e] [] pos) (toOf G W (iBeg A)) :=
  PE.imp (pe_callS Fo hr hg hm hk hb (fun σ => passAt o.tk σ) (pa_cons ha pa_nil he) hdb he rfl) fun σ H Q ⟨ρ, F, fp, en, h⟩ => by
    refine ocO_bind en h fun x a ρ1 H1 F1 fp1 s1 e1 r1 h1 => ?_
    cases a with
    | scr ns => exact ⟨rfl, F1, ns, e1.ft, .cons r1 .nil, fun v H' F' q g z n => ocO_ok h1 e1 g z n⟩
    | _ => exact h1.elim
end
end MR
set_option maxRecDepth 100000
set_option maxHeartbeats 4000000
/-! MirT: a, b = e, f; promises made simpler; the draw's steps as plain functions. -/
namespace MR
open PySem L2 PyProof.Rows
section
variable {X : Cx} {G : Gx} {W : WX} {σ : L2.St} {H H1 H2 : Hp} {F F1 F2 : AP1} {fp fp1 fp2 : FPt} {ρ : Env} {cs : List String} {pin : List Nat}
/-! ### two or three names at once -/
theorem New1.step {q : AP1} (n : New1 H H1 F1 fp1 q) (s : Stp H1 F1 (un fp1) H2 F2 (un fp2)) : New1 H H2 F2 fp2 q := by
  refine ⟨n.old, fun a p z => n.tr a p (s.dom a z), fun a p f => ?_, fun a p f => ?_, fun a o p z => ?_⟩
  · rcases s.fnew a f with g | g | g
    · exact n.nf a p g
    · exact n.np a p g
    · exact n.tr a p g
  · rcases s.pnew a f with g | g
    · exact n.np a p g
    · exact n.tr a p g
  · cases hu : H1 a with
    | none => exact (n.tr a p hu).elim
    | some u =>
      rw [s.keep a u hu (n.np a p)] at z
      cases z
      exact n.ni a o p hu
theorem Own.step {q : AP1} {v : V} {d : IV} (r : Own G F1 H1 v d q) (n : New1 H H1 F1 fp1 q) (e : EnvR G F1 H1 σ ρ fp1) (s : Stp H1 F1 (un fp1) H2 F2 (un fp2)) : Own G F2 H2 v d q :=
  r.mono (e.stq s) fun a o h p => s.keep a o h (n.np a p)
/-- a value to be stored: own (true) or for all -/
def slK (k : Bool) (d : IV) : Sl := if k = true then .ow d else .fz d
def tkOf (G : Gx) (W : WX) (k : Bool) (m : E) : TE := if k = true then toOf G W m else teOf G W m
theorem k_o {e : Expr} {m : E} (h : PE X e (toOf G W m)) : PE X e (tkOf G W true m) := h
theorem k_f {e : Expr} {m : E} (h : PE X e (teOf G W m)) : PE X e (tkOf G W false m) := h
/-- what is known of such a value -/
def HasK (G : Gx) (H0 : Hp) (F : AP1) (H : Hp) (fp : FPt) (k : Bool) (v : V) (d : IV) (q : AP1) : Prop := if k = true then Own G F H v d q ∧ New1 H0 H F fp q else Fz G F H v d ∧ ∀ a, ¬ q a
theorem HasK.step {k : Bool} {v : V} {d : IV} {q : AP1} {H0 : Hp} (h : HasK G H0 F1 H1 fp1 k v d q) (e : EnvR G F1 H1 σ ρ fp1) (s : Stp H1 F1 (un fp1) H2 F2 (un fp2)) : HasK G H0 F2 H2 fp2 k v d q := by
  cases k with
  | true => exact ⟨h.1.step h.2 e s, h.2.step s⟩
  | false => exact ⟨h.1.mono (e.stq s), h.2⟩
/-- what evaluating one gives, for what follows (B: where the whole began) -/
theorem ocS_bindK {k : Bool} {m : E} {K : IV → Env → Fl} {P : VK} {D : Ends} {HB : Hp} {FB : AP1} {fpB : FPt} (sb : Stp HB FB (un fpB) H F (un fp)) (e : EnvR G F H σ ρ fp) (h : OcS G W pin σ HB FB fpB ((m ρ).bindS K) D)
    (hk : ∀ x d ρ1 H1 F1 fp1 q, Stp H F (un fp) H1 F1 (un fp1) → EnvR G F1 H1 σ ρ1 fp1 → HasK G H F1 H1 fp1 k x d q → OcS G W pin σ HB FB fpB (K d ρ1) D → P x H1) : tkOf G W k m σ H P := by
  cases k with
  | true =>
    show toOf G W m σ H P
    refine ⟨ρ, F, fp, e, ?_⟩
    cases hm : m ρ with
    | ok d ρ1 =>
      rw [hm] at h
      exact fun v H' F' fp' q t e' r n => hk v d ρ1 H' F' fp' q t e' ⟨r, n⟩ h
    | ex c p ρ' => rw [hm] at h; exact fun d H' F' fp' t e' r => h d σ H' F' fp' (sb.trans t) e' (Pn.refl _ _) r
    | no => rw [hm] at h; exact h
  | false =>
    show teOf G W m σ H P
    refine ⟨ρ, F, fp, e, ?_⟩
    cases hm : m ρ with
    | ok d ρ1 =>
      rw [hm] at h
      exact fun v H' F' fp' t e' r => hk v d ρ1 H' F' fp' (fun _ => False) t e' ⟨r, fun _ z => z⟩ h
    | ex c p ρ' => rw [hm] at h; exact fun d H' F' fp' t e' r => h d σ H' F' fp' (sb.trans t) e' (Pn.refl _ _) r
    | no => rw [hm] at h; exact h
theorem EnvR.setK {k : Bool} {v : V} {d : IV} {q : AP1} {H0 : Hp} {i : Nat} (e : EnvR G F H σ ρ fp) (h : HasK G H0 F H fp k v d q) : EnvR G F H (σ.set i (some v)) (ρ.set i (slK k d)) (fun j => if k = true ∧ j = i then q else fp j) := by
  cases k with
  | true =>
    have := e.setOw (i := i) h.1 h.2
    simpa [slK] using this
  | false =>
    have := e.setFz (i := i) h.1
    simpa [slK] using this
theorem HasK.set {k k' : Bool} {v w : V} {d d' : IV} {q q' : AP1} {H0 H1 : Hp} {i : Nat} (h : HasK G H0 F H fp k v d q) (h' : HasK G H1 F H fp k' w d' q') (ap : ∀ a, q a → q' a → False) : HasK G H1 F H (fun j => if k = true ∧ j = i then q else fp j) k' w d' q' := by
  cases k' with
  | false => exact h'
  | true =>
    refine ⟨h'.1, h'.2.old, h'.2.tr, h'.2.nf, fun a p ⟨j, z⟩ => ?_, h'.2.ni⟩
    have z' : (if k = true ∧ j = i then q else fp j) a := z
    by_cases hj : k = true ∧ j = i
    · rw [if_pos hj] at z'; exact ap a z' p
    · rw [if_neg hj] at z'; exact h'.2.np a p ⟨j, z'⟩
theorem HasK.apart {k k' : Bool} {v w : V} {d d' : IV} {q q' : AP1} {H0 : Hp} (h : HasK G H0 F1 H1 fp1 k v d q) (h' : HasK G H1 F2 H2 fp2 k' w d' q') : ∀ a, q a → q' a → False := fun a p p' => by
  cases k with
  | false => exact h.2 a p
  | true => cases k' with
    | false => exact h'.2 a p'
    | true => exact h.2.tr a p (h'.2.old a p')
theorem Stp.setK {k : Bool} {q : AP1} {i : Nat} {P : AP1} {fp1 : FPt} (s : Stp H F P H1 F1 (un fp1)) (ho : ∀ a, k = true → q a → H a = none) : Stp H F P H1 F1 (un fun j => if k = true ∧ j = i then q else fp1 j) :=
  ⟨s.keep, s.frm, s.fnew, fun a ⟨j, h⟩ => by
    have h' : (if k = true ∧ j = i then q else fp1 j) a := h
    by_cases hj : k = true ∧ j = i
    · rw [if_pos hj] at h'; exact Or.inr (ho a hj.1 h')
    · rw [if_neg hj] at h'; exact s.pnew a ⟨j, h'⟩, s.dom⟩
theorem HasK.old {k : Bool} {v : V} {d : IV} {q : AP1} {H0 : Hp} (h : HasK G H0 F H fp k v d q) : ∀ a, k = true → q a → H0 a = none := fun a e p => by
  subst e; exact h.2.old a p
def sPar2 (i : Nat) (ka : Bool) (A : E) (j : Nat) (kb : Bool) (B : E) : S := fun ρ => (A ρ).bindS fun a ρ1 => (B ρ1).bindS fun b ρ2 => .nx ((ρ2.set i (slK ka a)).set j (slK kb b))
theorem pn_set (i : Nat) (o : Option V) (hp : i ∉ pin) : Pn pin σ (σ.set i o) := (SetOnly.set i σ o).pn fun k m z => hp (by rw [List.mem_singleton] at z; rw [← z]; exact m)
theorem q_par2 {i j : Nat} {ka kb : Bool} {A B : E} (hp : i ∉ pin) (hp' : j ∉ pin) : ∀ D σ H, tsOf G W pin (sPar2 i ka A j kb B) D σ H → tPar i j (tCons (tkOf G W ka A) (tCons (tkOf G W kb B) tNil)) D σ H := by
  rintro D σ H ⟨ρ, F, fp, e, h⟩
  refine ocS_bindK (Stp.refl _ _ _) e h fun x a ρ1 H1 F1 fp1 q1 s1 e1 r1 h1 => ?_
  refine ocS_bindK s1 e1 h1 fun y b ρ2 H2 F2 fp2 q2 s2 e2 r2 h2 => ?_
  refine ⟨x, y, rfl, ?_⟩
  have r1' := r1.step e1 s2
  have e3 := e2.setK (i := i) r1'
  have r2' := r1'.set (i := i) r2 (r1.apart r2)
  have s3 : Stp H F (un fp) H2 F2 (un fun jj => if ka = true ∧ jj = i then q1 else fp2 jj) := (s1.trans s2).setK r1.old
  have s4 : Stp H F (un fp) H2 F2 (un fun jj => if kb = true ∧ jj = j then q2 else if ka = true ∧ jj = i then q1 else fp2 jj) := s3.setK fun a e p => s1.dom a (r2.old a e p)
  exact h2 _ H2 F2 _ s4 (e3.setK (i := j) r2') ((pn_set i _ hp).trans (pn_set j _ hp'))
theorem s_par2 (o : Ok X G W) (i j : Nat) {x y : Str} {a b : Expr} {ka kb : Bool} {A B : E} {px py pt pos : Pos} {kt k2 pt2} (hN : X.N.Nodup) (ha : PE X a (tkOf G W ka A)) (hb : PE X b (tkOf G W kb B)) (hi : X.N[i]? = some x := by rfl) (hj : X.N[j]? = some y := by rfl) (hij : i ≠ j := by decide)
    (hx : X.env.scope.names.lookup x = some .local := by rfl) (hy : X.env.scope.names.lookup y = some .local := by rfl) (hp : i ∉ pin := by decide) (hp' : j ∉ pin := by decide)
    (hw : swappedStores [.Tuple [.Name x px, .Name y py] kt pt] (.Tuple [a, b] k2 pt2) X.env = pure (some [x, y]) := by rfl) (hs : swapsWithSole [.Tuple [.Name x px, .Name y py] kt pt] (.Tuple [a, b] k2 pt2) pos.line X.env = pure false := by rfl)
    (hs1 : starEach [a, b] X.env = (false, eval a X.env) :: starEach [b] X.env := by rfl) (hs2 : starEach [b] X.env = [(false, eval b X.env)] := by rfl) :
    PS X (.Assign [.Tuple [.Name x px, .Name y py] kt pt] (.Tuple [a, b] k2 pt2) pos) (tsOf G W pin (sPar2 i ka A j kb B)) :=
  PS.imp (ps_par o.calm hN hi hj hij hx hy (pa_cons ha (pa_cons hb pa_nil hs2) hs1) hw hs) (q_par2 hp hp')
end
/-! ### promises made simpler -/
section
variable {P : Program} {w : World} {K : Frag} {mg : Str → Option Value} {base : Heap}
theorem sp_imp {G : Gx} {ks : List Bool} {f g : Fn} (h : ∀ ds, g ds ≠ .no → f ds = g ds) {vs : List V} {H : Hp} {Q : VK} {E : XK} (s : spOf G ks g vs H Q E) : spOf G ks f vs H Q E := by
  obtain ⟨hl, ds, F, fp, h1, e, q⟩ := s
  refine ⟨hl, ds, F, fp, h1, e, ?_⟩
  by_cases hg : g ds = .no
  · rw [hg] at q; exact q.elim
  · rw [h ds hg]; exact q
/-- a def's mirror by another function that says the same where it says something -/
theorem fn_imp {k : Nat} {f : Addr} {fd : FuncData} {ps : List Str} {G : Gx} {ks : List Bool} {m g : Fn} (Fo : FnOk P w K mg base (L2.CX P w) k f fd ps (spOf G ks m)) (h : ∀ ds, g ds ≠ .no → m ds = g ds) : FnOk P w K mg base (L2.CX P w) k f fd ps (spOf G ks g) :=
  Fo.imp fun vs H Q E s => sp_imp h s
end
/-! ### the draw's steps -/
def mixP (cl : List Int) (t p : Int) : Int := cl.foldl (fun b g => (b * 48271 + g) % p) ((t * 69621 + p / 7) % p)
def mixN (cl : List Int) (t : Int) : Int := [2147483629, 2147483587, 2147483579].foldl (fun f p => f * 2147483647 + mixP cl t p ^ 5 % p) 0
def mixF : Fn := fun ds => match ds with
  | [.drw lg cl rest turn] => .ok (.int (mixN cl (turn + 1))) [.drw lg cl rest (turn + 1)]
  | _ => .no
def takeF : Fn := fun ds => match ds with
  | [.drw lg cl rest turn, .int n] => if 0 < n ∧ n < 1073741824 then (if rest = 0 then (match lg with
      | g :: lg' => .ok (.int (g % n)) [.drw lg' cl (g / n) turn]
      | [] => .ok (.int (mixN cl (turn + 1) % n)) [.drw [] cl (mixN cl (turn + 1) / n) (turn + 1)])
    else .ok (.int (rest % n)) [.drw lg cl (rest / n) turn]) else .no
  | _ => .no
/-! the mirrors of the two defs; slots: draw, turn, found, prime, blend, grain -/
def mixB : S := sSeq (sDrTurn 0 (iBin oPlus (iDrTurn 0) (iC (.int 1)))) (sSeq (sPar2 1 false (iCallJ fInt (jCons (iDrTurn 0) jNil)) 2 false (iC (.int 0)))
  (sSeq (sFor (iSeq (iLst (iCons (iC (.int 2147483629)) (iCons (iC (.int 2147483587)) (iCons (iC (.int 2147483579)) iNil))))) (tgN 3)
    (sSeq (sSet 4 (iBin oMod (iBin oPlus (iBin oMul (iVar 1) (iC (.int 69621))) (iBin oDiv (iVar 3) (iC (.int 7)))) (iVar 3)))
      (sSeq (sFor (iSeq (iDrCells 0)) (tgN 5) (sSet 4 (iBin oMod (iBin oPlus (iBin oMul (iVar 4) (iC (.int 48271))) (iCallJ fInt (jCons (iVar 5) jNil))) (iVar 3))))
        (sSet 2 (iBin oPlus (iBin oMul (iVar 2) (iC (.int 2147483647))) (iBin oMod (iBin oPow (iVar 4) (iC (.int 5))) (iVar 3)))))))
    (sRet (iVar 2))))
def takeB : S := sSeq (sIf (iCmp oEq (iDrRest 0) (iC (.int 0))) (sDrRest 0 (iIf (iDrLg 0) (iDrPop 0) (iCallF [true] mixF (jSlot 0 jNil)))) sNx)
  (sSeq (sSet 2 (iBin oMod (iCallJ fInt (jCons (iDrRest 0) jNil)) (iVar 1))) (sSeq (sDrRest 0 (iBin oDiv (iCallJ fInt (jCons (iDrRest 0) jNil)) (iVar 1))) (sRet (iVar 2))))
theorem mulC_r {i j : Int} (h1 : -(2 ^ 64) < j) (h2 : j < 2 ^ 64) : mulC i j = true := by
  unfold mulC
  rw [Bool.or_eq_true]
  right
  rw [Bool.and_eq_true, decide_eq_true_eq, decide_eq_true_eq]
  exact ⟨h1, h2⟩
theorem ev_eq0 {r : Int} : oEq (.int r) (.int 0) = some (.bl (r == 0)) := rfl
theorem ev_mod {a n : Int} (h : 0 < n) : oMod (.int a) (.int n) = some (.int (a % n)) := by
  show (if decide (0 < n) = true then some (IV.int (a % n)) else none) = _
  rw [if_pos (decide_eq_true h)]
theorem ev_div {a n : Int} (h : 0 < n) (h' : n < 1073741824) : oDiv (.int a) (.int n) = some (.int (a / n)) := by
  show (if (decide (0 < n) && decide (n < 1073741824)) = true then some (IV.int (a / n)) else none) = _
  rw [if_pos (by rw [decide_eq_true h, decide_eq_true h']; rfl)]
theorem ev_mul {a n : Int} (h1 : -(2 ^ 64) < n) (h2 : n < 2 ^ 64) : oMul (.int a) (.int n) = some (.int (a * n)) := by
  show (if mulC a n = true then some (IV.int (a * n)) else none) = _
  rw [if_pos (mulC_r h1 h2)]
theorem ev_plus {a b : Int} : oPlus (.int a) (.int b) = some (.int (a + b)) := rfl
theorem takeB_ok : ∀ ds, takeF ds ≠ .no → fnOf 3 [true, false] takeB ds = takeF ds := by
  intro ds h
  unfold takeF at h
  split at h
  · rename_i lg cl rest turn n
    split at h
    · rename_i hn
      have c1 := fun a => ev_mod (a := a) hn.1
      have c2 := fun a => ev_div (a := a) hn.1 hn.2
      by_cases hr : rest = 0
      · subst hr
        cases lg with
        | nil =>
          simp [takeF, hn, fnOf, takeB, envOf, sSeq, sIf, Rz.bindS, Rz.bind, iCmp, iDrRest, iC, ev_eq0, sDrRest, isOw, iIf, iDrLg, iDrPop, iCallF, jSlot, jNil, callF, gather, slots, mixF, scatter, sSet, iBin, iCallJ, jCons, rsA, rs, fInt, ofO, iVar, c1, c2, sRet, outsOf, List.replicate]
        | cons g lg =>
          simp [takeF, hn, fnOf, takeB, envOf, sSeq, sIf, Rz.bindS, Rz.bind, iCmp, iDrRest, iC, ev_eq0, sDrRest, isOw, iIf, iDrLg, iDrPop, iCallF, jSlot, jNil, callF, gather, slots, mixF, scatter, sSet, iBin, iCallJ, jCons, rsA, rs, fInt, ofO, iVar, c1, c2, sRet, outsOf, List.replicate]
      · simp [takeF, hn, hr, fnOf, takeB, envOf, sSeq, sIf, Rz.bindS, Rz.bind, iCmp, iDrRest, iC, ev_eq0, sNx, sDrRest, isOw, sSet, iBin, iCallJ, jCons, jNil, rsA, rs, fInt, ofO, iVar, c1, c2, sRet, outsOf, List.replicate]
    · exact (h rfl).elim
  · exact (h rfl).elim
/-! the mixing -/
def bodyP : S := sSeq (sSet 4 (iBin oMod (iBin oPlus (iBin oMul (iVar 1) (iC (.int 69621))) (iBin oDiv (iVar 3) (iC (.int 7)))) (iVar 3)))
      (sSeq (sFor (iSeq (iDrCells 0)) (tgN 5) (sSet 4 (iBin oMod (iBin oPlus (iBin oMul (iVar 4) (iC (.int 48271))) (iCallJ fInt (jCons (iVar 5) jNil))) (iVar 3))))
        (sSet 2 (iBin oPlus (iBin oMul (iVar 2) (iC (.int 2147483647))) (iBin oMod (iBin oPow (iVar 4) (iC (.int 5))) (iVar 3)))))
theorem mixP_lt {cl : List Int} {t p : Int} (hp : 0 < p) : 0 ≤ mixP cl t p ∧ mixP cl t p < p := by
  unfold mixP
  have h : ∀ (cl : List Int) (b : Int), 0 ≤ b ∧ b < p → 0 ≤ cl.foldl (fun b g => (b * 48271 + g) % p) b ∧ cl.foldl (fun b g => (b * 48271 + g) % p) b < p := by
    intro cl
    induction cl with
    | nil => intro b h; exact h
    | cons g cl ih => intro b h; exact ih _ ⟨Int.emod_nonneg _ (by omega), Int.emod_lt_of_pos _ hp⟩
  exact h cl _ ⟨Int.emod_nonneg _ (by omega), Int.emod_lt_of_pos _ hp⟩
theorem inner_ok {lg : List Int} {rest turn t f p : Int} {cl : List Int} (hp : 0 < p) : ∀ (ms : List Int) (b : Int) (x : Sl), ∃ y, forLoop (tgN 5) (sSet 4 (iBin oMod (iBin oPlus (iBin oMul (iVar 4) (iC (.int 48271))) (iCallJ fInt (jCons (iVar 5) jNil))) (iVar 3))) (ms.map .int)
    [.ow (.drw lg cl rest turn), .fz (.int t), .fz (.int f), .fz (.int p), .fz (.int b), x] = .nx [.ow (.drw lg cl rest turn), .fz (.int t), .fz (.int f), .fz (.int p), .fz (.int (ms.foldl (fun b g => (b * 48271 + g) % p) b)), y] := by
  intro ms
  induction ms with
  | nil => intro b x; exact ⟨x, rfl⟩
  | cons m ms ih =>
    intro b x
    obtain ⟨y, hy⟩ := ih ((b * 48271 + m) % p) (.fz (.int m))
    refine ⟨y, ?_⟩
    rw [List.foldl_cons, ← hy]
    have c1 := fun a => ev_mod (a := a) hp
    have c2 := fun a => ev_mul (a := a) (n := 48271) (by decide) (by decide)
    simp [List.map_cons, forLoop, tgN, sSet, Rz.bindS, Rz.bind, iBin, iVar, iC, ofO, c1, c2, ev_plus, iCallJ, jCons, jNil, rsA, rs, fInt, List.set]
theorem bodyP_ok {lg : List Int} {rest turn t f p : Int} {cl : List Int} (hp : 0 < p) (hp2 : p < 2 ^ 32) (b x : Sl) : ∃ y, bodyP [.ow (.drw lg cl rest turn), .fz (.int t), .fz (.int f), .fz (.int p), b, x]
    = .nx [.ow (.drw lg cl rest turn), .fz (.int t), .fz (.int (f * 2147483647 + mixP cl t p ^ 5 % p)), .fz (.int p), .fz (.int (mixP cl t p)), y] := by
  obtain ⟨y, hy⟩ := inner_ok (lg := lg) (rest := rest) (turn := turn) (t := t) (f := f) (cl := cl) hp cl ((t * 69621 + p / 7) % p) x
  refine ⟨y, ?_⟩
  have c1 := fun a => ev_mod (a := a) hp
  have c2 := fun a => ev_mul (a := a) (n := 69621) (by decide) (by decide)
  have c3 := fun a => ev_mul (a := a) (n := 2147483647) (by decide) (by decide)
  have c4 : oDiv (.int p) (.int 7) = some (.int (p / 7)) := ev_div (by decide) (by decide)
  have hm := mixP_lt (cl := cl) (t := t) hp
  have c5 : oPow (.int (mixP cl t p)) (.int 5) = some (.int (mixP cl t p ^ 5)) := by
    show (if (decide ((0 : Int) ≤ 5) && decide ((5 : Int) ≤ 1000000) && decide ((mixP cl t p).natAbs < 2 ^ 64)) = true then some (IV.int (mixP cl t p ^ (5 : Int).toNat)) else none) = _
    rw [if_pos]
    · rfl
    · have : (mixP cl t p).natAbs < 2 ^ 64 := by omega
      rw [decide_eq_true this]; rfl
  have hy' : forLoop (tgN 5) (sSet 4 (iBin oMod (iBin oPlus (iBin oMul (iVar 4) (iC (.int 48271))) (iCallJ fInt (jCons (iVar 5) jNil))) (iVar 3))) (cl.map .int)
    [.ow (.drw lg cl rest turn), .fz (.int t), .fz (.int f), .fz (.int p), .fz (.int ((t * 69621 + p / 7) % p)), x] = .nx [.ow (.drw lg cl rest turn), .fz (.int t), .fz (.int f), .fz (.int p), .fz (.int (mixP cl t p)), y] := hy
  have e1 : sSet 4 (iBin oMod (iBin oPlus (iBin oMul (iVar 1) (iC (.int 69621))) (iBin oDiv (iVar 3) (iC (.int 7)))) (iVar 3)) [.ow (.drw lg cl rest turn), .fz (.int t), .fz (.int f), .fz (.int p), b, x] = .nx [.ow (.drw lg cl rest turn), .fz (.int t), .fz (.int f), .fz (.int p), .fz (.int ((t * 69621 + p / 7) % p)), x] := by
    simp [sSet, Rz.bindS, Rz.bind, iBin, iVar, iC, ofO, c1, c2, c4, ev_plus, List.set]
  have e2 : ∀ ρ, (iSeq (iDrCells 0)) (.ow (.drw lg cl rest turn) :: ρ) = .ok (cl.map .int) (.ow (.drw lg cl rest turn) :: ρ) := fun ρ => rfl
  have e3 : sSet 2 (iBin oPlus (iBin oMul (iVar 2) (iC (.int 2147483647))) (iBin oMod (iBin oPow (iVar 4) (iC (.int 5))) (iVar 3))) [.ow (.drw lg cl rest turn), .fz (.int t), .fz (.int f), .fz (.int p), .fz (.int (mixP cl t p)), y] = .nx [.ow (.drw lg cl rest turn), .fz (.int t), .fz (.int (f * 2147483647 + mixP cl t p ^ 5 % p)), .fz (.int p), .fz (.int (mixP cl t p)), y] := by
    simp [sSet, Rz.bindS, Rz.bind, iBin, iVar, iC, ofO, c1, c3, c5, ev_plus, List.set]
  unfold bodyP sSeq
  rw [e1]
  dsimp only
  unfold sFor
  rw [e2]
  simp only [Rz.bindS]
  rw [hy']
  dsimp only
  exact e3
theorem mixB_ok : ∀ ds, mixF ds ≠ .no → fnOf 6 [true] mixB ds = mixF ds := by
  intro ds h
  unfold mixF at h
  split at h
  · rename_i lg cl rest turn
    obtain ⟨y1, h1⟩ := bodyP_ok (lg := lg) (rest := rest) (turn := turn + 1) (t := turn + 1) (f := 0) (p := 2147483629) (cl := cl) (by decide) (by decide) .un .un
    obtain ⟨y2, h2⟩ := bodyP_ok (lg := lg) (rest := rest) (turn := turn + 1) (t := turn + 1) (f := 0 * 2147483647 + mixP cl (turn + 1) 2147483629 ^ 5 % 2147483629) (p := 2147483587) (cl := cl) (by decide) (by decide) (.fz (.int (mixP cl (turn + 1) 2147483629))) y1
    obtain ⟨y3, h3⟩ := bodyP_ok (lg := lg) (rest := rest) (turn := turn + 1) (t := turn + 1) (f := (0 * 2147483647 + mixP cl (turn + 1) 2147483629 ^ 5 % 2147483629) * 2147483647 + mixP cl (turn + 1) 2147483587 ^ 5 % 2147483587) (p := 2147483579) (cl := cl) (by decide) (by decide) (.fz (.int (mixP cl (turn + 1) 2147483587))) y2
    have hB : mixB = sSeq (sDrTurn 0 (iBin oPlus (iDrTurn 0) (iC (.int 1)))) (sSeq (sPar2 1 false (iCallJ fInt (jCons (iDrTurn 0) jNil)) 2 false (iC (.int 0)))
      (sSeq (sFor (iSeq (iLst (iCons (iC (.int 2147483629)) (iCons (iC (.int 2147483587)) (iCons (iC (.int 2147483579)) iNil))))) (tgN 3) bodyP) (sRet (iVar 2)))) := rfl
    have hfor : sFor (iSeq (iLst (iCons (iC (.int 2147483629)) (iCons (iC (.int 2147483587)) (iCons (iC (.int 2147483579)) iNil))))) (tgN 3) bodyP [.ow (.drw lg cl rest (turn + 1)), .fz (.int (turn + 1)), .fz (.int 0), .un, .un, .un]
        = .nx [.ow (.drw lg cl rest (turn + 1)), .fz (.int (turn + 1)), .fz (.int (mixN cl (turn + 1))), .fz (.int 2147483579), .fz (.int (mixP cl (turn + 1) 2147483579)), y3] := by
      show forLoop (tgN 3) bodyP [.int 2147483629, .int 2147483587, .int 2147483579] _ = _
      simp only [forLoop, tgN, List.set]
      rw [h1]
      dsimp only [List.set]
      rw [h2]
      dsimp only [List.set]
      rw [h3]
      rfl
    have e1 : sDrTurn 0 (iBin oPlus (iDrTurn 0) (iC (.int 1))) [.ow (.drw lg cl rest turn), .un, .un, .un, .un, .un] = .nx [.ow (.drw lg cl rest (turn + 1)), .un, .un, .un, .un, .un] := rfl
    have e2 : sPar2 1 false (iCallJ fInt (jCons (iDrTurn 0) jNil)) 2 false (iC (.int 0)) [.ow (.drw lg cl rest (turn + 1)), .un, .un, .un, .un, .un] = .nx [.ow (.drw lg cl rest (turn + 1)), .fz (.int (turn + 1)), .fz (.int 0), .un, .un, .un] := rfl
    have e3 : mixB [.ow (.drw lg cl rest turn), .un, .un, .un, .un, .un] = .rt (.int (mixN cl (turn + 1))) [.ow (.drw lg cl rest (turn + 1)), .fz (.int (turn + 1)), .fz (.int (mixN cl (turn + 1))), .fz (.int 2147483579), .fz (.int (mixP cl (turn + 1) 2147483579)), y3] := by
      rw [hB]
      unfold sSeq
      rw [e1]
      dsimp only
      rw [e2]
      dsimp only
      rw [hfor]
      rfl
    show (match mixB [.ow (.drw lg cl rest turn), .un, .un, .un, .un, .un] with | .rt d ρ => _ | .nx ρ => _ | .ex c p ρ => _ | _ => _) = _
    rw [e3]
    rfl
  · exact (h rfl).elim
end MR
set_option maxRecDepth 100000
set_option maxHeartbeats 4000000
/-! MirU: the head: what is asked of the written part; defs by name. -/
namespace MR
open PySem L2 PyProof.Rows
/-! ### a def, wherever it stands -/
abbrev FunM (K : Frag) (d : DefM) (fd : FuncData) : Prop := FunD K d.name d.qual (defArgs d.st) (defBody d.st) (defScope d.st) (d.dvs K) (d.kws K) (d.adr K) fd
theorem DefM.fun_ {K : Frag} {d : DefM} (e : fnAt K (d.adr K) = d.val) (c : d.good K = true) (hc : d.clo = []) : ∃ fd, FunM K d fd := by
  obtain ⟨kp, c2⟩ := He.ba c
  unfold fnAt at e
  cases q : K.lookup (d.adr K) with
  | none => rw [q] at c2; cases c2
  | some ob =>
    obtain ⟨oc, od, dt, osl⟩ := ob
    rw [q] at c2 e
    cases dt with
    | func g =>
      obtain ⟨a1, a2, a3, a4, a5, a6, a7, a8, a9, a10, a11, a12, a13, a14, a15⟩ := g
      have e' : (some (a1, a2, a3, a4, a5, a6, a7.map fun p => (p.1, 0), a15) : He.FnW) = d.val := e
      unfold DefM.val at e'
      rw [hc] at e'
      simp only [Option.some.injEq, Prod.mk.injEq, List.map_nil, List.map_eq_nil_iff] at e'
      obtain ⟨r1, r2, r3, r4, r5, r6, r7, r8⟩ := e'
      subst r1 r2 r3 r4 r5 r6 r7 r8
      obtain ⟨k1, k2⟩ := He.ba (show (PySem.W.codeIn K a13 d.qual && (He.dflB K a8 (d.dvs K) && He.kwdB K a9 (d.kws K))) = true from c2)
      obtain ⟨k3, k4⟩ := He.ba k2
      exact ⟨_, ⟨oc, od, a8, a9, a10, a11, a12, a13, a14, osl, rfl, q, k1, He.dflB_ok k3, He.kwdB_ok k4⟩, kp⟩
    | _ => cases c2
/-! ### the hook -/
/-- what the head tells -/
structure Sy (fa : List He.Fa) (fn : List DefM) (ex : Frag → Bool) (K : Frag) (mg : Str → Option Value) : Prop where
  c : SaysM fa fn ex K
  ns : ∃ h : Heap, K.In h ∧ h.Ns mainGlobals mg
section
variable {fa : List He.Fa} {fn : List DefM} {ex : Frag → Bool} {K : Frag} {mg : Str → Option Value}
theorem Sy.fact (S : Sy fa fn ex K mg) (i : Nat) {f : He.Fa} (h : fa[i]? = some f := by rfl) : f.ok K = true := by
  have e : ((fa.all fun f => f.ok K) && ((fn.all fun d => d.good K) && ex K)) = true := congrArg Prod.fst S.c
  exact List.all_eq_true.mp (He.ba e).1 f (List.mem_of_getElem? h)
theorem Sy.ex_ (S : Sy fa fn ex K mg) : ex K = true := by
  have e : ((fa.all fun f => f.ok K) && ((fn.all fun d => d.good K) && ex K)) = true := congrArg Prod.fst S.c
  exact (He.ba (He.ba e).2).2
theorem Sy.def_ (S : Sy fa fn ex K mg) (i : Nat) {d : DefM} (h : fn[i]? = some d := by rfl) (hc : d.clo = [] := by rfl) : ∃ fd, FunM K d fd := by
  have e : ((fa.all fun f => f.ok K) && ((fn.all fun d => d.good K) && ex K)) = true := congrArg Prod.fst S.c
  have e2 : fn.map (fun d => fnAt K (d.adr K)) = fn.map DefM.val := congrArg Prod.snd S.c
  have e3 := congrArg (fun l : List He.FnW => l[i]?) e2
  simp only [List.getElem?_map, h, Option.map] at e3
  exact DefM.fun_ (Option.some.inj e3) (List.all_eq_true.mp (He.ba (He.ba e).2).1 d (List.mem_of_getElem? h)) hc
/-- a def that closes over names -/
theorem DefM.funC {K : Frag} {d : DefM} (e : fnAt K (d.adr K) = d.val) (c : d.good K = true) : ∃ (oc : Value) (od : Option Addr) (dV kV doc pm : Value) (an : Option Addr) (cdv ct : Value) (cl : List (Str × Addr)) (osl : Array (Option Value)),
    K.lookup (d.adr K) = some ⟨oc, od, .func (PySem.W.fnX d.name d.qual (defArgs d.st) (defBody d.st) (defScope d.st) cl dV kV doc pm an cdv ct), osl⟩ ∧ PySem.W.codeIn K cdv d.qual = true ∧ cl.map (·.1) = d.clo := by
  obtain ⟨kp, c2⟩ := He.ba c
  unfold fnAt at e
  cases q : K.lookup (d.adr K) with
  | none => rw [q] at c2; cases c2
  | some ob =>
    obtain ⟨oc, od, dt, osl⟩ := ob
    rw [q] at c2 e
    cases dt with
    | func g =>
      obtain ⟨a1, a2, a3, a4, a5, a6, a7, a8, a9, a10, a11, a12, a13, a14, a15⟩ := g
      have e' : (some (a1, a2, a3, a4, a5, a6, a7.map fun p => (p.1, 0), a15) : He.FnW) = d.val := e
      unfold DefM.val at e'
      simp only [Option.some.injEq, Prod.mk.injEq] at e'
      obtain ⟨r1, r2, r3, r4, r5, r6, r7, r8⟩ := e'
      subst r1 r2 r3 r4 r5 r6 r8
      obtain ⟨k1, k2⟩ := He.ba (show (PySem.W.codeIn K a13 d.qual && (He.dflB K a8 (d.dvs K) && He.kwdB K a9 (d.kws K))) = true from c2)
      refine ⟨oc, od, a8, a9, a10, a11, a12, a13, a14, a7, osl, rfl, k1, ?_⟩
      have := congrArg (List.map Prod.fst) r7
      simpa [List.map_map, Function.comp_def] using this
    | _ => cases c2
theorem Sy.defC (S : Sy fa fn ex K mg) (i : Nat) {d : DefM} (h : fn[i]? = some d := by rfl) : ∃ (oc : Value) (od : Option Addr) (dV kV doc pm : Value) (an : Option Addr) (cdv ct : Value) (cl : List (Str × Addr)) (osl : Array (Option Value)),
    K.lookup (d.adr K) = some ⟨oc, od, .func (PySem.W.fnX d.name d.qual (defArgs d.st) (defBody d.st) (defScope d.st) cl dV kV doc pm an cdv ct), osl⟩ ∧ PySem.W.codeIn K cdv d.qual = true ∧ cl.map (·.1) = d.clo := by
  have e : ((fa.all fun f => f.ok K) && ((fn.all fun d => d.good K) && ex K)) = true := congrArg Prod.fst S.c
  have e2 : fn.map (fun d => fnAt K (d.adr K)) = fn.map DefM.val := congrArg Prod.snd S.c
  have e3 := congrArg (fun l : List He.FnW => l[i]?) e2
  simp only [List.getElem?_map, h, Option.map] at e3
  exact DefM.funC (Option.some.inj e3) (List.all_eq_true.mp (He.ba (He.ba e).2).1 d (List.mem_of_getElem? h))
theorem Sy.glo (S : Sy fa fn ex K mg) (i : Nat) {x : Str} (h : fa[i]? = some (.glo x) := by rfl) : mg x = some (.ref (He.ga K x)) := by
  obtain ⟨hh, X, N⟩ := S.ns
  exact He.glo_ok X N (S.fact i h)
theorem Sy.free (S : Sy fa fn ex K mg) (i : Nat) {x : Str} (h : fa[i]? = some (.free x) := by rfl) : mg x = none := by
  obtain ⟨hh, X, N⟩ := S.ns
  exact He.free_ok X N (S.fact i h)
end
/-! ### the module's own values -/
mutual
theorem kiv_ok {G : Gx} : ∀ (d : IV) (u : Value), kiv G.K d u = true → ∃ v, RelV v u ∧ ∀ F H, Fz G F H v d
  | .non, u, h => by
    cases u <;> first | exact ⟨.non, rfl, fun F H => .non⟩ | cases h
  | .bl b, u, h => by
    cases u with
    | bool c =>
      simp only [kiv, beq_iff_eq] at h
      subst h
      exact ⟨.bl b, rfl, fun F H => .bl b⟩
    | _ => cases h
  | .int i, u, h => by
    cases u with
    | int j t =>
      simp only [kiv, beq_iff_eq] at h
      subst h
      exact ⟨.int i, ⟨t, rfl⟩, fun F H => .int i⟩
    | _ => cases h
  | .str s, u, h => by
    cases u with
    | str z t =>
      simp only [kiv, beq_iff_eq] at h
      subst h
      exact ⟨.str s, ⟨t, rfl⟩, fun F H => .str s⟩
    | _ => cases h
  | .tup ds, u, h => by
    cases u with
    | ref a =>
      simp only [kiv] at h
      split at h
      · rename_i c od its n sl q
        obtain ⟨h1, h2⟩ := He.ba h
        obtain ⟨h3, h4⟩ := He.ba h2
        have hc : c = "tuple" := of_decide_eq_true h1
        have hz : its.size ≤ 1000 := of_decide_eq_true h3
        subst hc
        obtain ⟨vs, r, fa⟩ := kivA_ok ds its.toList h4
        have hl : vs.length = its.size := by rw [r.length]; simp
        refine ⟨.ref a, rfl, fun F H => .tup (Or.inr ⟨_, its, n, q, rfl, rfl, big_le (Nat.le_trans hz (by decide)), r⟩) (fa F H) (by rw [hl]; exact Nat.le_trans hz (by decide))⟩
      · cases h
    | _ => cases h
  | .ty _, u, h => by cases u <;> cases h
  | .cl _, u, h => by cases u <;> cases h
  | .lst _, u, h => by cases u <;> cases h
  | .scr _, u, h => by cases u <;> cases h
  | .dic _, u, h => by cases u <;> cases h
  | .ins _ _, u, h => by cases u <;> cases h
  | .prs _, u, h => by cases u <;> cases h
  | .lds _, u, h => by cases u <;> cases h
  | .tab _, u, h => by cases u <;> cases h
  | .err _ _, u, h => by cases u <;> cases h
  | .lam _, u, h => by cases u <;> cases h
  | .dnk _ _, u, h => by cases u <;> cases h
  | .tpl _ _, u, h => by cases u <;> cases h
  | .drw _ _ _ _, u, h => by cases u <;> cases h
theorem kivA_ok {G : Gx} : ∀ (ds : List IV) (us : List Value), kivA G.K ds us = true → ∃ vs, Vals vs us ∧ ∀ F H, FzA G F H vs ds
  | [], [], _ => ⟨[], .nil, fun F H => .nil⟩
  | [], _ :: _, h => by cases h
  | _ :: _, [], h => by cases h
  | d :: ds, u :: us, h => by
    simp only [kivA] at h
    obtain ⟨h1, h2⟩ := He.ba h
    obtain ⟨v, r, f⟩ := kiv_ok d u h1
    obtain ⟨vs, rs, fs⟩ := kivA_ok ds us h2
    exact ⟨v :: vs, .cons r rs, fun F H => .cons (f F H) (fs F H)⟩
end
/-- the module's name x stands for d -/
structure GV (G : Gx) (mg : Str → Option Value) (x : Str) (d : IV) : Prop where
  ex : ∃ v u, mg x = some u ∧ RelV v u ∧ ∀ F H, Fz G F H v d
theorem gv_of {G : Gx} {mg : Str → Option Value} {x : Str} {d : IV} (hn : ∃ h : Heap, G.K.In h ∧ h.Ns mainGlobals mg) (h : gvB G.K x d = true) : GV G mg x d := by
  unfold gvB at h
  split at h
  · rename_i u q
    obtain ⟨hh, X, N⟩ := hn
    obtain ⟨v, r, f⟩ := kiv_ok d u h
    exact ⟨v, u, PySem.W.mg_of X N q, r, f⟩
  · cases h
/-! ### own classes -/
/-- the usual G -/
def gxL (K : Frag) (nms : List Str) (cl : Option Frm) (pw : Option (Program × World)) (sys : Bool) : Gx := { K := K, cls := fun c => He.ga K (Str.ofString c), ecl := fun c => .ref (He.ga K (Str.ofString c)), tb := fun n => ((He.cT K (nms.getD n "law", none)).2, ((nms.getD n "law" ++ ".<locals>.") ++ "<lambda>")), cl := cl, pw := pw, sys := sys }
abbrev gxN (K : Frag) (nm : Str) : Gx := gxL K [nm] none none false
abbrev gx (K : Frag) : Gx := gxN K "law"
theorem kc_of {K : Frag} {nms : List Str} {cl : Option Frm} {pw : Option (Program × World)} {sys : Bool} {cs : List String} (inj : ∀ c ∈ cs, ∀ c' ∈ cs, Str.ofString c = Str.ofString c' → c = c') (h : kcB K (cs.map Str.ofString) = true) : KC (gxL K nms cl pw sys) cs := by
  obtain ⟨h1, h2⟩ := He.ba h
  obtain ⟨h3, h4⟩ := He.ba h2
  have at_ : ∀ c ∈ cs, _ := fun c hc => List.all_eq_true.mp h1 (Str.ofString c) (List.mem_map.mpr ⟨c, hc, rfl⟩)
  simp only [Bool.and_eq_true, decide_eq_true_eq, List.all_eq_true, List.mem_map, forall_exists_index, and_imp, forall_apply_eq_imp_iff₂] at at_
  refine ⟨fun c hc => ⟨(at_ c hc).1, (at_ c hc).2.1, (at_ c hc).2.2.1, (at_ c hc).2.2.2.1⟩, fun c hc => (at_ c hc).2.2.2.2.1, of_decide_eq_true h3, of_decide_eq_true h4, fun c hc => (at_ c hc).2.2.2.2.2.1, fun c hc c' hc' => ?_, fun c hc T hT => ?_, fun c hc T hT => ?_⟩
  · have := (at_ c hc).2.2.2.2.2.2.1 c' hc'
    refine this.trans ?_
    by_cases e : c = c'
    · subst e; simp
    · rw [decide_eq_false e, decide_eq_false fun z => e (inj c hc c' hc' z)]
  · exact (at_ c hc).2.2.2.2.2.2.2.1 T hT
  · exact (at_ c hc).2.2.2.2.2.2.2.2 T hT
/-! ### promises, by name -/
section
variable {P : Program} {w : World} {K : Frag} {mg : Str → Option Value} {base : Heap}
theorem ok_of {N : List Str} {qual : Str} {scope : Scope} {f : Addr} {cdv : Value} {A : Around} {outer : List PySem.Env} {s : Shared} {H : Hp} {E : XK} {k : Nat} {G : Gx} (hr : Room k (A.deeper (envOfC qual scope s.heap.objs.size f cdv))) (hK : K = G.K) (hpw : ∀ P' w', G.pw = some (P', w') → P = P' ∧ w = w' := by intro _ _ h; cases h <;> exact ⟨rfl, rfl⟩) :
    Ok (cxOf (L2.CX P w) P w K mg base N qual scope f cdv A outer s H E) G (fun cls d _ H => E cls d H) := ⟨hK, rfl, takes_of rfl rfl rfl rfl, by have := hr.un; show (A.deeper (envOfC qual scope s.heap.objs.size f cdv)).units + 80 < cLine; omega, hpw⟩
structure FnM (P : Program) (w : World) (K : Frag) (mg : Str → Option Value) (base : Heap) (G : Gx) (k : Nat) (x : Str) (ks : List Bool) (fn : Fn) : Prop where
  ex : ∃ (f : Addr) (fd : FuncData) (ps : List Str), mg x = some (.ref f) ∧ PySem.W.keepIn K (.ref f) = true ∧ Binds K fd ps [] ∧ FnOk P w K mg base (L2.CX P w) k f fd ps (spOf G ks fn)
theorem FnM.imp {G : Gx} {k : Nat} {x : Str} {ks : List Bool} {m g : Fn} (h : FnM P w K mg base G k x ks m) (e : ∀ ds, g ds ≠ .no → m ds = g ds) : FnM P w K mg base G k x ks g := by
  obtain ⟨f, fd, ps, h1, h2, h3, h4⟩ := h
  exact ⟨f, fd, ps, h1, h2, h3, fn_imp h4 e⟩
theorem FnM.mono {G : Gx} {k j : Nat} {x : Str} {ks : List Bool} {m : Fn} (h : FnM P w K mg base G k x ks m) (e : k ≤ j) : FnM P w K mg base G j x ks m := by
  obtain ⟨f, fd, ps, h1, h2, h3, h4⟩ := h
  exact ⟨f, fd, ps, h1, h2, h3, h4.mono e⟩
/-- a def's body -/
theorem fn_okD {d : DefM} {fd : FuncData} {N ps : List Str} {k : Nat} {G : Gx} {ks : List Bool} {body : S} (F : FunM K d fd) (S : FnScope N ps (defScope d.st)) (hks : ks.length = ps.length) (hN : ks.length ≤ N.length)
    (hbody : ∀ (cdv : Value) (A : Around) (outer : List PySem.Env) (s : Shared) (H : Hp) (E : XK), Room k (A.deeper (envOfC d.qual (defScope d.st) s.heap.objs.size (d.adr K) cdv)) →
      PSs (cxOf (L2.CX P w) P w K mg base N d.qual (defScope d.st) (d.adr K) cdv A outer s H E) (defBody d.st) (tsOf G (fun cls d _ H => E cls d H) (pinOf ks 0) body)) : FnOk P w K mg base (L2.CX P w) (k + 1) (d.adr K) fd ps (spOf G ks (fnOf N.length ks body)) :=
  F.ok S (fun vs H Q E h => by rw [← hks]; exact h.1) fun cdv A outer s H vs Q E hr h => ⟨_, hbody cdv A outer s H E hr, fn_body hN h⟩
structure BegM (P : Program) (w : World) (K : Frag) (mg : Str → Option Value) (base : Heap) (G : Gx) (k : Nat) (x : Str) : Prop where
  ex : ∃ (f : Addr) (fd : FuncData) (ps : List Str), mg x = some (.ref f) ∧ PySem.W.keepIn K (.ref f) = true ∧ Binds K fd ps [] ∧ FnOk P w K mg base (L2.CX P w) k f fd ps (spB G)
theorem beg_okD {d : DefM} {fd : FuncData} {N ps : List Str} {k : Nat} {G : Gx} (F : FunM K d fd) (S : FnScope N ps (defScope d.st)) (hps : ps.length = 1) (hN : N.length = 3)
    (hbody : ∀ (cdv : Value) (A : Around) (outer : List PySem.Env) (s : Shared) (H : Hp) (E : XK), Room k (A.deeper (envOfC d.qual (defScope d.st) s.heap.objs.size (d.adr K) cdv)) →
      PSs (cxOf (L2.CX P w) P w K mg base N d.qual (defScope d.st) (d.adr K) cdv A outer s H E) (defBody d.st) (tSeq (tsOf G (fun cls d _ H => E cls d H) [] (sSetO 1 mLarge)) (tRet (tDisp (trsB G (fun cls d _ H => E cls d H) mCells))))) : FnOk P w K mg base (L2.CX P w) (k + 1) (d.adr K) fd ps (spB G) :=
  F.ok S (fun vs H Q E h => by rw [hps]; exact h.1) fun cdv A outer s H vs Q E hr h => by
    obtain ⟨h1, F, ns, ft, fa, hQ⟩ := h
    exact ⟨_, hbody cdv A outer s H E hr, q_beg (E := E) ev_large ev_cells hN h1 ft fa hQ⟩
end
section
variable {X : Cx} {G : Gx} {W : WX}
theorem m_callM (o : Ok X G W) {k : Nat} {x : Str} {ks : List Bool} {fn : Fn} {e : Expr} {es : List Expr} {p pos : Pos} {J : EAv} (Fo : FnM X.prog X.w X.K X.mg X.base G k x ks fn) (hr : Room k X.A) (ha : PA X (e :: es) (tjOf G W J)) (hg : Gl X x := by rfl) (hdb : (x == ("__debug__" : Str)) = false := by decide)
    (he : starEach (e :: es) X.env = (false, eval e X.env) :: starEach es X.env := by rfl) (hpl : (backTo pos (starEach es X.env)).any (·.1) = false := by rfl) : PE X (.Call (.Name x p) (e :: es) [] pos) (teOf G W (iCallF ks fn J)) := by
  obtain ⟨f, fd, ps, h1, h2, h3, h4⟩ := Fo.ex
  exact m_call o h4 hr hg h1 h2 h3 ha hdb he hpl
theorem m_callM0 (o : Ok X G W) {k : Nat} {x : Str} {fn : Fn} {p pos : Pos} (Fo : FnM X.prog X.w X.K X.mg X.base G k x [] fn) (hr : Room k X.A) (hg : Gl X x := by rfl) (hdb : (x == ("__debug__" : Str)) = false := by decide) : PE X (.Call (.Name x p) [] [] pos) (teOf G W (iCallF [] fn jNil)) := by
  obtain ⟨f, fd, ps, h1, h2, h3, h4⟩ := Fo.ex
  have hl : ∀ vs H Q E, spOf G [] fn vs H Q E → vs.length = 0 := fun vs H Q E h => h.1
  refine ⟨fun pins s σ H Q I h => ?_⟩
  have h' : tjOf G W jNil σ H (fun vs H1 => spOf G [] fn vs H1 Q (fun cls d H => W cls d σ H)) := q_callF σ H Q h
  obtain ⟨ρ, F, fp, en, h''⟩ := h'
  have h5 : spOf G [] fn [] H Q (WE W σ) := h'' [] H F fp (Stp.refl _ _ _) en .nil
  refine wpAny_Call_Name_kw (ld_glob I hg h1 ?_ hdb)
  exact PySem.W.callWith_K0 I.kIn h2 (run_fnS (E := fun _ => WE W σ) h4 hr h3 (passAt o.tk σ) I .nil h5)
theorem o_begM (o : Ok X G W) {k : Nat} {x : Str} {e : Expr} {p pos : Pos} {A : E} (Fo : BegM X.prog X.w X.K X.mg X.base G k x) (hr : Room k X.A) (ha : PE X e (teOf G W A)) (hg : Gl X x := by rfl) (hdb : (x == ("__debug__" : Str)) = false := by decide)
    (he : starEach [e] X.env = [(false, eval e X.env)] := by rfl) : PE X (.Call (.Name x p) [e] [] pos) (toOf G W (iBeg A)) := by
  obtain ⟨f, fd, ps, h1, h2, h3, h4⟩ := Fo.ex
  exact o_beg o h4 hr hg h1 h2 h3 ha hdb he
theorem m_gv {x : Str} {d : IV} {pos : Pos} (hv : GV G X.mg x d) (hg : Gl X x := by rfl) (hd : (x == ("__debug__" : Str)) = false := by decide) : PE X (.Name x pos) (teOf G W (iC d)) := by
  obtain ⟨v, u, h1, h2, h3⟩ := hv.ex
  exact PE.imp (pe_glob hg h1 h2 hd) (q_c h3)
end
/-! ### the law -/
end MR
set_option maxRecDepth 100000
set_option maxHeartbeats 4000000
/-! MirV: [e for x in y], y a slot's own list. -/
namespace MR
open PySem L2 PyProof.Rows
section
variable {X : Cx} {G : Gx} {W : WX} {σ : L2.St} {H : Hp} {F : AP1} {fp : FPt} {ρ : Env} {cs : List String} {pin : List Nat}
def lcLoopO (i : Nat) (t : TM) (ts : EB) (el : E) (own : List Nat) : Nat → Nat → Env → Rz (List IV)
  | n, j, ρ => match ρ[i]? with
    | some (.ow (.lst ds)) => (match ds[j]? with
      | none => .ok [] ρ
      | some d => (match n with
        | 0 => .no
        | n + 1 => (match t d (wipeE ρ own) with
          | none => .no
          | some ρa => (match ts ρa with
            | .ok false ρb => lcLoopO i t ts el own n (j + 1) (restE ρ ρb own)
            | .ok true ρb => (match el ρb with
              | .ok y ρc => (lcLoopO i t ts el own n (j + 1) (restE ρ ρc own)).bind fun ys ρ' => .ok (y :: ys) ρ'
              | _ => .no)
            | _ => .no))))
    | _ => .no
def lenO (i : Nat) (ρ : Env) : Nat := match ρ[i]? with
  | some (.ow (.lst ds)) => ds.length
  | _ => 0
def iLcO (i : Nat) (t : TM) (ts : EB) (el : E) (own : List Nat) : E := fun ρ => if isOwL ρ[i]? = true then (lcLoopO i t ts el own (lenO i ρ) 0 ρ).bind fun xs ρ2 => .ok (.lst xs) ρ2 else .no
theorem iLcO_fz (i : Nat) (t : TM) (ts : EB) (el : E) (own : List Nat) : ∀ ρ d ρ', iLcO i t ts el own ρ = .ok d ρ' → canFz d = true := by
  intro ρ d ρ' h
  unfold iLcO at h
  split at h
  · obtain ⟨xs, ρ2, _, h2⟩ := Rz.bind_ok h
    cases h2; rfl
  · cases h
structure LoW (G : Gx) (W : WX) (σ : L2.St) (H1 : Hp) (F1 : AP1) (fp1 : FPt) (s : Nat) (t : TM) (ts : EB) (el : E) (own : List Nat) (Q : VK) (D : Addr) (n i : Nat) (H : Hp) (ρ : Env) (F : AP1) (fp : FPt) (acc : List V) (xs : List IV) : Prop where
  stp : Stp H1 F1 (un fp1) H F (un fp)
  env : EnvR G F H σ ρ fp
  at_ : H D = some (.lst acc)
  nf : ¬ F D
  np : ¬ un fp D
  fz : FzA G F H acc xs
  len : acc.length ≤ i
  rest : OcO G W σ H1 F1 fp1 ((lcLoopO s t ts el own n i ρ).bind fun ys ρ' => .ok (.lst (xs ++ ys)) ρ') Q
theorem q_lcO {s : Nat} {t : TM} {ts : EB} {el : E} {own l : List Nat} (hl : ∀ i ∈ l, i ∈ own) : ∀ σ H Q, toOf G W (iLcO s t ts el own) σ H Q → tLc (iList G.K (tVar s)) (tgOf G l t) (ttOf G W0 ts) (teOf G W0 el) own σ H Q := by
  rintro σ H1 Q ⟨ρ1, F1, fp1, e1, h⟩
  unfold iLcO at h
  split at h
  rotate_left
  · exact h.elim
  rename_i how
  obtain ⟨d0, hd0⟩ := isOwL_some how
  obtain ⟨u, g1, g2⟩ := e1.ow s _ hd0
  refine ⟨u, g1, ?_⟩
  have hN : lenO s ρ1 = d0.length := by unfold lenO; rw [hd0]
  cases g2 with
  | @lst p vs0 _ _ hp0 a0 z0 q0 =>
    refine ⟨p, rfl, ⟨vs0, SqL.of hp0⟩, ?_⟩
    have hbig : d0.length ≤ big := by rw [← a0.len]; exact z0
    rw [hN] at h
    intro D hD
    refine ⟨fun i m H => m = d0.length - i ∧ i ≤ d0.length ∧ ∃ ρ F fp acc xs, LoW G W σ H1 F1 fp1 s t ts el own Q D (d0.length - i) i H ρ F fp acc xs, ⟨d0.length, rfl, Nat.zero_le _, ρ1, F1, fp1, [], [], ?_⟩, ?_⟩
    · exact ⟨Stp.new hD, e1.fr (Fr.new hD), upd_same, fun f => e1.ft D f hD, fun ⟨i, q⟩ => e1.tr i D q hD, .nil, Nat.le_refl _, h⟩
    rintro i m H' ⟨rfl, hi, ρ, F, fp, acc, xs, w⟩
    have rest := w.rest
    unfold lcLoopO at rest
    cases hs : ρ[s]? with
    | none => rw [hs] at rest; exact rest.elim
    | some sl => cases sl with
      | un => rw [hs] at rest; exact rest.elim
      | fz d => rw [hs] at rest; exact rest.elim
      | ow dd => cases dd with
        | lst ds =>
          rw [hs] at rest
          dsimp only at rest
          obtain ⟨u', g1', g2'⟩ := w.env.ow s _ hs
          rw [g1] at g1'
          cases g1'
          cases g2' with
          | @lst _ vs _ _ hp a z q =>
            cases hd : ds[i]? with
            | none =>
              rw [hd] at rest
              refine Or.inl ⟨⟨vs, SqL.of hp, by rw [a.len]; exact List.getElem?_eq_none_iff.mp hd⟩, ?_⟩
              have rest' : OcO G W σ H1 F1 fp1 (.ok (.lst (xs ++ [])) ρ) Q := rest
              rw [List.append_nil] at rest'
              refine rest' (.ref D) H' F fp (fun a => a = D) w.stp w.env (.lst w.at_ w.fz (by have := w.len; omega) fun _ => Iff.rfl) ⟨?_, ?_, ?_, ?_, ?_⟩
              · intro a z; rw [z]; exact hD
              · intro a z q; rw [z, w.at_] at q; cases q
              · intro a z; rw [z]; exact w.nf
              · intro a z; rw [z]; exact w.np
              · intro a o z q; rw [z, w.at_] at q; cases q; exact fun z => z
            | some d =>
              rw [hd] at rest
              obtain ⟨x0, ex0, fx⟩ := a.get hd
              by_cases hlt : i < d0.length
              rotate_left
              · have h0 : d0.length - i = 0 := by omega
                rw [h0] at rest
                exact rest.elim
              have hsub : d0.length - i = (d0.length - (i + 1)) + 1 := by omega
              rw [hsub] at rest
              dsimp only at rest
              refine Or.inr ⟨⟨vs, x0, SqL.of hp, ex0⟩, fun H2 => i + 1 ≤ d0.length ∧ ∃ ρ F fp acc xs, LoW G W σ H1 F1 fp1 s t ts el own Q D (d0.length - (i + 1)) (i + 1) H2 ρ F fp acc xs, fun H2 q => ⟨d0.length - (i + 1), by omega, rfl, q⟩, ?_⟩
              rintro x H2 ⟨rfl, y⟩
              have ey := y vs (SqL.of hp)
              rw [ex0] at ey
              cases ey
              refine ⟨wipeE ρ own, F, fp, d, w.env.wipe own, fx, ?_⟩
              cases ht : t d (wipeE ρ own) with
              | none => rw [ht] at rest; exact rest.elim
              | some ρa =>
                rw [ht] at rest
                intro σ2 fp2 e3 p3 so
                have hw := wipe_eq so hl
                refine ⟨hw, ρa, F, fp2, e3, ?_⟩
                have st3 : Stp H1 F1 (un fp1) H2 F (un fp2) := ⟨w.stp.keep, w.stp.frm, w.stp.fnew, fun a z => w.stp.pnew a (p3 a z), w.stp.dom⟩
                cases hts : ts ρa with
                | no => simp only [hts] at rest; exact rest.elim
                | ex c p ρb => simp only [hts] at rest; exact rest.elim
                | ok b ρb =>
                  simp only [hts] at rest
                  intro b' H3 F3 fp3 s3 e4 rb
                  obtain rfl : b' = b := rb
                  have D3 : H3 D = some (.lst acc) := s3.keep _ _ w.at_ fun z => w.np (p3 D z)
                  have nD3 : ¬ F3 D := fun f => by
                    rcases s3.fnew D f with g | g | g
                    · exact w.nf g
                    · exact w.np (p3 D g)
                    · rw [w.at_] at g; cases g
                  have nP3 : ¬ un fp3 D := fun f => by
                    rcases s3.pnew D f with g | g
                    · exact w.np (p3 D g)
                    · rw [w.at_] at g; cases g
                  have st4 : Stp H1 F1 (un fp1) H3 F3 (un fp3) := st3.trans s3
                  have q3 : Stq H2 F H3 F3 := e3.stq s3
                  cases b' with
                  | false =>
                    simp only [Bool.false_eq_true, if_false]
                    refine ⟨by omega, restE ρ ρb own, F3, fp3, acc, xs, st4, e4.rest hw fun j dj z => ?_, D3, nD3, nP3, w.fz.mono q3, by have := w.len; omega, rest⟩
                    obtain ⟨v, g1, g2⟩ := w.env.fz j dj z
                    exact ⟨v, g1, g2.mono q3⟩
                  | true =>
                    simp only [if_true]
                    refine ⟨ρb, F3, fp3, e4, ?_⟩
                    cases hel : el ρb with
                    | no => simp only [hel] at rest; exact rest.elim
                    | ex c p ρc => simp only [hel] at rest; exact rest.elim
                    | ok y ρc =>
                      simp only [hel] at rest
                      intro v H4 F4 fp4 s4 e5 fv
                      have D4 : H4 D = some (.lst acc) := s4.keep _ _ D3 nP3
                      have nD4 : ¬ F4 D := fun f => by
                        rcases s4.fnew D f with g | g | g
                        · exact nD3 g
                        · exact nP3 g
                        · rw [D3] at g; cases g
                      have nP4 : ¬ un fp4 D := fun f => by
                        rcases s4.pnew D f with g | g
                        · exact nP3 g
                        · rw [D3] at g; cases g
                      have st5 : Stp H1 F1 (un fp1) H4 F4 (un fp4) := st4.trans s4
                      have q4 : Stq H2 F H4 F4 := q3.trans (e4.stq s4)
                      have hal : acc.length < big := by have := w.len; omega
                      have e6 : EnvR G F4 (upd H4 D (.lst (acc ++ [v]))) σ (restE ρ ρc own) fp4 := by
                        refine EnvR.upd (e5.rest hw fun j dj z => ?_) nD4 nP4 fun u z => ?_
                        · obtain ⟨v, g1, g2⟩ := w.env.fz j dj z
                          exact ⟨v, g1, g2.mono q4⟩
                        · rw [D4] at z; cases z; exact fun z => z
                      have st6 : Stp H1 F1 (un fp1) (upd H4 D (.lst (acc ++ [v]))) F4 (un fp4) := by
                        refine ⟨fun a o z n => ?_, st5.frm, st5.fnew, st5.pnew, fun a z => ?_⟩
                        · have : a ≠ D := fun q => by rw [q, hD] at z; cases z
                          rw [upd_ne this]; exact st5.keep a o z n
                        · by_cases hp : a = D
                          · rw [hp, upd_same] at z; cases z
                          · rw [upd_ne hp] at z; exact st5.dom a z
                      have q5 : Stq H4 F4 (upd H4 D (.lst (acc ++ [v]))) F4 := by
                        refine ⟨fun a o z f => ?_, fun a o z mm => ?_, fun _ f => f⟩
                        · rw [upd_ne (fun q => nD4 (by rw [← q]; exact f))]; exact z
                        · rw [upd_ne (fun q => by rw [q, D4] at z; cases z; exact mm)]; exact z
                      refine ⟨acc, D4, Nat.lt_of_lt_of_le hal big_line, by omega, restE ρ ρc own, F4, fp4, acc ++ [v], xs ++ [y], st6, e6, upd_same, nD4, nP4, (FzA.snoc (w.fz.mono q4) fv).mono q5, by rw [List.length_append, List.length_singleton]; have := w.len; omega, ?_⟩
                      have hr : ((lcLoopO s t ts el own (d0.length - (i + 1)) (i + 1) (restE ρ ρc own)).bind fun ys ρ' => Rz.ok (y :: ys) ρ').bind (fun ys ρ' => Rz.ok (IV.lst (xs ++ ys)) ρ')
                          = (lcLoopO s t ts el own (d0.length - (i + 1)) (i + 1) (restE ρ ρc own)).bind fun ys ρ' => Rz.ok (IV.lst (xs ++ [y] ++ ys)) ρ' := by
                        cases lcLoopO s t ts el own (d0.length - (i + 1)) (i + 1) (restE ρ ρc own) with
                        | ok a b => simp only [Rz.bind, List.append_assoc, List.singleton_append]
                        | ex c p b => rfl
                        | no => rfl
                      rw [← hr]; exact rest
        | _ => rw [hs] at rest; exact rest.elim
section
variable (o : Ok X G W) (i : Nat) {x : Str} {npos : Pos} {elt tg : Expr} {ifs : List Expr} {scope : Scope} {own : List (Str × Nat)} {pos : Pos} {t : TM} {l : List Nat} {ts : EB} {el : E} (hN : X.N.Nodup) (ok : BlkOk X.N X.env.scope scope own)
  (hg : ∀ (s : Shared) (H : Hp) (C : Addr) (cl : List (Str × Addr)) (fp : List Addr), PG (X.blk s H scope (compEnvC scope cl C X.env) fp) tg (tgOf G l t)) (ht : ∀ (s : Shared) (H : Hp) (C : Addr) (cl : List (Str × Addr)) (fp : List Addr), PTs (X.blk s H scope (compEnvC scope cl C X.env) fp) ifs (ttOf G W0 ts))
  (he : ∀ (s : Shared) (H : Hp) (C : Addr) (cl : List (Str × Addr)) (fp : List Addr), PE (X.blk s H scope (compEnvC scope cl C X.env) fp) elt (teOf G W0 el)) (hl : ∀ i ∈ l, i ∈ own.map (·.2) := by decide)
  (hi : X.N[i]? = some x := by rfl) (hv : Vis X.env.scope x := by first | exact Or.inl rfl | exact Or.inr (Or.inl rfl) | exact Or.inr (Or.inr rfl)) (hd : (x == ("__debug__" : Str)) = false := by decide) (hcd : (x == ("__classdict__" : Str)) = false := by decide)
  (hs : ∀ z, foldedSetIterable (.Name x npos) X.env z = pure z := by intro _; rfl)
include o hN ok hg ht he hl hi hv hd hcd hs
theorem o_lcO : PE X (.ListComp elt [⟨tg, .Name x npos, ifs, 0⟩] scope pos) (toOf G W (iLcO i t ts el (own.map (·.2)))) := by
  have h := pi_list (tg := tg) (pe_var (pos := npos) hi hv hd hcd)
  rw [o.K] at h
  exact PE.imp (pe_lc o.calm hN h ok hg ht he hs) (q_lcO hl)
theorem m_lcO : PE X (.ListComp elt [⟨tg, .Name x npos, ifs, 0⟩] scope pos) (teOf G W (iLcO i t ts el (own.map (·.2)))) := m_frz (o_lcO o i hN ok hg ht he hl hi hv hd hcd hs) (iLcO_fz _ _ _ _ _)
end
end
end MR
set_option maxRecDepth 100000
set_option maxHeartbeats 4000000
/-! MirX: + and * and slices of anything; classes by name. -/
namespace MR
open PySem L2 PyProof.Rows
section
variable {X : Cx} {G : Gx} {W : WX} {σ : L2.St} {H : Hp} {F : AP1} {fp : FPt} {ρ : Env} {cs : List String} {pin : List Nat}
theorem fz_new {vs : List V} {ds : List IV} {l : Addr} (hl : H l = none) (a : FzA G F H vs ds) (z : vs.length ≤ big) : Fr H F (upd H l (.lst vs)) (fun a => F a ∨ a = l) ∧ Fz G (fun a => F a ∨ a = l) (upd H l (.lst vs)) (.ref l) (.lst ds) := by
  have fr : Fr H F (upd H l (.lst vs)) (fun a => F a ∨ a = l) := Fr.newF hl
  exact ⟨fr, .lst (Or.inr rfl) upd_same (a.mono fr.stq) z⟩
def oAdd4 (x y : IV) : Option IV := match x with
  | .lst _ => oCat x y
  | _ => oPlus x y
def rAdd4 (K : Frag) : R2 := fun x y H Q => rPlus K x y H Q ∨ rCat x y H Q
theorem ob_add4 : OpB G (rAdd4 G.K) oAdd4 := by
  intro F H x y dx dy d Q hx hy hf k
  unfold oAdd4 at hf
  split at hf
  · rename_i xs
    unfold oCat at hf
    split at hf
    · rename_i xs2 ys hh
      cases hh
      split at hf
      · rename_i hz
        cases hf
        obtain ⟨p, vs, rfl, h1, a1, z1⟩ := hx.seqL
        obtain ⟨p2, vs2, rfl, h2, a2, z2⟩ := hy.seqL
        have e1 := a1.len
        have e2 := a2.len
        refine Or.inr ⟨p, p2, vs, vs2, rfl, rfl, h1, h2, big_le (by omega), fun l hl => ?_⟩
        obtain ⟨fr, fz⟩ := fz_new hl (a1.app a2) (by rw [List.length_append]; omega)
        exact k _ _ _ fr fz
      · cases hf
    · cases hf
  · exact Or.inl (ob_plus F H x y dx dy d Q hx hy hf k)
theorem m_add4 (o : Ok X G W) {a b : Expr} {A B : E} {pos : Pos} (ha : PE X a (teOf G W A)) (hb : PE X b (teOf G W B)) : PE X (.BinOp a .Add b pos) (teOf G W (iBin oAdd4 A B)) := by
  have h : OpR X (binaryOp .Add) (rAdd4 X.K) := OpR.or op_plus op_cat
  rw [o.K] at h
  exact m_bin h ob_add4.toF ha hb
/-! slices of anything -/
def fSl4 (d : IV) (lo hi : Option Int) : Option IV := match d with
  | .lst _ => fSlL d lo hi
  | _ => fSl d lo hi
def rSl4 (K : Frag) : V → Option Int → Option Int → Hp → VK → Prop := fun x lo hi H Q => rSlM K x lo hi H Q ∨ rSlL K x lo hi H Q
theorem m_sl4 (o : Ok X G W) {e : Expr} {lo hi : Option Expr} {p2 pos : Pos} {A : EV} {L U : EO} (he : PE X e (tvOf G W A)) (hl : PO X lo (tpOf G W L)) (hu : PO X hi (tpOf G W U)) : PE X (.Subscript e (.Slice lo hi none p2) pos) (teOf G W (iSl fSl4 A L U)) := by
  have h : SlR X (rSl4 X.K) := SlR.or (SlR.or sl_tupA sl_str) sl_list
  rw [o.K] at h
  refine PE.imp (pe_slice h he hl hu) ?_
  rintro σ H Q ⟨ρ, F, fp, e, h⟩
  refine oc_bind e h fun x a ρ1 H1 F1 fp1 s1 e1 r1 h1 => ?_
  refine oc_bind e1 h1 fun l l' ρ2 H2 F2 fp2 s2 e2 r2 h2 => ?_
  refine oc_bind e2 h2 fun u u' ρ3 H3 F3 fp3 s3 e3 r3 h3 => ?_
  obtain rfl : l = l' := r2
  obtain rfl : u = u' := r3
  have r1' : RAv G σ F3 H3 x a := RAv.mono (e2.stq s3) (RAv.mono (e1.stq s2) r1)
  cases hf : (rs a ρ3).bind fun d => fSl4 d l u with
  | none => rw [hf] at h3; exact h3.elim
  | some d =>
    rw [hf] at h3
    obtain ⟨dx, g1, g2⟩ := Option.bind_eq_some_iff.mp hf
    have b := r1'.bz e3 g1
    unfold fSl4 at g2
    split at g2
    · have g3 : some (IV.lst (cutI _ l u)) = some d := g2
      · cases g3
        obtain ⟨p, vs, rfl, hp, al, z⟩ := b.seqL
        refine Or.inr ⟨p, vs, rfl, SqL.of hp, fun q hq => ?_⟩
        obtain ⟨fr, fz⟩ := fz_new hq (al.cut l u) (Nat.le_trans (cutV_length _ _ _) z)
        exact oc_ok h3 e3 fr fz
    · unfold fSl at g2
      split at g2
      · cases g2
        obtain ⟨p, vs, rfl, hp, al, z⟩ := b.seqT
        refine Or.inl (Or.inl ⟨p, vs, rfl, hp, fun ⟨w1, w2⟩ => ?_, fun w q hq => ?_⟩)
        · have e0 : cutV vs l u = vs := by
            unfold cutV
            rw [w1, w2, List.drop_zero, Nat.sub_zero, List.take_length]
          have c := al.cut l u
          rw [e0] at c
          exact oc_ok h3 e3 (Fr.refl _ _) (.tup hp c z)
        · exact oc_ok h3 e3 (Fr.new hq) (.tup (SqT.of upd_same) ((al.cut l u).mono (Fr.new hq).stq) (Nat.le_trans (cutV_length _ _ _) z))
      · split at g2
        · rename_i hz
          cases g2
          cases b.str_inv
          exact Or.inl (Or.inr ⟨_, rfl, big_le hz, oc_ok h3 e3 (Fr.refl _ _) (.str _)⟩)
        · cases g2
      · cases g2
end
/-! ### classes, by name -/
theorem prB_ok {K : Frag} {C : Addr} {g : Str} (h : prB K C g = true) : PropOf K C g (prAt K C g) (gtAt K (prAt K C g)) := by
  obtain ⟨h1, h⟩ := He.ba h
  obtain ⟨h2, h⟩ := He.ba h
  obtain ⟨h3, h⟩ := He.ba h
  refine ⟨of_decide_eq_true h1, of_decide_eq_true h2, of_decide_eq_true h3, ?_⟩
  split at h
  · rename_i a r q
    rw [q, of_decide_eq_true h]
    exact ⟨r, rfl⟩
  · cases h
theorem naB_ok {K : Frag} {cs : List String} {f : Str} (h : naB K (cs.map Str.ofString) f = true) : ∀ c ∈ cs, NoAttr (gx K).K ((gx K).cls c) f := fun c hc => by
  have := List.all_eq_true.mp h (Str.ofString c) (List.mem_map.mpr ⟨c, hc, rfl⟩)
  exact (of_decide_eq_true this : PySem.W.findIn K (.ref (He.ga K (Str.ofString c))) f = some none)
section
variable {P : Program} {w : World} {K : Frag} {mg : Str → Option Value} {base : Heap}
structure PropM (P : Program) (w : World) (K : Frag) (mg : Str → Option Value) (base : Heap) (G : Gx) (c : String) (g f : Str) : Prop where
  ex : ∃ (p ga : Addr) (fd : FuncData) (ps : List Str), Cls K (G.cls c) ∧ PropOf K (G.cls c) g p ga ∧ FnOk P w K mg base (L2.CX P w) 1 ga fd ps (getSp (G.cls c) f) ∧ Binds K fd ps []
theorem prop_of {nms : List Str} {cl : Option Frm} {pw : Option (Program × World)} {sys : Bool} {d : DefM} {fd : FuncData} {c : String} {g f : Str} {p1 p2 p3 : Pos} (hc : Cls K ((gxL K nms cl pw sys).cls c)) (hp : prB K ((gxL K nms cl pw sys).cls c) g = true) (hn : NoAttr K ((gxL K nms cl pw sys).cls c) f) (F : FunM K d fd) (ha : d.adr K = gtAt K (prAt K ((gxL K nms cl pw sys).cls c) g)) (hd : d.dvs K = [])
    (S : FnScope ["self"] ["self"] (defScope d.st)) (hb : defBody d.st = [.Return (some (.Attribute (.Name "self" p1) f p2)) p3]) (hkw : d.kws K = [])
    (hbi : ∀ (kV doc pm : Value) (an : Option Addr) (cdv ct : Value) (us : List Value), us.length = (["self"] : List Str).length → bindArgs (PySem.W.fnOf d.name d.qual (defArgs d.st) (defBody d.st) (defScope d.st) .none kV doc pm an cdv ct) ⟨us, []⟩ = pure ((["self"] : List Str).zip us)) : PropM P w K mg base (gxL K nms cl pw sys) c g f := by
  have F' := F
  rw [FunM, hd, hkw] at F'
  have bi := FunD.bindsN F' hbi
  obtain ⟨oc, od, dV, kV, doc, pm, an, cdv, ct, osl, e, lk, hcd, _, _⟩ := F.ex
  refine ⟨_, _, fd, ["self"], hc, prB_ok hp, ?_, bi⟩
  rw [← ha]
  subst e
  exact fn_getter lk hcd S rfl hb hc hn
structure MkM (P : Program) (w : World) (K : Frag) (mg : Str → Option Value) (base : Heap) (G : Gx) (k : Nat) (c : String) (x : Str) (n : Nat) (fn : Fn) (f : Addr) (fd : FuncData) (ps : List Str) : Prop where
  gl : mg x = some (.ref (G.cls c))
  mkr : Mk K (G.cls c) f
  ok : FnOk P w K mg base (L2.CX P w) k f fd ps (spOf G (ksI n) fn)
  len : ps.length = n + 1
end
section
variable {X : Cx} {G : Gx} {W : WX}
theorem m_propM (o : Ok X G W) (c : String) {e : Expr} {g f : Str} {A : EV} {pos : Pos} (h : PropM X.prog X.w X.K X.mg X.base G c g f) (hr : Room 2 X.A) (he : PE X e (tvOf G W A)) (hab : attributeBase e g X.env (eval e X.env) = eval e X.env := by rfl) : PE X (.Attribute e g pos) (teOf G W (iProp c A f)) := by
  obtain ⟨p, ga, fd, ps, h1, h2, h3, h4⟩ := h.ex
  exact m_prop o c h1 h2 h3 hr h4 he hab
theorem m_makeM (o : Ok X G W) {c : String} {k n : Nat} {f : Addr} {fd : FuncData} {ps : List Str} {fn : Fn} {x : Str} {e : Expr} {es : List Expr} {p pos : Pos} {A : EA} (M : MkM X.prog X.w X.K X.mg X.base G k c x n fn f fd ps) (hb : Binds X.K fd ps []) (hr : Room (k + 1) X.A)
    (ha : PA X (e :: es) (taOf G W A)) (hA : LenA A (e :: es).length) (hn : n = (e :: es).length := by rfl) (hg : Gl X x := by rfl) (hdb : (x == ("__debug__" : Str)) = false := by decide)
    (he : starEach (e :: es) X.env = (false, eval e X.env) :: starEach es X.env := by rfl) (hpl : (backTo pos (starEach es X.env)).any (·.1) = false := by rfl) : PE X (.Call (.Name x p) (e :: es) [] pos) (teOf G W (iMake c fn [] A)) :=
  m_make o c (dds := []) (dvs := []) M.mkr M.ok hr hg M.gl hb .nil (fun _ _ => .nil) (by rw [hn]; simp) M.len ha hA.len hdb he hpl
theorem m_makeKM (o : Ok X G W) {c : String} {k n m : Nat} {f : Addr} {fd : FuncData} {ps ks : List Str} {fn : Fn} {x : Str} {e : Expr} {es : List Expr} {kws : List Keyword} {p pos : Pos} {A Z : EA} (M : MkM X.prog X.w X.K X.mg X.base G k c x (n + m) fn f fd ps) (hr : Room (k + 1) X.A)
    (hb : KBn X.K fd ps (n + 1) ks (fun us ws => us ++ ws) (fun vs zs => vs ++ zs)) (ha : PA X (e :: es) (taOf G W A)) (hA : LenA A n) (hk : PK X kws (taOf G W Z)) (hZ : LenA Z m) (hm2 : ks.length = m := by rfl) (hg : Gl X x := by rfl)
    (hall : (backToKw pos (keywordEach kws X.env)).all (·.1.isSome) = true := by rfl) (hks : (backToKw pos (keywordEach kws X.env)).filterMap (·.1) = ks := by rfl) (hdb : (x == ("__debug__" : Str)) = false := by decide)
    (he : starEach (e :: es) X.env = (false, eval e X.env) :: starEach es X.env := by rfl) (hpl : ((backTo pos (starEach (e :: es) X.env)).any (·.1) || (backToKw pos (keywordEach kws X.env)).any (·.1.isNone)) = false := by rfl) :
    PE X (.Call (.Name x p) (e :: es) kws pos) (teOf G W (iMakeK c fn A Z)) := m_makeK o c M.mkr M.ok hr hg M.gl hb ha hA hk hZ hm2 hall hks hdb he hpl
end
/-- an own ==, by name -/
structure EqS (P : Program) (w : World) (K : Frag) (mg : Str → Option Value) (base : Heap) (G : Gx) (n : Nat) (c : String) (fn : Fn) (f : Addr) (fd : FuncData) (ps : List Str) : Prop where
  ok : FnOk P w K mg base (L2.CX P w) n f fd ps (spOf G [false, false] fn)
  eq : PySem.W.findIn K (.ref (G.cls c)) "__eq__" = some (some (.ref f))
  fn_ : PySem.W.isFn K (.ref f) = true
  bi : Binds K fd ps []
theorem EqS.to {X : Cx} {G : Gx} {n : Nat} {c : String} {fn : Fn} {f : Addr} {fd : FuncData} {ps : List Str} (h : EqS X.prog X.w X.K X.mg X.base G n c fn f fd ps) : EqF X G n c fn f fd ps := ⟨h.ok, h.eq, h.fn_, h.bi⟩
end MR
set_option maxRecDepth 100000
set_option maxHeartbeats 4000000
/-! MirY: extend, repr (where no repr is under way), calls by name, defs whose promise wants that no repr is under way. -/
namespace MR
open PySem L2 PyProof.Rows
section
variable {X : Cx} {G : Gx} {W : WX} {σ : L2.St} {H : Hp} {F : AP1} {fp : FPt} {ρ : Env} {pin : List Nat}
/-! ### x.extend(e) -/
def sExt (i : Nat) (m : E) : S := fun ρ => if isOwL ρ[i]? = true then (m ρ).bindS fun d ρ1 => match d, ρ1[i]? with
  | .lst es, some (.ow (.lst ds)) => if ds.length + es.length < 100000 then .nx (ρ1.set i (.ow (.lst (ds ++ es)))) else .no
  | _, _ => .no else .no
theorem s_ext (o : Ok X G W) (i : Nat) {x : Str} {e : Expr} {m : E} {apos cpos pos npos : Pos} (he : PE X e (teOf G W m)) (hN : X.N[i]? = some x := by rfl)
    (hv : Vis X.env.scope x := by first | exact Or.inl rfl | exact Or.inr (Or.inl rfl) | exact Or.inr (Or.inr rfl)) (hd : (x == ("__debug__" : Str)) = false := by decide) (hcd : (x == ("__classdict__" : Str)) = false := by decide)
    (hbase : attributeBase (.Name x npos) "extend" X.env (eval (.Name x npos) X.env) = eval (.Name x npos) X.env := by rfl)
    (hfew : ((backTo cpos (starEach [e] X.env)).all (fun x => !x.1) && (backToKw cpos (keywordEach [] X.env)).all (fun x => x.1.isSome)
      && decide (([e] : List Expr).length + ([] : List Keyword).length + (if ([] : List Keyword).isEmpty then 0 else 1) < 30)) = true := by rfl)
    (hline : (apos.endLine == cpos.line) = true := by rfl) (hs1 : starEach [e] X.env = [(false, eval e X.env)] := by rfl)
    (hs : swapsWith (.Call (.Attribute (.Name x npos) "extend" apos) [e] [] cpos) none pos.line X.env = pure false := by rfl) :
    PS X (.Expr (.Call (.Attribute (.Name x npos) "extend" apos) [e] [] cpos) pos) (tsOf G W pin (sExt i m)) := by
  have hm : MtR X "list.extend" rExtend := mt_extend
  refine PS.imp (ps_expr (pe_bm PySem.F.plainAttrs_list PySem.F.slot_list_extend PySem.F.type_list_extend hm (pe_var hN hv hd hcd) (pa_cons he pa_nil hs1) hbase hfew hline hs1 rfl) hs) ?_
  rintro D σ H ⟨ρ, F, fp, en, h⟩
  unfold sExt at h
  split at h
  · rename_i hw
    obtain ⟨d0, hd0⟩ := isOwL_some hw
    obtain ⟨u, g1, g2⟩ := en.ow i _ hd0
    refine ⟨u, g1, by rw [o.K]; exact g2.isL, ?_⟩
    refine ocS_bind en h fun y d ρ1 H1 F1 fp1 s1 e1 r1 h1 => ?_
    split at h1
    · rename_i es ds hds
      obtain ⟨u', g1', g2'⟩ := e1.ow i _ hds
      obtain rfl : u' = u := by rw [g1] at g1'; cases g1'; rfl
      split at h1
      · rename_i hz
        obtain ⟨b, ws, rfl, hb, ab, zb⟩ := Bz.seqL (.fz r1)
        cases g2' with
        | @lst p vs _ _ hp a z q =>
          have hq := (q p).mpr rfl
          have hl := a.len
          have hl2 := ab.len
          have qq := e1.putS (o := .lst (vs ++ ws)) hq
          refine ⟨p, b, vs, ws, rfl, rfl, hp, hb, big_le (Nat.le_trans (by omega : vs.length + ws.length ≤ 100000) (by decide)), ?_⟩
          exact h1 σ _ F1 fp1 (Stp.put hq) (e1.put hq g1 (fun z => z) (.lst upd_same (FzA.app (a.mono qq) (ab.mono qq)) (by rw [List.length_append]; exact Nat.le_trans (by omega : vs.length + ws.length ≤ 100000) (by decide)) q)) (Pn.refl _ _)
      · exact h1.elim
    · exact h1.elim
  · exact h.elim
/-! ### repr(x), x a tuple or a list of plain data -/
def rpOk (d : IV) : Bool := pln d && ((pd d).showable && (!(pd d).hasDict && (decide ((pd d).shown.length ≤ sizeLine) && decide ((pd d).depth ≤ 60))))
def fRepr : List IV → Option IV
  | [d] => if rpOk d = true then some (.str (pd d).shown) else none
  | _ => none
end
/-! ### f(k = v, ..), values only -/
def permL {α : Type} (perm : List Nat) (l : List α) : List α := perm.filterMap fun i => l[i]?
theorem vals_perm {vs : List V} {us : List Value} (r : Vals vs us) (perm : List Nat) : Vals (permL perm vs) (permL perm us) := by
  induction perm with
  | nil => exact .nil
  | cons i perm ih =>
    cases hv : vs[i]? with
    | none =>
      have hu : us[i]? = none := by
        rw [List.getElem?_eq_none_iff] at hv ⊢
        rw [← r.length]; exact hv
      have e1 : permL (i :: perm) vs = permL perm vs := by unfold permL; rw [List.filterMap_cons, hv]
      have e2 : permL (i :: perm) us = permL perm us := by unfold permL; rw [List.filterMap_cons, hu]
      rw [e1, e2]
      exact ih
    | some v =>
      obtain ⟨u, hu, q⟩ := r.get hv
      have e1 : permL (i :: perm) vs = v :: permL perm vs := by unfold permL; rw [List.filterMap_cons, hv]
      have e2 : permL (i :: perm) us = u :: permL perm us := by unfold permL; rw [List.filterMap_cons, hu]
      rw [e1, e2]
      exact .cons q ih
theorem fza_get {G : Gx} {F : AP1} {H : Hp} : ∀ {vs : List V} {ds : List IV} {i : Nat} {v : V}, FzA G F H vs ds → vs[i]? = some v → ∃ d, ds[i]? = some d ∧ Fz G F H v d
  | _, _, _, _, .nil, e => by simp at e
  | _, _, 0, _, .cons r _, e => by simp at e; subst e; exact ⟨_, rfl, r⟩
  | _, _, i + 1, _, .cons _ r, e => by
    obtain ⟨d, h1, h2⟩ := fza_get (i := i) r (by simpa using e)
    exact ⟨d, by simpa using h1, h2⟩
theorem fza_perm {G : Gx} {F : AP1} {H : Hp} {vs : List V} {ds : List IV} (r : FzA G F H vs ds) (perm : List Nat) : FzA G F H (permL perm vs) (permL perm ds) := by
  induction perm with
  | nil => exact .nil
  | cons i perm ih =>
    cases hv : vs[i]? with
    | none =>
      have hu : ds[i]? = none := by
        rw [List.getElem?_eq_none_iff] at hv ⊢
        rw [← r.len]; exact hv
      have e1 : permL (i :: perm) vs = permL perm vs := by unfold permL; rw [List.filterMap_cons, hv]
      have e2 : permL (i :: perm) ds = permL perm ds := by unfold permL; rw [List.filterMap_cons, hu]
      rw [e1, e2]
      exact ih
    | some v =>
      obtain ⟨u, hu, q⟩ := fza_get r hv
      have e1 : permL (i :: perm) vs = v :: permL perm vs := by unfold permL; rw [List.filterMap_cons, hv]
      have e2 : permL (i :: perm) ds = u :: permL perm ds := by unfold permL; rw [List.filterMap_cons, hu]
      rw [e1, e2]
      exact .cons q ih
theorem ras_v {G : Gx} {σ : L2.St} {F : AP1} {H : Hp} : ∀ {vs : List V} {ds : List IV}, FzA G F H vs ds → RAs G σ F H vs (ds.map .v)
  | _, _, .nil => .nil
  | _, _, .cons h t => .cons h (ras_v t)
/-- how the written arguments come to the parameters: n by place, m by name -/
structure KBp (K : Frag) (fd : FuncData) (ps : List Str) (n : Nat) (ks : List Str) (perm : List Nat) : Prop where
  pos : 0 < ps.length
  to : ∀ (s : Shared) (us ws : List Value), K.In s.heap → us.length = n → ws.length = ks.length → BindsTo s fd ⟨us, ks.zip ws⟩ (ps.zip (permL perm (us ++ ws)))
def guardL {α : Type} (n m : Nat) (perm : List Nat) (us ws : List α) : List α := if us.length = n ∧ ws.length = m then permL perm (us ++ ws) else []
theorem KBp.kb {K : Frag} {fd : FuncData} {ps ks : List Str} {n : Nat} {perm : List Nat} (b : KBp K fd ps n ks perm) : KBinds K fd ps ks (guardL n ks.length perm) (guardL n ks.length perm) := by
  refine ⟨fun s us ws kin hl => ?_, fun {vs us zs ws} r1 r2 => ?_⟩
  · unfold guardL at hl ⊢
    by_cases h : us.length = n ∧ ws.length = ks.length
    · rw [if_pos h]; exact b.to s us ws kin h.1 h.2
    · rw [if_neg h] at hl
      have := b.pos
      simp at hl; omega
  · unfold guardL
    rw [r1.length, r2.length]
    by_cases h : us.length = n ∧ ws.length = ks.length
    · rw [if_pos h, if_pos h]; exact vals_perm (r1.append r2) perm
    · rw [if_neg h, if_neg h]; exact .nil
/-- .. by a def's text -/
theorem FunM.kbp {K : Frag} {d : DefM} {fd : FuncData} {ps ks : List Str} {n : Nat} {perm : List Nat} (F : FunM K d fd) (hp : 0 < ps.length) (hd : d.dfl = [])
    (h : ∀ (kV doc pm : Value) (an : Option Addr) (cdv ct : Value) (us ws : List Value), us.length = n → ws.length = ks.length → bindArgs (PySem.W.fnOf d.name d.qual (defArgs d.st) (defBody d.st) (defScope d.st) .none kV doc pm an cdv ct) ⟨us, ks.zip ws⟩ = pure (ps.zip (permL perm (us ++ ws)))) : KBp K fd ps n ks perm := by
  obtain ⟨oc, od, dV, kV, doc, pm, an, cdv, ct, osl, rfl, lk, hcd, hD, _⟩ := F.ex
  have hd' : d.dvs K = [] := by unfold DefM.dvs; rw [hd]; rfl
  rw [hd'] at hD
  rcases hD with ⟨_, rfl⟩ | ⟨e, _⟩
  · exact ⟨hp, fun s us ws kin h1 h2 => .of_eq (h kV doc pm an cdv ct us ws h1 h2)⟩
  · exact absurd rfl e
structure FnK (P : Program) (w : World) (K : Frag) (mg : Str → Option Value) (base : Heap) (G : Gx) (k : Nat) (x : Str) (np : Nat) (fn : Fn) (n : Nat) (ks : List Str) (perm : List Nat) : Prop where
  ex : ∃ (f : Addr) (fd : FuncData) (ps : List Str), mg x = some (.ref f) ∧ PySem.W.keepIn K (.ref f) = true ∧ KBp K fd ps n ks perm ∧ FnOk P w K mg base (L2.CX P w) k f fd ps (spOf G (List.replicate np false) fn)
def iCallK (np : Nat) (fn : Fn) (perm : List Nat) (A Z : EA) : E := fun ρ => (A ρ).bind fun ds ρ1 => (Z ρ1).bind fun zs ρ2 => callF (List.replicate np false) fn ((permL perm (ds ++ zs)).map .v) ρ2
/-- a call's end, whatever ended it -/
theorem end_of {X : Cx} {CX : CXT} {pins : List (Addr × Obj)} {σ : L2.St} {H : Hp} {s : Shared} {Q : VK} {E : XK} (hx : PassesAt CX X σ E) (I : Inv X pins σ H s) {c : Code}
    (h : codeAny (model X.prog X.w) X.A c (CR CX X.stack X.prog X.w H s Q E) s) : codeAny (model X.prog X.w) X.A c (fun r s' => match r with
      | .ok (.ret u) => EP X pins σ Q u s'
      | .ok _ => False
      | .error e => X.xe e s') s := codeAny_mono h fun r s' hq => by
  cases r with
  | error e => exact hx pins H s e s' I hq
  | ok fl => cases fl <;> first | exact I.after hq | exact hq.elim
theorem run_fnkS {X : Cx} {CX : CXT} {k : Nat} {f : Addr} {fd : FuncData} {ps ks : List Str} {sp : Sp} {E : XK} {g : List Value → List Value → List Value} {gV : List V → List V → List V} {pins : List (Addr × Obj)} {σ : L2.St} {H : Hp} {s : Shared} {Q : VK} {us ws : List Value} {vs zs : List V}
    (F : FnOk X.prog X.w X.K X.mg X.base CX k f fd ps sp) (hr : Room k X.A) (hb : KBinds X.K fd ps ks g gV) (hx : PassesAt CX X σ E) (I : Inv X pins σ H s) (r : Vals vs us) (rz : Vals zs ws) (h : sp (gV vs zs) H Q E) :
    wpAny (model X.prog X.w) X.A (call (.ref f) us (ks.zip ws)) (EP X pins σ Q) X.xe s := by
  have r2 := hb.rel r rz
  have hl : (g us ws).length = ps.length := (r2.length).symm.trans (F.len _ _ _ _ h)
  have run := end_of hx I (F.run X.A X.stack s H ⟨us, ks.zip ws⟩ (g us ws) (gV vs zs) Q E hr I.env0 (hb.to s us ws I.kIn hl) r2 h)
  refine wpAny_call (codeAny_mono run fun r s' hq => ?_)
  cases r with
  | error e => exact hq
  | ok fl => cases fl <;> first | exact hq | exact hq.elim
section
variable {X : Cx} {G : Gx} {W : WX}
theorem m_callK0 (o : Ok X G W) {k np : Nat} {ks : List Str} {perm : List Nat} {fn : Fn} {x : Str} {kws : List Keyword} {p pos : Pos} {Z : EA} (Fo : FnK X.prog X.w X.K X.mg X.base G k x np fn 0 ks perm) (hr : Room k X.A)
    (hk : PK X kws (taOf G W Z)) (hZ : LenA Z ks.length) (hg : Gl X x := by rfl)
    (hall : (backToKw pos (keywordEach kws X.env)).all (·.1.isSome) = true := by rfl) (hks : (backToKw pos (keywordEach kws X.env)).filterMap (·.1) = ks := by rfl) (hdb : (x == ("__debug__" : Str)) = false := by decide)
    (hpl : ((backTo pos (starEach [] X.env)).any (·.1) || (backToKw pos (keywordEach kws X.env)).any (·.1.isNone)) = false := by rfl) :
    PE X (.Call (.Name x p) [] kws pos) (teOf G W (iCallK np fn perm iNil Z)) := by
  obtain ⟨f, fd, ps, h1, h2, hb, h4⟩ := Fo.ex
  refine ⟨fun pins s σ H Q I h => ?_⟩
  refine wpAny_Call_Name_kw (ld_glob I hg h1 ?_ hdb)
  obtain ⟨ρ1, F1, fp1, e1, w⟩ := h
  have hZP : taOf G W Z σ H (fun zs H2 => ∃ es' ρ2 F2 fp2, es'.length = ks.length ∧ EnvR G F2 H2 σ ρ2 fp2 ∧ FzA G F2 H2 zs es' ∧ Oc RV G W σ H2 F2 fp2 (callF (List.replicate np false) fn ((permL perm ([] ++ es')).map .v) ρ2) Q) := by
    refine ⟨ρ1, F1, fp1, e1, ?_⟩
    unfold iCallK iNil at w
    simp only [Rz.bind] at w
    cases hZ' : Z ρ1 with
    | no => rw [hZ'] at w; exact w
    | ex c p ρ' => rw [hZ'] at w; exact w
    | ok es' ρ2 =>
      rw [hZ'] at w
      exact fun zs H2 F2 fp2 t e2 r2 => ⟨es', ρ2, F2, fp2, hZ.len _ _ _ hZ', e2, r2, Oc.step t w⟩
  refine PySem.W.callWith_KW0 (h₀ := X.base) I.ok.mod.kin h2 hall (thn (hk.run pos pins s σ H _ I hZP) fun ws s2 ⟨zs, H2, I2, rz, q2⟩ => ⟨I2.kIn, ?_⟩) hpl
  obtain ⟨es', ρ2, F2, fp2, hl2, e2, fz2, w2⟩ := q2
  rw [hks]
  have hlw : zs.length = ks.length := by rw [fz2.len, hl2]
  refine run_fnkS (us := []) (vs := []) h4 hr hb.kb (passAt o.tk σ) I2 .nil rz ?_
  have := call_sp e2 (ras_v (fza_perm (FzA.app .nil fz2) perm)) w2
  unfold guardL
  rw [if_pos ⟨rfl, hlw⟩]
  exact this
end
/-! ### a def whose promise wants that no repr is under way -/
structure FnG (P : Program) (w : World) (K : Frag) (mg : Str → Option Value) (base : Heap) (CX : CXT) (k : Nat) (f : Addr) (fd : FuncData) (ps : List Str) (sp : Sp) : Prop where
  len : ∀ vs H Q E, sp vs H Q E → vs.length = ps.length
  run : ∀ (A : Around) (outer : List PySem.Env) (s : Shared) (H : Hp) (as : Args) (us : List Value) (vs : List V) (Q : VK) (E : XK), A.guards = some [] → Room k A → Env0 P w K mg base A outer s H → BindsTo s fd as (ps.zip us) → Vals vs us → sp vs H Q E →
    codeAny (model P w) A (.call (.ref f) as) (CR CX outer P w H s Q E) s
theorem FnOk.g {P : Program} {w : World} {K : Frag} {mg : Str → Option Value} {base : Heap} {CX : CXT} {k : Nat} {f : Addr} {fd : FuncData} {ps : List Str} {sp : Sp} (F : FnOk P w K mg base CX k f fd ps sp) : FnG P w K mg base CX k f fd ps sp :=
  ⟨F.len, fun A outer s H as us vs Q E _ hr he hb hv hs => F.run A outer s H as us vs Q E hr he hb hv hs⟩
section
variable {P : Program} {w : World} {K : Frag} {mg : Str → Option Value} {base : Heap}
end
/-! ### the law's end -/
/-- the heap ahead of the law: nothing is told but the script -/
theorem script_at {P : Program} {w : World} {K : Frag} {h : Heap} {a : Addr} {vs : List Value} {ns : List Int} (KX : K.In h) (ha : h.get? a = some { cls := .type "list", data := .seq vs.toArray }) (hi : IntsAre vs ns) (hl : ns.length ≤ sizeLine) :
    ∃ H : Hp, Only H ∧ SqL K H a (ns.map V.int) ∧ HOk P w H h ∧ (∀ b, H b ≠ none → b = a) ∧ (H a ≠ none → K.lookup a = none) := by
  have rv := vals_ints hi
  have hlen : vs.length ≤ sizeLine := by rw [hi.length]; exact hl
  by_cases hk : K.lookup a = none
  · let ob : Obj := { cls := .type "list", data := .seq vs.toArray }
    let H : Hp := fun b => if b = a then some (.frz ob (.lst (ns.map V.int))) else none
    have at_ : H a = some (.frz ob (.lst (ns.map V.int))) := if_pos rfl
    have off : ∀ b, b ≠ a → H b = none := fun b n => if_neg n
    have on_ : ∀ b, H b ≠ none → b = a := fun b z => Classical.byContradiction fun n => z (off b n)
    refine ⟨H, fun b => ?_, Or.inl (Or.inr ⟨ob, at_⟩), fun b u z => ?_, on_, fun _ => hk⟩
    · by_cases n : b = a
      · exact Or.inr ⟨ob, _, by rw [n]; exact at_⟩
      · exact Or.inl (off b n)
    · obtain rfl : b = a := on_ b (by rw [z]; exact Option.some_ne_none _)
      rw [at_] at z
      cases z
      exact ⟨ha, by rw [List.length_map]; exact hl, vs, _, rv, ha⟩
  · obtain ⟨o, ho⟩ := Option.ne_none_iff_exists'.mp hk
    have e := (KX a o ho).symm.trans ha
    cases e
    exact ⟨fun _ => none, fun _ => Or.inl rfl, Or.inr ⟨_, vs.toArray, _, ho, rfl, rfl, rfl, by rw [List.size_toArray]; exact hlen, by simpa using rv⟩, fun b u z => (by cases z), fun b z => absurd rfl z, fun z => absurd rfl z⟩
end MR
set_option maxRecDepth 100000
set_option maxHeartbeats 4000000
/-! MirZ: len of an own class's instance; x += e. -/
namespace MR
open PySem L2 PyProof.Rows
/-- a method of one parameter, by name -/
structure LenS (P : Program) (w : World) (K : Frag) (mg : Str → Option Value) (base : Heap) (G : Gx) (n : Nat) (c : String) (m : Str) (fn : Fn) (f : Addr) (fd : FuncData) (ps : List Str) : Prop where
  ok : FnOk P w K mg base (L2.CX P w) n f fd ps (spOf G [false] fn)
  at_ : PySem.W.findIn K (.ref (G.cls c)) m = some (some (.ref f))
  fn_ : PySem.W.isFn K (.ref f) = true
  bi : Binds K fd ps []
section
variable {X : Cx} {G : Gx} {W : WX} {σ : L2.St} {H : Hp} {F : AP1} {fp : FPt} {ρ : Env} {pin : List Nat}
/-! ### x += e, whole numbers -/
end
end MR
set_option maxRecDepth 100000
set_option maxHeartbeats 4000000
/-! MirW: a key in a dict; < of tuples. -/
namespace MR
open PySem L2 PyProof.Rows
section
variable {X : Cx} {G : Gx} {W : WX} {F : AP1} {H : Hp}
def hasK (kvs : List (Key × IV)) (k : Key) : Bool := kvs.any fun kv => decide (kv.1 = k)
theorem FzP.has {vs : List (Key × V)} : ∀ {ds : List (Key × IV)} {k : Key}, FzP G F H vs ds → (valV vs k).isSome = hasK ds k := by
  induction vs with
  | nil =>
    intro ds k h
    cases h
    rfl
  | cons q vs ih =>
    intro ds k h
    cases h with
    | @cons _ k0 v _ d ds hd t =>
      have e := ih (k := k) t
      unfold valV hasK at e ⊢
      simp only [List.find?_cons, List.any_cons]
      by_cases c : k0 = k
      · simp [c]
      · simp only [c, decide_false, Bool.false_or]
        exact e
/-! ### t < u, tuples of whole numbers -/
end
end MR
set_option maxRecDepth 100000
/-! sets of ints: set(list), {a, b} -/
namespace NSet
open PySem PySem.Spec PyProof.Rows L2
section
variable {P : Program} {w : World} {A : Around} {E : Value → Shared → Prop} {s : Shared}
set_option maxHeartbeats 3200000 in
end
section
variable {X : Cx}
/-- a display whose items are put in one by one -/
theorem shown {A : Around} {E : Value → Shared → Prop} {s : Shared} {P : Program} {w : World} {rd : DisplayRoad} {m : Bool} {el : List (Bool × Sem Value)} {js : List (Sem Value)} {Q : Value → Shared → Prop} (r1 : (rd == .constants) = false) (r2 : (rd == .unsure) = false)
    (none' : el.findIdx? (·.1) = none) (few : el.length ≤ 30) (same : el.map (·.2) = js)
    (h : wpAny (model P w) A (evalAll js) (fun vs s' => PySem.W.KdsFill (model P w) A E false s.heap.objs.size Q vs s') E { s with heap := s.heap.push (freshSet w) }) : wpAny (model P w) A (setDisplay rd m el) Q E s := by
  have first : (if el.length > 30 then 0 else (el.findIdx? (·.1)).getD el.length) = el.length := by
    rw [if_neg (by omega), none']
    rfl
  unfold setDisplay
  try dsimp only
  rw [if_neg (by rw [r1]; exact Bool.false_ne_true)]
  refine wpAny_bind (PpSet.newSet_ok ?_)
  dsimp only
  rw [first, List.take_length, List.drop_length, same]
  refine wpAny_bind (wpAny_holding (wpAny_bind (wpAny_mono h (fun vs s1 h1 => ?_) fun _ _ z => z)))
  refine wpAny_bind (wpAny_holding (wpAny_bind (wpAny_mono (PySem.W.kds_for (fun x R s2 hx => ?_) vs s1 h1) (fun _ s2 h2 => ?_) fun _ _ z => z)))
  · refine wpAny_bind (wpAny_mono hx (fun _ s3 h3 => ?_) fun _ _ z => z)
    first | exact wpAny_pure ⟨rfl, h3⟩ | exact wpAny_bind (wpAny_pure (wpAny_pure ⟨rfl, h3⟩))
  · have h3 : Q (.ref s.heap.objs.size) s2 := by simpa [PySem.W.KdsFill] using h2
    rw [r2, if_neg Bool.false_ne_true]
    refine wpAny_pure ?_
    rw [List.forIn_nil]
    exact wpAny_pure (wpAny_pure h3)
end
end NSet
set_option maxRecDepth 100000
set_option maxHeartbeats 4000000
/-! MirSet: sets (of outcomes, of ints) that are made to be sorted. -/
namespace MR
open PySem L2 PyProof.Rows NSet
mutual
theorem kOf_inj : ∀ (d e : IV) (k : NestedKey), kOf d = some k → kOf e = some k → d = e
  | .int i, e, k, h1, h2 => by
    simp only [kOf, Option.some.injEq] at h1
    subst h1
    cases e <;> simp [kOf] at h2
    rw [h2]
  | .str i, e, k, h1, h2 => by
    simp only [kOf, Option.some.injEq] at h1
    subst h1
    cases e <;> simp [kOf] at h2
    rw [h2]
  | .tup xs, e, k, h1, h2 => by
    simp only [kOf, Option.map_eq_some_iff] at h1
    obtain ⟨ks, h1, z⟩ := h1
    subst z
    cases e <;> simp [kOf] at h2
    rename_i ys
    rw [kOfs_inj xs ys ks h1 h2]
  | .non, e, k, h1, h2 => by simp [kOf] at h1
  | .bl b, e, k, h1, h2 => by simp [kOf] at h1
  | .ty b, e, k, h1, h2 => by simp [kOf] at h1
  | .cl b, e, k, h1, h2 => by simp [kOf] at h1
  | .lst b, e, k, h1, h2 => by simp [kOf] at h1
  | .scr b, e, k, h1, h2 => by simp [kOf] at h1
  | .dic b, e, k, h1, h2 => by simp [kOf] at h1
  | .ins b c, e, k, h1, h2 => by simp [kOf] at h1
  | .drw a b c d, e, k, h1, h2 => by simp [kOf] at h1
  | .prs a, e, k, h1, h2 => by simp [kOf] at h1
  | .lds a, e, k, h1, h2 => by simp [kOf] at h1
  | .tab a, e, k, h1, h2 => by simp [kOf] at h1
  | .err a b, e, k, h1, h2 => by simp [kOf] at h1
  | .lam a, e, k, h1, h2 => by simp [kOf] at h1
  | .dnk a b, e, k, h1, h2 => by simp [kOf] at h1
  | .tpl a b, e, k, h1, h2 => by simp [kOf] at h1
theorem kOfs_inj : ∀ (xs ys : List IV) (ks : List NestedKey), kOfs xs = some ks → kOfs ys = some ks → xs = ys
  | [], ys, ks, h1, h2 => by
    simp only [kOfs, Option.some.injEq] at h1
    subst h1
    cases ys with
    | nil => rfl
    | cons y ys =>
      simp only [kOfs] at h2
      split at h2 <;> simp at h2
  | x :: xs, ys, ks, h1, h2 => by
    simp only [kOfs] at h1
    split at h1
    · rename_i k1 k2 e1 e2
      simp only [Option.some.injEq] at h1
      subst h1
      cases ys with
      | nil => simp [kOfs] at h2
      | cons y ys =>
        simp only [kOfs] at h2
        split at h2
        · rename_i m1 m2 f1 f2
          simp only [Option.some.injEq, List.cons.injEq] at h2
          obtain ⟨z1, z2⟩ := h2
          subst z1
          subst z2
          rw [kOf_inj x y _ e1 f1, kOfs_inj xs ys _ e2 f2]
        · simp at h2
    · simp at h1
end
section
variable {G : Gx} {F : AP1} {H : Hp}
mutual
theorem Fz.vkey : ∀ {v : V} {d : IV} {k : NestedKey}, Fz G F H v d → kOf d = some k → VKey G.K H v k
  | _, _, _, .int i, h => by simp only [kOf, Option.some.injEq] at h; subst h; exact .int i
  | _, _, _, .str i, h => by simp only [kOf, Option.some.injEq] at h; subst h; exact .text i
  | _, _, _, .tup hq ha _, h => by
    simp only [kOf, Option.map_eq_some_iff] at h
    obtain ⟨ks, h, z⟩ := h
    subst z
    exact .tup hq (FzA.vkeys ha h)
  | _, _, _, .non, h => by simp [kOf] at h
  | _, _, _, .bl _, h => by simp [kOf] at h
  | _, _, _, .ty _, h => by simp [kOf] at h
  | _, _, _, .cl _, h => by simp [kOf] at h
  | _, _, _, .lst _ _ _ _, h => by simp [kOf] at h
  | _, _, _, .scr _ _, h => by simp [kOf] at h
  | _, _, _, .dic _ _ _ _, h => by simp [kOf] at h
  | _, _, _, .ins _ _ _, h => by simp [kOf] at h
  | _, _, _, .err0 _ _, h => by simp [kOf] at h
  | _, _, _, .errD _ _ _ _ _, h => by simp [kOf] at h
  | _, _, _, .lam _ _ _ _ _, h => by simp [kOf] at h
  | _, _, _, .dnk _ _ _ _, h => by simp [kOf] at h
theorem FzA.vkeys : ∀ {vs : List V} {ds : List IV} {ks : List NestedKey}, FzA G F H vs ds → kOfs ds = some ks → VKeys G.K H vs ks
  | _, _, _, .nil, h => by simp only [kOfs, Option.some.injEq] at h; subst h; exact .nil
  | _, _, _, .cons a b, h => by
    simp only [kOfs] at h
    split at h
    · rename_i k1 k2 e1 e2
      simp only [Option.some.injEq] at h
      subst h
      exact .cons (a.vkey e1) (FzA.vkeys b e2)
    · simp at h
end
end
/-! ### the outcomes, ascending -/
/-! ### ints, ascending -/
section
variable {X : Cx} {G : Gx} {W : WX}
/-! ### a value that is a set of these items -/
end
end MR
set_option maxRecDepth 100000
set_option maxHeartbeats 4000000
/-! MirSeu: set(xs), {e for x in xs}, {a, b}, sorted(set). -/
namespace MR
open PySem L2 PyProof.Rows NSet
section
variable {X : Cx} {G : Gx} {W : WX}
/-! ### sorted(set) -/
/-! ### set(xs) -/
/-! ### {a, b}, ints -/
end
end MR
set_option maxRecDepth 100000
set_option maxHeartbeats 4000000
/-! MirSev: {e for x in xs if ..} of outcomes. -/
namespace MR
open PySem L2 PyProof.Rows NSet
section
variable {X : Cx} {G : Gx} {W : WX}
/-- between the turns -/
structure ScW (w : World) (G : Gx) (σ : L2.St) (H1 : Hp) (F1 : AP1) (fp1 : FPt) (ds : List IV) (t : TM) (ts : EB) (el : E) (own : List Nat) (all : List IV) (ρe : Env) (D : Addr) (i : Nat) (H : Hp) (ρ : Env) (F : AP1) (fp : FPt) (L : List Row) (xs : List IV) : Prop where
  stp : Stp H1 F1 (un fp1) H F (un fp)
  env : EnvR G F H σ ρ fp
  at_ : H D = some (NSet.setO w D L)
  nf : ¬ F D
  np : ¬ un fp D
  rows : ∀ r ∈ L, ∃ d ∈ xs, Fz G F H (.ref r.1) d ∧ kOf d = some r.2
  got : ∀ d ∈ xs, ∃ k, kOf d = some k ∧ k ∈ L.map Prod.snd
  rest : ∃ ys, lcLoop t ts el own (ds.drop i) ρ = .ok ys ρe ∧ xs ++ ys = all
/-! ### a def whose code object is told -/
end
end MR
set_option maxRecDepth 100000
set_option maxHeartbeats 4000000
/-! sorted(d), d a dict whose keys are pairs of ints -/
namespace NSet
open PySem PySem.Spec PyProof.Rows L2
section
variable {P : Program} {w : World} {A : Around} {E : Value → Shared → Prop} {s : Shared}
end
section
variable {X : Cx}
end
end NSet
set_option maxRecDepth 100000
set_option maxHeartbeats 4000000
/-! MirPrs: a slot's own dict whose keys are pairs; starred items of displays. -/
namespace MR
open PySem L2 PyProof.Rows NSet
section
variable {X : Cx} {G : Gx} {W : WX} {pin : List Nat}
/-! ### *xs in a display -/
def iStar (A : E) (B : EA) : EA := fun ρ => (A ρ).bind fun d ρ1 => match d with
  | .lst xs => (B ρ1).bind fun ys ρ2 => .ok (xs ++ ys) ρ2
  | .tup xs => (B ρ1).bind fun ys ρ2 => .ok (xs ++ ys) ρ2
  | _ => .no
theorem q_star {A : E} {B : EA} : ∀ σ H Q, taOf G W (iStar A B) σ H Q → StX.tStar G.K (teOf G W A) (taOf G W B) σ H Q := by
  rintro σ H Q ⟨ρ, F, fp, e, h⟩
  refine ⟨ρ, F, fp, e, ?_⟩
  unfold iStar at h
  cases hA : A ρ with
  | no => rw [hA] at h; exact h.elim
  | ex c p ρ1 => rw [hA] at h; exact h
  | ok d ρ1 =>
    rw [hA] at h
    intro v H1 F1 fp1 s1 e1 r1
    have h1 := Oc.step s1 h
    cases d with
    | lst xs =>
      cases r1 with
      | @lst p vs _ f hp a z =>
        refine ⟨p, vs, rfl, .inr (SqL.of hp), ?_⟩
        refine oc_bind e1 h1 fun ws es ρ2 H2 F2 fp2 s2 e2 r2 h2 => ?_
        exact oc_okR h2 e2 (FzA.app (FzA.mono (e1.stq s2) a) r2)
    | tup xs =>
      cases r1 with
      | @tup p vs _ hp a z =>
        refine ⟨p, vs, rfl, .inl hp, ?_⟩
        refine oc_bind e1 h1 fun ws es ρ2 H2 F2 fp2 s2 e2 r2 h2 => ?_
        exact oc_okR h2 e2 (FzA.app (FzA.mono (e1.stq s2) a) r2)
    | _ => exact h1.elim
theorem a_star {e : Expr} {es : List Expr} {p : Pos} {A : E} {B : EA} (o : Ok X G W) (ha : PE X e (teOf G W A)) (hb : PA X es (taOf G W B)) (hs : starEach (.Starred e p :: es) X.env = (true, eval e X.env) :: starEach es X.env := by rfl) : PA X (.Starred e p :: es) (taOf G W (iStar A B)) := by
  have h := StX.pa_star (p := p) ha hb hs
  rw [o.K] at h
  exact PA.imp h q_star
/-! ### d = {}; d[(a, b)] = True; sorted(d) -/
end
end MR
set_option maxRecDepth 100000
set_option maxHeartbeats 4000000
/-! MirLc2: [e for x in xs if .. for y in ys if ..]. -/
namespace MR
open PySem L2 PyProof.Rows NSet
section
variable {X : Cx} {G : Gx} {W : WX}
def lc2Loop (t : TM) (ts : EB) (M1 : EL) (t1 : TM) (ts1 : EB) (el : E) (own own1 : List Nat) : List IV → Env → Option (List IV × Env)
  | [], ρ => some ([], ρ)
  | d :: ds, ρ => match t d (wipeE ρ own) with
    | none => none
    | some ρa => match ts ρa with
      | .ok false ρb => lc2Loop t ts M1 t1 ts1 el own own1 ds (restE ρ ρb own)
      | .ok true ρb => (match M1 ρb with
        | .ok es ρc => (match lcLoop t1 ts1 el own1 es ρc with
          | .ok ys ρd => (lc2Loop t ts M1 t1 ts1 el own own1 ds (restE ρ ρd own)).map fun r => (ys ++ r.1, r.2)
          | _ => none)
        | _ => none)
      | _ => none
/-- where a comprehension stands: what was, what is, the new list -/
structure LcS (G : Gx) (H1 : Hp) (F1 : AP1) (fp1 : FPt) (D : Addr) (H : Hp) (F : AP1) (fp : FPt) (acc : List V) (xs : List IV) : Prop where
  stp : Stp H1 F1 (un fp1) H F (un fp)
  at_ : H D = some (.lst acc)
  nf : ¬ F D
  np : ¬ un fp D
  fz : FzA G F H acc xs
theorem LcS.step {H1 H H' : Hp} {F1 F F' : AP1} {fp1 fp fp' : FPt} {D : Addr} {acc : List V} {xs : List IV} (w : LcS G H1 F1 fp1 D H F fp acc xs) (s : Stp H F (un fp) H' F' (un fp')) (q : Stq H F H' F') : LcS G H1 F1 fp1 D H' F' fp' acc xs := by
  refine ⟨w.stp.trans s, s.keep _ _ w.at_ w.np, fun f => ?_, fun f => ?_, w.fz.mono q⟩
  · rcases s.fnew D f with g | g | g
    · exact w.nf g
    · exact w.np g
    · rw [w.at_] at g; cases g
  · rcases s.pnew D f with g | g
    · exact w.np g
    · rw [w.at_] at g; cases g
theorem LcS.add {H1 H : Hp} {F1 F : AP1} {fp1 fp : FPt} {D : Addr} {acc : List V} {xs : List IV} {v : V} {y : IV} (w : LcS G H1 F1 fp1 D H F fp acc xs) (hD : H1 D = none) (fv : Fz G F H v y) :
    Stq H F (upd H D (.lst (acc ++ [v]))) F ∧ LcS G H1 F1 fp1 D (upd H D (.lst (acc ++ [v]))) F fp (acc ++ [v]) (xs ++ [y]) := by
  have q5 : Stq H F (upd H D (.lst (acc ++ [v]))) F := by
    refine ⟨fun a o z f => ?_, fun a o z mm => ?_, fun _ f => f⟩
    · rw [upd_ne (fun q => w.nf (by rw [← q]; exact f))]; exact z
    · rw [upd_ne (fun q => by rw [q, w.at_] at z; cases z; exact mm)]; exact z
  refine ⟨q5, ⟨fun a o z n => ?_, w.stp.frm, w.stp.fnew, w.stp.pnew, fun a z => ?_⟩, upd_same, w.nf, w.np, (FzA.snoc w.fz fv).mono q5⟩
  · have : a ≠ D := fun q => by rw [q, hD] at z; cases z
    rw [upd_ne this]; exact w.stp.keep a o z n
  · by_cases hp : a = D
    · rw [hp]; exact hD
    · rw [upd_ne hp] at z; exact w.stp.dom a z
/-- between the inner turns -/
structure InW (G : Gx) (σ2 : L2.St) (H1 : Hp) (F1 : AP1) (fp1 : FPt) (F0 : AP1) (H0 : Hp) (es : List IV) (t1 : TM) (ts1 : EB) (el : E) (own1 : List Nat) (all : List IV) (ρd : Env) (D : Addr) (j : Nat) (H : Hp) (ρ : Env) (F : AP1) (fp : FPt) (acc : List V) (xs : List IV) : Prop where
  s : LcS G H1 F1 fp1 D H F fp acc xs
  env : EnvR G F H σ2 ρ fp
  st0 : Stq H0 F0 H F
  rest : ∃ ys, lcLoop t1 ts1 el own1 (es.drop j) ρ = .ok ys ρd ∧ xs ++ ys = all
/-- between the outer turns -/
structure OutW (G : Gx) (σ : L2.St) (H1 : Hp) (F1 : AP1) (fp1 : FPt) (ds : List IV) (t : TM) (ts : EB) (M1 : EL) (t1 : TM) (ts1 : EB) (el : E) (own own1 : List Nat) (all : List IV) (ρe : Env) (D : Addr) (i : Nat) (H : Hp) (ρ : Env) (F : AP1) (fp : FPt) (acc : List V) (xs : List IV) : Prop where
  s : LcS G H1 F1 fp1 D H F fp acc xs
  env : EnvR G F H σ ρ fp
  rest : ∃ ys, lc2Loop t ts M1 t1 ts1 el own own1 (ds.drop i) ρ = some (ys, ρe) ∧ xs ++ ys = all
section
variable {pin : List Nat} (o : Ok X G W) (i : Nat) {y : Str} {py : Pos} {elt tg iter tg1 iter1 : Expr} {ifs ifs1 : List Expr} {scope : Scope} {own : List (Str × Nat)} {own1 : List Nat} {pos spos : Pos} {M M1 : EL} {t t1 : TM} {l l1 : List Nat} {ts ts1 : EB} {el : E} (hN : X.N.Nodup) (hi : PI X tg iter (tiOf G W M)) (ok : BlkOk X.N X.env.scope scope own)
  (hg : ∀ (s : Shared) (H : Hp) (C : Addr) (cl : List (Str × Addr)) (fp : List Addr), PG (X.blk s H scope (compEnvC scope cl C X.env) fp) tg (tgOf G l t)) (ht : ∀ (s : Shared) (H : Hp) (C : Addr) (cl : List (Str × Addr)) (fp : List Addr), PTs (X.blk s H scope (compEnvC scope cl C X.env) fp) ifs (ttOf G W0 ts))
  (hi1 : ∀ (s : Shared) (H : Hp) (C : Addr) (cl : List (Str × Addr)) (fp : List Addr), PI (X.blk s H scope (compEnvC scope cl C X.env) fp) tg1 iter1 (tiOf G W0 M1))
  (hg1 : ∀ (s : Shared) (H : Hp) (C : Addr) (cl : List (Str × Addr)) (fp : List Addr), PG (X.blk s H scope (compEnvC scope cl C X.env) fp) tg1 (tgOf G l1 t1)) (ht1 : ∀ (s : Shared) (H : Hp) (C : Addr) (cl : List (Str × Addr)) (fp : List Addr), PTs (X.blk s H scope (compEnvC scope cl C X.env) fp) ifs1 (ttOf G W0 ts1))
  (he : ∀ (s : Shared) (H : Hp) (C : Addr) (cl : List (Str × Addr)) (fp : List Addr), PE (X.blk s H scope (compEnvC scope cl C X.env) fp) elt (teOf G W0 el)) (hl : ∀ i ∈ l, i ∈ own.map (·.2) := by decide) (hl1 : ∀ i ∈ l1, i ∈ own1 := by decide) (ho : ∀ i ∈ own1, i ∈ own.map (·.2) := by decide)
  (hy : X.N[i]? = some y := by rfl) (hyl : X.env.scope.names.lookup y = some .local := by rfl) (hp : i ∉ pin := by decide)
  (hsw : swapsWith (.ListComp elt [⟨tg, iter, ifs, 0⟩, ⟨tg1, iter1, ifs1, 0⟩] scope pos) (some (.Name y py)) spos.line X.env = pure true := by rfl) (hs : ∀ x, foldedSetIterable iter X.env x = pure x := by intro _; rfl) (hs1 : ∀ env x, foldedSetIterable iter1 env x = pure x := by intro _ _; rfl)
include o hN hi ok hg ht hi1 hg1 ht1 he hl hl1 ho hy hyl hp hsw hs hs1
end
end
end MR
set_option maxRecDepth 100000
set_option maxHeartbeats 4000000
/-! MirPar: a, b = x, y where a name is a cell. -/
namespace MR
open PySem L2 PyProof.Rows
section
variable {X : Cx} {G : Gx} {W : WX} {pin : List Nat}
end
end MR
set_option maxRecDepth 100000
set_option maxHeartbeats 4000000
/-! MirZip: zip of lists and of tuples, enumerate of lists. -/
namespace MR
open PySem L2 PyProof.Rows
section
variable {X : Cx} {G : Gx} {W : WX} {pin : List Nat}
def pairI (a b : IV) : IV := .tup [a, b]
def zipI : List IV → Option (List IV)
  | [.lst xs, .lst ys] => some (List.zipWith pairI xs ys)
  | [.tup xs, .tup ys] => some (List.zipWith pairI xs ys)
  | _ => none
theorem zip_get {xs ys : List IV} {i : Nat} {d : IV} (h : (List.zipWith pairI xs ys)[i]? = some d) : ∃ a b, xs[i]? = some a ∧ ys[i]? = some b ∧ d = .tup [a, b] := by
  rw [List.getElem?_zipWith] at h
  split at h
  · rename_i a b e1 e2
    cases h
    exact ⟨a, b, e1, e2, rfl⟩
  · cases h
theorem fz_pair {F : AP1} {H : Hp} {T : Addr} {x y : V} {a b : IV} (hT : H T = none) (hx : Fz G F H x a) (hy : Fz G F H y b) : ∃ F'', Fr H F (upd H T (.tup [x, y])) F'' ∧ Fz G F'' (upd H T (.tup [x, y])) (.ref T) (.tup [a, b]) := by
  have fr : Fr H F (upd H T (.tup [x, y])) F := Fr.new hT
  refine ⟨F, fr, .tup (.inl (.inl upd_same)) (.cons (hx.mono fr.stq) (.cons (hy.mono fr.stq) .nil)) ?_⟩
  unfold big
  simp
theorem feeds_zip {F : AP1} {H : Hp} {p q : Addr} {vs us : List V} {ds es : List IV} (hs : ∀ F' H', Stq H F H' F' → SqL G.K H' p vs) (hs2 : ∀ F' H', Stq H F H' F' → SqL G.K H' q us) (a : FzA G F H vs ds) (b : FzA G F H us es) : Feeds G (Itz G.K p q) F H (List.zipWith pairI ds es) := by
  intro F' H' s
  have q1 := hs F' H' s
  have q2 := hs2 F' H' s
  refine ⟨fun i hi => ⟨vs, us, q1, q2, ?_⟩, fun i d hd => ?_⟩
  · rw [List.length_zipWith, ← a.len, ← b.len] at hi
    omega
  · obtain ⟨x, y, e1, e2, rfl⟩ := zip_get hd
    obtain ⟨v, f1, f2⟩ := (a.mono s).get e1
    obtain ⟨u, g1, g2⟩ := (b.mono s).get e2
    refine ⟨⟨vs, us, v, u, q1, q2, f1, g1⟩, fun z H'' yy => ?_⟩
    obtain ⟨T, x', y', rfl, hT, rfl, k1, k2⟩ := yy
    have := k1 vs q1
    rw [f1] at this
    cases this
    have := k2 us q2
    rw [g1] at this
    cases this
    exact fz_pair hT f2 g2
theorem feeds_zipT {F : AP1} {H : Hp} {p q : Addr} {vs us : List V} {ds es : List IV} (hs : SqT G.K H p vs) (hs2 : SqT G.K H q us) (a : FzA G F H vs ds) (b : FzA G F H us es) : Feeds G (RZ.ItzT G.K p q) F H (List.zipWith pairI ds es) := by
  intro F' H' s
  have q1 := sqT_imm s.imm hs
  have q2 := sqT_imm s.imm hs2
  refine ⟨fun i hi => ⟨vs, us, q1, q2, ?_⟩, fun i d hd => ?_⟩
  · rw [List.length_zipWith, ← a.len, ← b.len] at hi
    omega
  · obtain ⟨x, y, e1, e2, rfl⟩ := zip_get hd
    obtain ⟨v, f1, f2⟩ := (a.mono s).get e1
    obtain ⟨u, g1, g2⟩ := (b.mono s).get e2
    refine ⟨⟨vs, us, v, u, q1, q2, f1, g1⟩, fun z H'' yy => ?_⟩
    obtain ⟨T, x', y', rfl, hT, rfl, k1, k2⟩ := yy
    have := k1 vs q1
    rw [f1] at this
    cases this
    have := k2 us q2
    rw [g1] at this
    cases this
    exact fz_pair hT f2 g2
theorem q_zip {A : EA} : ∀ σ H Q, tiOf G W (iOn zipI A) σ H Q → RZ.iZipA G.K (taOf G W A) σ H Q := by
  rintro σ H Q ⟨ρ, F, fp, e, h⟩
  refine oc_bind e h fun xs ds ρ1 H1 F1 fp1 s1 e1 r1 h1 => ?_
  cases hf : zipI ds with
  | none => rw [hf] at h1; exact h1.elim
  | some l =>
    rw [hf] at h1
    unfold zipI at hf
    split at hf
    · cases hf
      cases r1 with
      | cons r2 r3 =>
        cases r3 with
        | cons r4 r5 =>
          cases r5
          cases r2 with
          | @lst p vs _ f hp a z =>
            cases r4 with
            | @lst q us _ f' hq b z' =>
              refine ⟨p, q, vs, us, rfl, .inl ⟨SqL.of hp, SqL.of hq, oc_okR h1 e1 ⟨feeds_zip (fun F2 H2 t => SqL.of (t.fkeep _ _ hp f)) (fun F2 H2 t => SqL.of (t.fkeep _ _ hq f')) a b, ?_⟩⟩⟩
              rw [List.length_zipWith, ← a.len, ← b.len]
              exact Nat.le_trans (Nat.min_le_left _ _) z
    · cases hf
      cases r1 with
      | cons r2 r3 =>
        cases r3 with
        | cons r4 r5 =>
          cases r5
          cases r2 with
          | @tup p vs _ hp a z =>
            cases r4 with
            | @tup q us _ hq b z' =>
              refine ⟨p, q, vs, us, rfl, .inr ⟨hp, hq, oc_okR h1 e1 ⟨feeds_zipT hp hq a b, ?_⟩⟩⟩
              rw [List.length_zipWith, ← a.len, ← b.len]
              exact Nat.le_trans (Nat.min_le_left _ _) z
    · cases hf
theorem i_zip (o : Ok X G W) {e e2 : Expr} {A : EA} {p pos tpos : Pos} {elts : List Expr} {kk : Nat} (hg : Gl X "zip") (hm : X.mg "zip" = none) (ha : PA X [e, e2] (taOf G W A))
    (hs : starEach [e, e2] X.env = (false, eval e X.env) :: starEach [e2] X.env := by rfl) (hpl : (backTo pos (starEach [e2] X.env)).any (·.1) = false := by rfl) :
    PI X (.Tuple elts kk tpos) (.Call (.Name "zip" p) [e, e2] [] pos) (tiOf G W (iOn zipI A)) := by
  have h := RZ.pi_zipA (elts := elts) (kk := kk) (tpos := tpos) (p := p) (pos := pos) hg hm ha hs hpl
  rw [o.K] at h
  exact PI.imp h q_zip
/-! ### enumerate -/
def enumL : Nat → List IV → List IV
  | _, [] => []
  | k, x :: xs => .tup [.int (k : Int), x] :: enumL (k + 1) xs
theorem enumL_get : ∀ (xs : List IV) (k i : Nat) (d : IV), (enumL k xs)[i]? = some d → ∃ x, xs[i]? = some x ∧ d = .tup [.int ((k + i : Nat) : Int), x]
  | [], k, i, d, h => by simp [enumL] at h
  | x :: xs, k, 0, d, h => by
    simp only [enumL, List.getElem?_cons_zero, Option.some.injEq] at h
    exact ⟨x, rfl, by rw [← h]; rfl⟩
  | x :: xs, k, i + 1, d, h => by
    simp only [enumL, List.getElem?_cons_succ] at h
    obtain ⟨y, e1, e2⟩ := enumL_get xs (k + 1) i d h
    exact ⟨y, by simpa using e1, by rw [e2]; congr 3; omega⟩
theorem enumL_len : ∀ (xs : List IV) (k : Nat), (enumL k xs).length = xs.length
  | [], _ => rfl
  | x :: xs, k => by simp only [enumL, List.length_cons, enumL_len xs (k + 1)]
def enumI : List IV → Option (List IV)
  | [.lst xs] => some (enumL 0 xs)
  | _ => none
theorem feeds_enum {F : AP1} {H : Hp} {p : Addr} {vs : List V} {ds : List IV} (hs : ∀ F' H', Stq H F H' F' → SqL G.K H' p vs) (a : FzA G F H vs ds) : Feeds G (Ite G.K p) F H (enumL 0 ds) := by
  intro F' H' s
  have q1 := hs F' H' s
  refine ⟨fun i hi => ⟨vs, q1, by rw [a.len]; rw [enumL_len] at hi; exact hi⟩, fun i d hd => ?_⟩
  obtain ⟨x, e1, rfl⟩ := enumL_get _ _ _ _ hd
  obtain ⟨v, f1, f2⟩ := (a.mono s).get e1
  refine ⟨⟨vs, v, q1, f1⟩, fun z H'' yy => ?_⟩
  obtain ⟨T, x', rfl, hT, rfl, k1⟩ := yy
  have := k1 vs q1
  rw [f1] at this
  cases this
  rw [Nat.zero_add]
  exact fz_pair hT (.int _) f2
theorem q_enum {A : EA} : ∀ σ H Q, tiOf G W (iOn enumI A) σ H Q → iEnum G.K (taOf G W A) σ H Q := by
  rintro σ H Q ⟨ρ, F, fp, e, h⟩
  refine oc_bind e h fun xs ds ρ1 H1 F1 fp1 s1 e1 r1 h1 => ?_
  cases hf : enumI ds with
  | none => rw [hf] at h1; exact h1.elim
  | some l =>
    rw [hf] at h1
    unfold enumI at hf
    split at hf
    · cases hf
      cases r1 with
      | cons r2 r3 =>
        cases r3
        cases r2 with
        | @lst p vs _ f hp a z =>
          refine ⟨p, vs, rfl, SqL.of hp, oc_okR h1 e1 ⟨feeds_enum (fun F2 H2 t => SqL.of (t.fkeep _ _ hp f)) a, ?_⟩⟩
          rw [enumL_len, ← a.len]
          exact z
    · cases hf
theorem i_enum (o : Ok X G W) {e : Expr} {A : EA} {p pos tpos : Pos} {elts : List Expr} {kk : Nat} (hg : Gl X "enumerate") (hm : X.mg "enumerate" = none) (ha : PA X [e] (taOf G W A)) (hs : starEach [e] X.env = [(false, eval e X.env)] := by rfl) :
    PI X (.Tuple elts kk tpos) (.Call (.Name "enumerate" p) [e] [] pos) (tiOf G W (iOn enumI A)) := by
  have h := pi_enum (elts := elts) (kk := kk) (tpos := tpos) (p := p) (pos := pos) hg hm ha hs
  rw [o.K] at h
  exact PI.imp h q_enum
end
end MR
set_option maxRecDepth 100000
set_option maxHeartbeats 4000000
/-! MirGd: defs whose promise wants that no repr is under way. -/
namespace MR
open PySem L2 PyProof.Rows
structure FnMG (P : Program) (w : World) (K : Frag) (mg : Str → Option Value) (base : Heap) (G : Gx) (k : Nat) (x : Str) (ks : List Bool) (fn : Fn) : Prop where
  ex : ∃ (f : Addr) (fd : FuncData) (ps : List Str), mg x = some (.ref f) ∧ PySem.W.keepIn K (.ref f) = true ∧ Binds K fd ps [] ∧ FnG P w K mg base (L2.CX P w) k f fd ps (spOf G ks fn)
section
variable {X : Cx} {G : Gx} {W : WX} {CX : CXT} {k : Nat} {f : Addr} {fd : FuncData} {ps : List Str} {sp : Sp} {E : L2.St → XK} {x : Str} {p pos : Pos} {e : Expr} {es : List Expr} {t : TA}
end
end MR
set_option maxRecDepth 100000
set_option maxHeartbeats 4000000
/-! MirLr: list(range(..)). -/
namespace MR
open PySem L2 PyProof.Rows
section
variable {X : Cx} {G : Gx} {W : WX} {pin : List Nat}
end
end MR
set_option maxRecDepth 100000
set_option maxHeartbeats 4000000
/-! MirKd: arguments that lack, their defaults. -/
namespace MR
open PySem L2 PyProof.Rows
/-- the last parameters' defaults -/
structure DfB (K : Frag) (fd : FuncData) (ps : List Str) (mz : List V) : Prop where
  ex : ∃ mv : List Value, Binds K fd ps mv ∧ Vals mz mv
theorem DfB.of {K : Frag} {fd : FuncData} {ps : List Str} {n : Nat} {mz : List V} (hps : ps.length = n + mz.length) (h : ∃ mv : List Value, KBn K fd ps n [] (fun us ws => us ++ mv ++ ws) (fun vs zs => vs ++ mz ++ zs)) : DfB K fd ps mz := by
  obtain ⟨mv, hb⟩ := h
  have hv : Vals mz mv := by
    have := hb.rel (vs := []) (us := []) (zs := []) (ws := []) .nil .nil
    simpa using this
  refine ⟨mv, fun s us kin hl => ?_, hv⟩
  have hm := hv.length
  rw [List.length_append] at hl
  have := hb.to s us [] kin (by omega) rfl
  simpa using this
section
variable {X : Cx} {G : Gx} {W : WX}
theorem m_makeMD (o : Ok X G W) {c : String} {k n : Nat} {f : Addr} {fd : FuncData} {ps : List Str} {fn : Fn} {dds : List IV} {dvs : List V} {x : Str} {e : Expr} {es : List Expr} {p pos : Pos} {A : EA} (M : MkM X.prog X.w X.K X.mg X.base G k c x n fn f fd ps) (D : DfB X.K fd ps dvs) (hdd : ∀ F H, FzA G F H dvs dds) (hr : Room (k + 1) X.A)
    (ha : PA X (e :: es) (taOf G W A)) (hA : LenA A (e :: es).length) (hn : n = (e :: es).length + dds.length := by rfl) (hps : ps.length = n + 1 := by rfl) (hg : Gl X x := by rfl) (hdb : (x == ("__debug__" : Str)) = false := by decide)
    (he : starEach (e :: es) X.env = (false, eval e X.env) :: starEach es X.env := by rfl) (hpl : (backTo pos (starEach es X.env)).any (·.1) = false := by rfl) : PE X (.Call (.Name x p) (e :: es) [] pos) (teOf G W (iMake c fn dds A)) := by
  obtain ⟨mv, hb, hv⟩ := D.ex
  exact m_make o c M.mkr M.ok hr hg M.gl hb hv hdd hn hps ha hA.len hdb he hpl
end
end MR
set_option maxRecDepth 100000
set_option maxHeartbeats 4000000
/-! MirDw: [d[k] for k in d], d a frozen dict in a slot. -/
namespace MR
open PySem L2 PyProof.Rows
section
variable {X : Cx} {G : Gx} {W : WX} {σ : L2.St} {H : Hp} {F : AP1} {fp : FPt} {ρ : Env}
theorem FzP.at_ : ∀ {vs : List (Key × V)} {ds : List (Key × IV)} {i : Nat} {k : Key} {v : V}, FzP G F H vs ds → vs[i]? = some (k, v) → ∃ d, ds[i]? = some (k, d)
  | _, _, _, _, _, .nil, e => by simp at e
  | _, _, 0, _, _, .cons h t, e => by
    simp only [List.getElem?_cons_zero, Option.some.injEq, Prod.mk.injEq] at e
    obtain ⟨rfl, _⟩ := e
    exact ⟨_, rfl⟩
  | _, _, i + 1, _, _, .cons h t, e => by
    obtain ⟨d, h2⟩ := FzP.at_ (i := i) t (by simpa using e)
    exact ⟨d, by simpa using h2⟩
end
end MR
set_option maxRecDepth 100000
set_option maxHeartbeats 4000000
/-! MirSg: few tuples of any kind, ascending (for sets that are made to be sorted). -/
namespace MR
open PySem L2 PyProof.Rows NSet
def kdG (d : IV) : PyData := match kOf d with
  | some k => k.data
  | none => .none
/-- how many of ds are below k -/
def rkG (ds : List IV) (k : NestedKey) : Nat := (ds.filter fun d => PySem.W.dataLt (kdG d) k.data).length
def rdG (ds : List IV) (d : IV) : Nat := match kOf d with
  | some k => rkG ds k
  | none => 0
structure OkG (ds : List IV) : Prop where
  few : ds.length < 60
  tup : ∀ d ∈ ds, ∃ ks, kOf d = some (.tup ks) ∧ (NestedKey.tup ks).depth ≤ 8 ∧ (NestedKey.tup ks).data.depth ≤ 10
  cmp : ∀ a ∈ ds, ∀ b ∈ ds, PySem.W.alike (kdG a) (kdG b) = true ∧ PySem.W.dataLt (kdG a) (kdG b) = decide (rdG ds a < rdG ds b) ∧ (rdG ds a = rdG ds b → a = b)
section
variable {G : Gx}
end
end MR
set_option maxRecDepth 100000
set_option maxHeartbeats 4000000
/-! MirSh: sorted(set(xs)) of few tuples of any kind. -/
namespace MR
open PySem L2 PyProof.Rows NSet
section
variable {X : Cx} {G : Gx} {W : WX}
/-! ### set(xs) -/
end
end MR
set_option maxRecDepth 100000
set_option maxHeartbeats 4000000
/-! MirDf: a call that leaves the last arguments to their defaults. -/
namespace MR
open PySem L2 PyProof.Rows
theorem RAs.app {G : Gx} {σ : L2.St} {F : AP1} {H : Hp} {dvs : List V} {dl : List IV} (d : FzA G F H dvs dl) : ∀ {vs : List V} {as : List Av}, RAs G σ F H vs as → RAs G σ F H (vs ++ dvs) (as ++ dl.map .v)
  | _, _, .cons a b => .cons a (RAs.app d b)
  | _, _, .nil => go d
where go {G : Gx} {σ : L2.St} {F : AP1} {H : Hp} : ∀ {dvs : List V} {dl : List IV}, FzA G F H dvs dl → RAs G σ F H dvs (dl.map .v)
  | _, _, .nil => .nil
  | _, _, .cons a b => .cons a (go b)
section
variable {P : Program} {w : World} {K : Frag} {mg : Str → Option Value} {base : Heap}
structure FnMD (P : Program) (w : World) (K : Frag) (mg : Str → Option Value) (base : Heap) (G : Gx) (k : Nat) (x : Str) (ks : List Bool) (dl : List IV) (fn : Fn) : Prop where
  ex : ∃ (f : Addr) (fd : FuncData) (ps : List Str) (dvs : List V) (ds : List Value), mg x = some (.ref f) ∧ PySem.W.keepIn K (.ref f) = true ∧ Binds K fd ps ds ∧ Vals dvs ds ∧ (∀ F H, FzA G F H dvs dl) ∧ FnOk P w K mg base (L2.CX P w) k f fd ps (spOf G ks fn)
theorem FnMD.mono {G : Gx} {k j : Nat} {x : Str} {ks : List Bool} {dl : List IV} {m : Fn} (h : FnMD P w K mg base G k x ks dl m) (e : k ≤ j) : FnMD P w K mg base G j x ks dl m := by
  obtain ⟨f, fd, ps, dvs, ds, h1, h2, h3, h4, h5, h6⟩ := h
  exact ⟨f, fd, ps, dvs, ds, h1, h2, h3, h4, h5, h6.mono e⟩
end
section
variable {X : Cx} {G : Gx} {W : WX}
end
end MR
set_option maxRecDepth 100000
set_option maxHeartbeats 4000000
/-! MirSl: sorted(xs) of a list of few tuples; len(set(xs)). -/
namespace MR
open PySem L2 PyProof.Rows NSet
/-! ### the rules -/
section
variable {X : Cx}
end
/-! ### sorted(xs), xs a list of tuples; equal ones stay -/
section
variable {X : Cx} {G : Gx} {W : WX}
/-! ### len(set(xs)) -/
end
end MR
set_option maxRecDepth 100000
set_option maxHeartbeats 4000000
/-! MirIs: x is True, x is not False. -/
namespace MR
open PySem L2 PyProof.Rows
section
variable {X : Cx}
end
def isB (d : Bool) : IV → Bool
  | .bl b => b == d
  | _ => false
section
variable {X : Cx} {G : Gx} {W : WX}
theorem Fz.isB {F : AP1} {H : Hp} {v : V} {x : IV} (d : Bool) (h : Fz G F H v x) : decide (v = .bl d) = MR.isB d x := by
  cases h with
  | bl b => cases b <;> cases d <;> rfl
  | _ => rfl
end
end MR
set_option maxRecDepth 100000
set_option maxHeartbeats 4000000
/-! MirLd: an own list of own dicts: [dict(x) for x in xs], xs[i][k] = v; it is frozen where it is given up. -/
namespace MR
open PySem L2 PyProof.Rows
section
variable {X : Cx} {G : Gx} {W : WX} {σ : L2.St} {H : Hp} {F : AP1} {fp : FPt} {ρ : Env}
theorem DsAt.len : ∀ {ps : List Addr} {ds : List IV}, DsAt G F H ps ds → ps.length = ds.length
  | _, _, .nil => rfl
  | _, _, .cons _ _ _ t => by rw [List.length_cons, List.length_cons, t.len]
/-! ### dict(x) -/
/-! ### [dict(x) for x in xs] -/
def lcdLoop (t : TM) (el : E) (own : List Nat) : List IV → Env → Rz (List IV)
  | [], ρ => .ok [] ρ
  | d :: ds, ρ => match t d (wipeE ρ own) with
    | none => .no
    | some ρa => match el ρa with
      | .ok (.dic ks) ρc => (lcdLoop t el own ds (restE ρ ρc own)).bind fun ys ρ' => .ok (.dic ks :: ys) ρ'
      | _ => .no
theorem DsAt.snoc {p : Addr} {vs : List (Key × V)} {ks : List (Key × IV)} (h : H p = some (.dK vs)) (a : FzP G F H vs ks) (z : vs.length ≤ big) : ∀ {ps : List Addr} {ds : List IV}, DsAt G F H ps ds → DsAt G F H (ps ++ [p]) (ds ++ [.dic ks])
  | _, _, .nil => .cons h a z .nil
  | _, _, .cons h' a' z' t => .cons h' a' z' (DsAt.snoc h a z t)
theorem DsAt.dk : ∀ {ps : List Addr} {ds : List IV}, DsAt G F H ps ds → ∀ p ∈ ps, ∃ vs, H p = some (.dK vs)
  | _, _, .nil, p, h => by cases h
  | _, _, .cons h _ _ t, p, hp => by
    rcases List.mem_cons.mp hp with e | e
    · rw [e]; exact ⟨_, h⟩
    · exact t.dk p e
/-- apart: there, not frozen, of no slot -/
structure Apart (F : AP1) (H : Hp) (P : AP1) (a : Addr) : Prop where
  nf : ¬ F a
  np : ¬ P a
theorem Apart.stp {F F' : AP1} {H H' : Hp} {P P' : AP1} {a : Addr} {o : HO} (w : Apart F H P a) (h : H a = some o) (s : Stp H F P H' F' P') : Apart F' H' P' a ∧ H' a = some o := by
  refine ⟨⟨fun f => ?_, fun f => ?_⟩, s.keep _ _ h w.np⟩
  · rcases s.fnew a f with g | g | g
    · exact w.nf g
    · exact w.np g
    · rw [h] at g; cases g
  · rcases s.pnew a f with g | g
    · exact w.np g
    · rw [h] at g; cases g
structure LdW (G : Gx) (W : WX) (σ : L2.St) (H1 : Hp) (F1 : AP1) (fp1 : FPt) (ds : List IV) (t : TM) (el : E) (own : List Nat) (Q : VK) (D : Addr) (i : Nat) (H : Hp) (ρ : Env) (F : AP1) (fp : FPt) (ps : List Addr) (xs : List IV) : Prop where
  stp : Stp H1 F1 (un fp1) H F (un fp)
  env : EnvR G F H σ ρ fp
  at_ : H D = some (.lst (ps.map V.ref))
  ad : Apart F H (un fp) D
  dsa : DsAt G F H ps xs
  nd : ps.Nodup
  nD : D ∉ ps
  ap : ∀ p ∈ ps, Apart F H (un fp) p
  old : ∀ p ∈ ps, H1 p = none
  len : ps.length ≤ i
  rest : OcO G W σ H1 F1 fp1 ((lcdLoop t el own (ds.drop i) ρ).bind fun ys ρ' => .ok (.lds (xs ++ ys)) ρ') Q
end
end MR
set_option maxRecDepth 100000
set_option maxHeartbeats 4000000
/-! MirLe: xs[i][k] = v and xs[i][k] of an own list of own dicts. -/
namespace MR
open PySem L2 PyProof.Rows
section
variable {X : Cx} {G : Gx} {W : WX} {pin : List Nat}
def kC (d : IV) : Env → Option IV := fun _ => some d
def kV (j : Nat) : Env → Option IV := fun ρ => match ρ[j]? with
  | some (.fz d) => some d
  | _ => none
theorem DsAt.get {F : AP1} {H : Hp} : ∀ {ps : List Addr} {ds : List IV} {j : Nat} {d : IV}, DsAt G F H ps ds → ds[j]? = some d → ∃ p vs ks, ps[j]? = some p ∧ d = .dic ks ∧ H p = some (.dK vs) ∧ FzP G F H vs ks ∧ vs.length ≤ big
  | _, _, j, _, .nil, h => by simp at h
  | _, _, 0, _, .cons h a z t, e => by
    simp only [List.getElem?_cons_zero, Option.some.injEq] at e
    exact ⟨_, _, _, rfl, e.symm, h, a, z⟩
  | _, _, j + 1, _, .cons h a z t, e => by
    simp only [List.getElem?_cons_succ] at e ⊢
    exact t.get e
theorem DsAt.put {F : AP1} {H : Hp} {pj : Addr} {vs' : List (Key × V)} {ks' : List (Key × IV)} (q : Stq H F (L2.upd H pj (.dK vs')) F) (a' : FzP G F (L2.upd H pj (.dK vs')) vs' ks') (z' : vs'.length ≤ big) : ∀ {ps : List Addr} {ds : List IV} {j : Nat}, DsAt G F H ps ds → ps.Nodup → ps[j]? = some pj → DsAt G F (L2.upd H pj (.dK vs')) ps (ds.set j (.dic ks'))
  | _, _, j, .nil, _, h => by simp at h
  | p :: ps, .dic _ :: ds, 0, .cons h a z t, nd, e => by
    simp only [List.getElem?_cons_zero, Option.some.injEq] at e
    subst e
    obtain ⟨n1, n2⟩ := List.nodup_cons.mp nd
    exact .cons upd_same a' z' (t.mono q fun x hx o ho => by rw [upd_ne fun z => n1 (by rw [← z]; exact hx)]; exact ho)
  | p :: ps, .dic _ :: ds, j + 1, .cons h a z t, nd, e => by
    simp only [List.getElem?_cons_succ] at e
    obtain ⟨n1, n2⟩ := List.nodup_cons.mp nd
    have hne : p ≠ pj := fun z => n1 (by rw [z]; exact List.mem_of_getElem? e)
    exact .cons (by rw [upd_ne hne]; exact h) (a.mono q) z (t.put q a' z' n2 e)
/-! ### xs[i][k] -/
/-! ### sorted(xs): whole numbers, or tuples -/
end
end MR
set_option maxRecDepth 100000
/-! SetTu: set(xs), xs a tuple of nested tuples -/
namespace NSet
open PySem PySem.Spec PyProof.Rows L2 PySem.SeqAt PySem.W
section
variable {P : Program} {w : World} {A : Around} {E : Value → Shared → Prop} {s : Shared}
variable {a : Addr} {L : List Row} {es : Array (Int × Value)} {ep : Nat} {t : SetTable} {C : List NestedKey}
set_option maxHeartbeats 3200000 in
end
section
variable {X : Cx} {pins : List (Addr × Obj)} {σ : L2.St} {H : Hp}
end
end NSet
set_option maxRecDepth 100000
set_option maxHeartbeats 4000000
/-! MirLf: set(xs) of a tuple of outcomes; a, b = a list. -/
namespace MR
open PySem L2 PyProof.Rows NSet
section
variable {X : Cx} {G : Gx} {W : WX}
/-! ### a, b = a list -/
end
end MR
set_option maxRecDepth 100000
set_option maxHeartbeats 4000000
/-! MirEr: errors that are raised, caught and kept as values. -/
namespace MR
open PySem PySem.Spec PyProof.Rows L2
section
variable {X : Cx} {pins : List (Addr × Obj)} {σ : L2.St} {H : Hp} {s : Shared}
/-- a pinned error is tracked from now on -/
theorem inv_track {a : Addr} {oe : Obj} {vs : Array Value} {cls : Value} {d : Option Addr} (I : Inv X ((a, oe) :: pins) σ H s) (n0 : X.s_0.heap.get? a = none) (hz : Zc cls d oe) (hd : oe.data = .fields vs) (np : ∀ p ∈ X.pn ++ pins, p.1 ≠ a) :
    Inv X pins σ (upd H a (ErrO a cls d)) s := by
  obtain ⟨ha, hn, hl, hfs, hcl⟩ := I.pin (a, oe) (List.mem_append_right _ List.mem_cons_self)
  have ha' : s.heap.get? a = some oe := ha
  have hn' : H a = none := hn
  refine ⟨I.ok, I.os, I.bare, ⟨I.base.keep, I.base.slot, fun b ob q n hx => ?_, I.base.there, fun b xs e => ?_, fun b ob u e => ?_, fun b ps e => ?_⟩, I.loc, I.cell, ?_, fun x c e => ?_, fun p hp => ?_, fun b u e => ?_, I.len⟩
  · rw [upd_ne (fun z => by rw [z, n0] at q; cases q)]
    exact I.base.free b ob q n hx
  · have q := I.base.tups b xs e
    rw [upd_ne (ne_of_none q hn')]
    exact q
  · have q := I.base.frzs b ob u e
    rw [upd_ne (ne_of_none q hn')]
    exact q
  · obtain ⟨more, q⟩ := I.base.tbls b ps e
    exact ⟨more, by rw [upd_ne (ne_of_none q hn')]; exact q⟩
  · rw [upd_ne (fun z => hl z.symm)]
    exact I.free
  · obtain ⟨w, ob, hob, hdc⟩ := I.cell x c e
    rw [upd_ne (fun z => by rw [z, ha'] at hob; cases hob; exact hcl w hdc)]
    exact I.freeC x c e
  · obtain ⟨q1, q2, q3⟩ := I.pin p (by
      rcases List.mem_append.mp hp with z | z
      · exact List.mem_append_left _ z
      · exact List.mem_append_right _ (List.mem_cons_of_mem _ z))
    exact ⟨q1, by rw [upd_ne (np p hp)]; exact q2, q3⟩
  · by_cases hb : b = a
    · subst hb
      rw [upd_same] at e
      cases e
      exact ⟨⟨oe, vs, ha', hz, hd⟩, ⟨oe, ha'⟩, fun _ _ ⟨o, v, q, r⟩ k => ⟨o, v, k o q, r⟩⟩
    · rw [upd_ne hb] at e
      exact (I.hok b u e).stay (fun _ _ _ q => q) (fun c q => by rw [upd_ne (ne_of_none q hn')]; exact q) fun c xs q => by rw [upd_ne (ne_of_none q hn')]; exact q
/-- what 'except x as n: m = n' wishes; slots i: n, j: m -/
def wKeep (K : Frag) (c : Value) (i j : Nat) (Wout : WX) (D : Ends) : WX := fun cls d σ H =>
  ∃ b, PySem.W.exmOne K cls c = some b ∧ (b = true → ∀ a, H a = none → D.nx (((σ.set i (some (.ref a))).set j (some (.ref a))).set i none) (upd H a (ErrO a cls d))) ∧ (b = false → Wout cls d σ H)
theorem ps_try_keep {x n m : Str} {c : Value} {i j : Nat} {body : List Stmt} {ep pos pos' q1 q2 q3 : Pos} {tb : WX → TS} {Wout : WX} (hs : X.stack = X.env :: X.outer) (hf : X.env.frame = some X.env.locals) (hex : X.ex = []) (hN : X.N.Nodup)
    (hi : X.N[i]? = some n) (hln : X.env.kindOf n = some .local) (hlt : i < X.N.length) (hj : X.N[j]? = some m) (hlm : X.env.scope.names.lookup m = some .local) (hln2 : X.env.scope.names.lookup n = some .local) (hc : Names X x c) (tk : Takes X Wout)
    (hdn : (n == ("__debug__" : Str)) = false) (hcn : (n == ("__classdict__" : Str)) = false)
    (hb : ∀ (W : WX) (pn : List (Addr × Obj)) (xe : Value → Shared → Prop), Takes (X.tr pn xe) W → PassesOwn (model X.prog X.w) X.A X.env xe → PSs (X.tr pn xe) body (tb W)) :
    PS X (.Try body [.ExceptHandler (some (.Name x ep)) (some n) [.Assign [.Name m q1] (.Name n q2) q3] pos'] [] [] pos) (fun D σ H => tb (wKeep X.K c i j Wout D) D σ H) := by
  refine ⟨fun pins s σ H D In h => ?_⟩
  have ok := In.ok
  have frA : X.A.frames = some (X.env :: X.outer) := by rw [ok.frames, hs]
  have locn : Loc X.env.scope n := .inl hln
  refine wpAny_Try_except ?_
  have hbody := hb (wKeep X.K c i j Wout D) (X.pn ++ pins) (fun e s1 => wpAny (model X.prog X.w) X.A (noteFrame e X.env) (fun _ s2 => wpAny (model X.prog X.w) X.A (setFlight e none) (fun _ s3 =>
    wpAny (model X.prog X.w) X.A (handleBy e X.env [.ExceptHandler (some (.Name x ep)) (some n) [.Assign [.Name m q1] (.Name n q2) q3] pos']) (SP X pins D) X.xe s3) X.xe s2) X.xe s1) (fun u s' xx => ?_) PassesOwn.looking
  · refine wpAny_mono (hbody.run [] s σ H D (In.toTry _) h) (fun f s1 hsp => ?_) (fun e s1 he => he)
    cases f with
    | next => let ⟨σ', H', Jt, q⟩ := hsp; exact wpAny_execs_nil ⟨σ', H', Jt.ofTry ok, q⟩
    | brk => let ⟨σ', H', Jt, q⟩ := hsp; exact ⟨σ', H', Jt.ofTry ok, q⟩
    | cont => let ⟨σ', H', Jt, q⟩ := hsp; exact ⟨σ', H', Jt.ofTry ok, q⟩
    | ret u => let ⟨v, σ', H', Jt, r, q⟩ := hsp; exact ⟨v, σ', H', Jt.ofTry ok, r, q⟩
  · obtain ⟨a, B, sI, pins', σ', H', cls, d, rfl, Jt, nb, up, sky, na, os, ag, b, hb1, hyes, hno⟩ := xx
    have J : Inv X pins σ' H' sI := Jt.ofTry ok
    have skyL : Sky B (X.env :: X.outer) a (Zc cls d) X.env.locals s'.heap := by rw [← hs]; exact sky
    show wpAny (model X.prog X.w) X.A (noteFrame (.ref a) X.env) _ _ _
    refine Sky.land Zc.steady frA hf skyL fun hpa fla upa => ?_
    have Ja : Inv X pins σ' H' { s' with heap := hpa } := J.landed nb fla.1 (up.trans upa) os ag
    obtain ⟨oa, va, hea, hza, hda⟩ := fla.there
    have notF : a ∉ frs (X.env :: X.outer) := fun hm => by
      obtain ⟨_, o', e', hnf⟩ := fla.2.2.1.mem hm
      rw [hea] at e'
      cases e'
      exact hnf _ hda
    have neL : a ≠ X.env.locals := fun z => notF (List.mem_filterMap.mpr ⟨X.env, List.mem_cons_self, by rw [hf, z]⟩)
    have neF : a ∉ X.fs := fun hm => by
      obtain ⟨e, he, q⟩ := List.mem_filterMap.mp hm
      exact notF (List.mem_filterMap.mpr ⟨e, List.mem_cons_of_mem _ he, q⟩)
    have nI : sI.heap.get? a = none := by
      cases q : sI.heap.get? a with
      | none => rfl
      | some o =>
        have z := nb a o q (by rw [hs]; exact notF)
        rw [fla.2.1] at z
        cases z
    have n0 : X.s_0.heap.get? a = none := by
      cases q : X.s_0.heap.get? a with
      | none => rfl
      | some o =>
        obtain ⟨o', z⟩ := J.base.there a o q (by rw [hex]; exact fun z => nomatch z)
        rw [nI] at z
        cases z
    have np : ∀ p ∈ X.pn ++ pins, p.1 ≠ a := fun p hp z => by
      have q := (J.pin p hp).1
      rw [z, nI] at q
      cases q
    have Sa := Ja.suite hea hda na neL neF
    refine wpAny_handleBy_cons (codeAny_handlers_test ?_) (by intro q; cases q)
    have lookT : PySem.W.Looks (model X.prog X.w) hpa (typeOf (.ref a)) cls := fun A Q E s k q => wpAny_typeOf_ref (k _ _ hea) (by rw [hza.1]; exact q)
    have lookM := PySem.W.exm_one (M := model X.prog X.w) (Ja.kIn) lookT hb1
    have asked : ∀ {Q : Value → Shared → Prop} {E : Value → Shared → Prop}, Q c { s' with heap := hpa } → wpAny (model X.prog X.w) (X.A.mark (some (.ref a))) (eval (.Name x ep) X.env) Q E { s' with heap := hpa } := fun {Q E} q => by
      obtain ⟨hg, hdB, hm | ⟨hm, hv, hnn⟩⟩ := hc
      · exact ld_glob (X := X.suite a ((a, oa) :: (X.pn ++ pins))) Sa hg hm q hdB
      · exact ld_blt (X := X.suite a ((a, oa) :: (X.pn ++ pins))) Sa hg hm hv q hnn hdB
    refine asked (lookM.here ?_)
    cases b with
    | true =>
      refine codeAny_handlers_suite_as ?_
      refine HandSPX.lands_againZ fla fun hpb flb upb => ?_
      have Jb : Inv X pins σ' H' { s' with heap := hpb } := J.landed nb flb.1 ((up.trans upa).trans upb) os ag
      obtain ⟨oc, vb, heb, hzb, hdb4⟩ := flb.there
      have Sb := Jb.suite heb hdb4 na neL neF
      refine store_ok (X := X.suite a ((a, oc) :: (X.pn ++ pins))) (v := .ref a) Sb hN hi locn rfl (fun s5 Sc => ?_) (.inr hln)
      have hset : PSs (X.suite a ((a, oc) :: (X.pn ++ pins))) [.Assign [.Name m q1] (.Name n q2) q3] (tAsg (tVar i) (gName j)) :=
        pss_one (ps_set hN hj (.inl hlm) (pe_var hi (.inl hln2) hdn hcn) rfl (.inr hlm))
      have hl5 : i < σ'.length := by rw [J.len]; exact hlt
      refine wpAny_mono (hset.run [] s5 _ H' { nx := fun σ6 H6 => σ6 = (σ'.set i (some (.ref a))).set j (some (.ref a)) ∧ H6 = H', rt := fun _ _ => False, bk := fun _ _ => False, ct := fun _ _ => False } Sc ⟨.ref a, by rw [List.getElem?_set_self hl5], rfl, rfl⟩) (fun f s6 hsp => ?_) (fun _ _ z => False.elim z)
      cases f with
      | next =>
        obtain ⟨σ6, H6, Sd, e6, eH⟩ := hsp
        subst e6 eH
        have T6 : Inv X ((a, oc) :: pins) ((σ'.set i (some (.ref a))).set j (some (.ref a))) H6 s6 := by
          refine ⟨ok, Sd.os, Sd.bare, Sd.base, Sd.loc, Sd.cell, Sd.free, Sd.freeC, fun p hp => Sd.pin p ?_, Sd.hok, Sd.len⟩
          show p ∈ ((a, oc) :: (X.pn ++ pins)) ++ []
          rw [List.append_nil]
          rcases List.mem_append.mp hp with z | z
          · exact List.mem_cons_of_mem _ (List.mem_append_left _ z)
          · rcases List.mem_cons.mp z with z | z
            · rw [z]; exact List.mem_cons_self
            · exact List.mem_cons_of_mem _ (List.mem_append_right _ z)
        refine gone_ok T6 hN hi hln fun s7 Je => ?_
        exact ⟨_, _, inv_track Je n0 hzb hdb4 np, hyes rfl a na⟩
      | brk => let ⟨_, _, _, q⟩ := hsp; exact q.elim
      | cont => let ⟨_, _, _, q⟩ := hsp; exact q.elim
      | ret u => let ⟨_, _, _, _, _, q⟩ := hsp; exact q.elim
    | false =>
      show wpAny _ X.A (handleBy (.ref a) X.env []) _ _ _
      refine wpAny_handleBy_nil ?_
      obtain ⟨k1, k2, k3, oe, vs, T, oT, ts', he, hz, hd, h1, hr⟩ := id fla
      unfold PySem.passOn
      refine wpAny_bind (wpAny_field he hd h1 ?_)
      rw [if_neg (show ¬ ((Value.ref T == Value.none) = true) from by simp)]
      have fin : wpAny (model X.prog X.w) X.A (setFlight (.ref a) X.env.frame) (fun _ s4 => wpAny (model X.prog X.w) X.A (throw (.ref a) : Sem Flow) (SP X pins D) X.xe s4) X.xe { s' with heap := hpa } := by
        rw [hf]
        refine HandSPX.setFlight_upZ fla fun hpb hh4 upb => wpAny_throw (tk _ _ ?_)
        exact ⟨a, B, sI, pins, σ', H', cls, d, rfl, J, nb, (up.trans upa).trans upb, .inr (.inr (by rw [hs]; exact hh4)), na, os, ag, hno rfl⟩
      first
        | exact wpAny_bind (wpAny_pure (wpAny_bind fin))
        | exact wpAny_bind fin
end
end MR
set_option maxRecDepth 100000
set_option maxHeartbeats 4000000
/-! MirLam: a lambda without parameters, handed to a def that tries it. -/
namespace MR
open PySem PySem.Spec PyProof.Rows L2
/-! ### a lambda's acts, wherever it is called -/
/-- q: the lambda's qualified name -/
def Acts (P : Program) (w : World) (K : Frag) (mg : Str → Option Value) (base : Heap) (fs0 : List Addr) (s0 : Shared) (H0 : Hp) (f c' : Addr) (q : Str) (k : Nat) (tl : XK → Hp → VK → Prop) : Prop :=
  ∀ (A : Around) (outer : List PySem.Env) (s1 : Shared) (H1 : Hp) (Q : VK) (E : XK), Room k A → Env0 P w K mg base A outer s1 H1 → Un fs0 [] H0 H1 s0.heap s1.heap → H1 c' = some (LamX.CodeO c' q) → tl E H1 Q →
    codeAny (model P w) A (.call (.ref f) ⟨[], []⟩) (CR (L2.CX P w) outer P w H1 s1 Q E) s1
/-- .. and its object -/
structure LamAt (P : Program) (w : World) (K : Frag) (mg : Str → Option Value) (base : Heap) (fs0 : List Addr) (s0 : Shared) (H0 : Hp) (f c' : Addr) (q : Str) (k : Nat) (tl : XK → Hp → VK → Prop) : Prop where
  obj : ∃ (params : Arguments) (body : Expr) (scope : Scope) (cl : List (Str × Addr)) (pm ctv : Value), ∀ (H : Hp) (h : Heap), Un fs0 [] H0 H s0.heap h → HOk P w H h → h.get? f = some (PySem.W.kla_obj "<lambda>" q params body scope cl pm c' ctv)
  acts : Acts P w K mg base fs0 s0 H0 f c' q k tl
  mono : ∀ (E E' : XK) (H : Hp) (Q Q' : VK), (∀ c d H1, E c d H1 → E' c d H1) → (∀ v H1, Q v H1 → Q' v H1) → tl E H Q → tl E' H Q'
theorem un_comp {fs0 fs1 : List Addr} {H0 H H1 : Hp} {h0 h h1 : Heap} (a : Un fs0 [] H0 H h0 h) (b : Un fs1 [] H H1 h h1) (hf : ∀ x ∈ fs1, x ∈ fs0 ∨ h0.get? x = none) : Un fs0 [] H0 H1 h0 h1 := by
  have out : ∀ (c : Addr) (o : Obj), h0.get? c = some o → c ∉ fs0 → c ∉ fs1 := fun c o e n m => (hf c m).elim n fun z => by rw [e] at z; cases z
  refine ⟨fun c o e n hc hx => b.keep c o (a.keep c o e n hc hx) (a.free c o e n hx) (out c o e hc) hx, fun c o e n hc hx => ?_, fun c o e n hx => ?_, fun c o e hx => ?_, fun c xs e => b.tups c xs (a.tups c xs e), fun c o xs e => b.frzs c o xs (a.frzs c o xs e), fun c ps e => ?_⟩
  · obtain ⟨sl, e1⟩ := a.slot c o e n hc hx
    obtain ⟨sl2, e2⟩ := b.any e1 (a.free c o e n hx) hx
    exact ⟨sl2, e2⟩
  · obtain ⟨o', e1⟩ := a.there c o e hx
    exact b.free c o' e1 (a.free c o e n hx) hx
  · obtain ⟨o', e1⟩ := a.there c o e hx
    exact b.there c o' e1 hx
  · obtain ⟨m1, e1⟩ := a.tbls c ps e
    obtain ⟨m2, e2⟩ := b.tbls c _ e1
    exact ⟨m1 ++ m2, by rw [e2, Array.append_assoc]⟩
theorem acts_of {X : Cx} {pins : List (Addr × Obj)} {σ : L2.St} {H : Hp} {s : Shared} {f c' : Addr} {pm ctv : Value} {params : Arguments} {body : Expr} {scope : Scope} {k : Nat} {t : XK → TE} (I : Inv X pins σ H s) (L : LamX.LamS X.env.scope scope)
    (hf : ∀ (H' : Hp) (h' : Heap), Un (frs X.stack) [] H H' s.heap h' → HOk X.prog X.w H' h' → h'.get? f = some (PySem.W.kla_obj "<lambda>" (X.env.qual ++ "<lambda>") params body scope (cloFrom X.env.cells scope.names []) pm c' ctv))
    (hbind : bindArgs (PySem.W.kla_fn "<lambda>" (X.env.qual ++ "<lambda>") params body scope (cloFrom X.env.cells scope.names []) pm (.ref c') ctv) ⟨[], []⟩ = pure [])
    (hbody : ∀ (A : Around) (outer : List PySem.Env) (s1 : Shared) (H1 : Hp) (E : XK), Room k (A.deeper (LamX.lamEnv X scope s1.heap.objs.size f c')) → PE (LamX.lamCx X A outer s1 H1 E scope f c') body (t E))
    (hmono : ∀ (E E' : XK) (H : Hp) (Q Q' : VK), (∀ c d H1, E c d H1 → E' c d H1) → (∀ v H1, Q v H1 → Q' v H1) → t E σ H Q → t E' σ H Q') :
    LamAt X.prog X.w X.K X.mg X.base (frs X.stack) s H f c' (X.env.qual ++ "<lambda>") (k + 1) (fun E H' Q => t E σ H' Q) := by
  refine ⟨⟨_, _, _, _, _, _, hf⟩, fun A outer s1 H1 Q E hr e0 un hc ht => ?_, hmono⟩
  have of1 := hf _ _ un e0.hok
  obtain ⟨⟨oc, vs, t', hoc, hdc, hvc⟩, _, _⟩ := e0.hok c' _ hc
  refine PySem.W.kla_callFunE hr.depth of1 rfl L.co L.gen rfl ⟨c', oc, vs, t', rfl, hoc, hdc, hvc⟩ ?_
  rw [hbind]
  have lim : s1.heap.NoLimit := e0.mod.nolimit.keeps fun b o e => (e0.bs b o e).1
  refine wpAny_pure (wpAny_newFunctionEnv (fun y hy => (L.own y hy).2) (fun y hy => absurd hy (by simp)) (fun h2 hns hsb => ⟨lim.fresh _ hsb, ?_⟩) L.kind)
  have kp : ∀ b o, s1.heap.get? b = some o → h2.get? b = some o := fun b o e => hsb.extBut b o (Nat.ne_of_lt (Heap.lt_size e)) (Heap.get?_push_of_some _ e)
  have J : Inv (LamX.lamCx X A outer s1 H1 E scope f c') [] σ H1 { s1 with heap := h2, toks := s1.toks + ([] : List (Str × Value)).length } := LamX.lam_start2 I L e0 hr.hd un hns kp
  show codeAny _ _ (.expr body (LamX.lamEnv X scope s1.heap.objs.size f c')) _ _
  refine PySem.W.kla_codeExpr (wpAny_mono ((hbody _ _ s1 H1 E (hr.deeper _)).run [] _ _ H1 Q J ht) (fun v s' hq => ?_) fun e s' hq => hq)
  obtain ⟨w', H', J', rv, q⟩ := hq
  exact ⟨w', H', J'.os, J'.bare, J'.base, J'.hok, rv, q⟩
/-! ### the def that tries what it gets -/
/-- what is wished of a lambda that is tried: nothing caught gives None -/
def tCat (K : Frag) (CS : Value) (tl : XK → Hp → VK → Prop) (E : XK) : Hp → VK → Prop := fun H Q =>
  tl (fun cls d H' => ∃ b, PySem.W.exmOne K cls CS = some b ∧ (b = true → ∀ a, H' a = none → Q (.ref a) (upd H' a (ErrO a cls d))) ∧ (b = false → E cls d H')) H (fun _ H' => Q .non H')
/-- .. and what a def makes of the error or None -/
def tWrk (G : Gx) (CS : Value) (fw : IV → Option IV) (tl : XK → Hp → VK → Prop) (E : XK) : Hp → VK → Prop := fun H Q =>
  tCat G.K CS tl E H fun v H1 => ∃ F1 d d', (∀ a, F1 a → H1 a ≠ none) ∧ Fz G F1 H1 v d ∧ fw d = some d' ∧ ∀ v' H' F', Fr H1 F1 H' F' → Fz G F' H' v' d' → Q v' H'
def WrkOk (P : Program) (w : World) (K : Frag) (mg : Str → Option Value) (base : Heap) (G : Gx) (CS : Value) (k : Nat) (g : Addr) (fd : FuncData) (ps : List Str) (fw : IV → Option IV) : Prop :=
  ∀ (fs0 : List Addr) (s0 : Shared) (H0 : Hp) (f c' : Addr) (q : Str) (kL : Nat) (tl : XK → Hp → VK → Prop) (A : Around) (outer : List PySem.Env) (s : Shared) (H : Hp) (Q : VK) (E : XK) (args : Args),
    LamAt P w K mg base fs0 s0 H0 f c' q kL tl → Room (kL + k) A → Env0 P w K mg base A outer s H → Un fs0 [] H0 H s0.heap s.heap → (∀ b ∈ frs outer, b ∈ fs0 ∨ s0.heap.get? b = none) → H c' = some (LamX.CodeO c' q) →
    BindsTo s fd args (ps.zip [.ref f]) → tWrk G CS fw tl E H Q → codeAny (model P w) A (.call (.ref g) args) (CR (L2.CX P w) outer P w H s Q E) s
structure WrkM (P : Program) (w : World) (K : Frag) (mg : Str → Option Value) (base : Heap) (G : Gx) (CS : Value) (k : Nat) (x : Str) (fw : IV → Option IV) : Prop where
  ex : ∃ (f : Addr) (fd : FuncData) (ps : List Str), mg x = some (.ref f) ∧ PySem.W.keepIn K (.ref f) = true ∧ Binds K fd ps [] ∧ ps.length = 1 ∧ WrkOk P w K mg base G CS k f fd ps fw
/-- work(), in the try of the def that got it -/
theorem pe_tried {P : Program} {w : World} {K : Frag} {mg : Str → Option Value} {base : Heap} {fs0 : List Addr} {s0 : Shared} {H0 : Hp} {f c' : Addr} {q : Str} {kL : Nat} {tl : XK → Hp → VK → Prop} {Z : Cx} {W : WX} {a : Str} {p1 p2 : Pos}
    (L : LamAt P w K mg base fs0 s0 H0 f c' q kL tl) (hP : Z.prog = P) (hw : Z.w = w) (hK : Z.K = K) (hm : Z.mg = mg) (hbs : Z.base = base) (hr : Room kL Z.A) (tk : Takes Z W)
    (hun : ∀ pins σ H s, Inv Z pins σ H s → Un fs0 [] H0 H s0.heap s.heap) (hN : Z.N[0]? = some a) (hv : Vis Z.env.scope a) (hd : (a == ("__debug__" : Str)) = false) (hcd : (a == ("__classdict__" : Str)) = false) :
    PE Z (.Call (.Name a p1) [] [] p2) (fun σ H Q => σ[0]? = some (some (.ref f)) ∧ H c' = some (LamX.CodeO c' q) ∧ ∃ E : XK, (∀ cls d H', E cls d H' → W cls d σ H') ∧ tl E H Q) := by
  subst hP hw hK hm hbs
  refine ⟨fun pins s σ H Q I h => ?_⟩
  obtain ⟨h1, h2, E, hE, h3⟩ := h
  refine wpAny_Call_Name_kw (thn ((pe_var (pos := p1) (i := 0) hN hv hd hcd).run pins s σ H (fun v H1 => v = .ref f ∧ H1 = H) I ⟨.ref f, h1, rfl, rfl⟩) fun u s1 ⟨v, H1, I1, r1, ev, eH⟩ => ?_)
  subst ev eH
  obtain rfl : u = Value.ref f := r1
  have un := hun _ _ _ _ I1
  obtain ⟨pa, bd, sc, cl, pm, ctv, of0⟩ := L.obj
  have of1 := of0 _ _ un I1.hok
  refine PySem.W.callWith_F0 ⟨_, _, _, _, of1⟩ ?_
  have rc := L.acts Z.A Z.stack s1 H1 Q E hr I1.env0 un h2 h3
  refine wpAny_call (codeAny_mono rc fun r s' hq => ?_)
  cases r with
  | error e => exact tk e s' (XE.of_call I1 hE hq)
  | ok fl =>
    cases fl with
    | ret u => exact I1.after hq
    | _ => exact False.elim hq
/-- the usual def: m = None; try: a() except x as n: m = n; return m -/
def catBody (a m n x : Str) (j : Nat) (p1 p2 p3 p4 p5 p6 p7 p8 p9 p10 p11 p12 p13 p14 : Pos) : List Stmt :=
  [.Assign [.Name m p1] (.Constant .none j p2) p3, .Try [.Expr (.Call (.Name a p4) [] [] p5) p6] [.ExceptHandler (some (.Name x p7)) (some n) [.Assign [.Name m p8] (.Name n p9) p10] p11] [] [] p12, .Return (some (.Name m p13)) p14]
theorem cat_ok {P : Program} {w : World} {K : Frag} {mg : Str → Option Value} {base : Heap} {d : DefM} {fd : FuncData} {G : Gx} {CS : Addr} {j : Nat} {p1 p2 p3 p4 p5 p6 p7 p8 p9 p10 p11 p12 p13 p14 : Pos} (F : FunM K d fd)
    (S : FnScope ["_law_work", "_law_caught_here", "_law_error"] ["_law_work"] (defScope d.st)) (hK : G.K = K)
    (hb : defBody d.st = catBody "_law_work" "_law_caught_here" "_law_error" "HandError" j p1 p2 p3 p4 p5 p6 p7 p8 p9 p10 p11 p12 p13 p14)
    (l0 : (defScope d.st).names.lookup ("_law_work" : Str) = some NameKind.local) (l1 : (defScope d.st).names.lookup ("_law_caught_here" : Str) = some NameKind.local) (l2 : (defScope d.st).names.lookup ("_law_error" : Str) = some NameKind.local) (l3 : (defScope d.st).names.lookup ("HandError" : Str) = some NameKind.globalImplicit)
    (hm : mg "HandError" = some (.ref CS)) : WrkOk P w K mg base G (.ref CS) 1 (d.adr K) fd ["_law_work"] some := by
  subst hK
  intro fs0 s0 H0 f c' q kL tl A outer s H Q E args L hr e0 un hfs hc hbd ht
  obtain ⟨oc, od, dV, kV, doc, pm, an, cdv, ct, osl, rfl, lk, hcd, _, _⟩ := F.ex
  refine LamX.run_ofS (us := [.ref f]) (vs := [.ref f]) lk hcd S hr e0 hbd (.cons rfl .nil) rfl fun hr2 => ?_
  rw [hb]
  have hname : Names (cxOf (L2.CX P w) P w G.K mg base ["_law_work", "_law_caught_here", "_law_error"] d.qual (defScope d.st) (d.adr G.K) cdv A outer s H E) "HandError" (.ref CS) := ⟨l3, by decide, .inl hm⟩
  refine ⟨_, pss_cons (ps_set (i := 1) S.nd rfl (.inl l1) pe_non) (pss_cons (ps_try_keep (i := 2) (j := 1) rfl rfl rfl S.nd rfl l2 (show 2 < 3 by decide) rfl l1 l2 hname (takes_of rfl rfl rfl rfl) (by decide) (by decide)
    (tb := fun W => tDrop fun σ H Q => σ[0]? = some (some (.ref f)) ∧ H c' = some (LamX.CodeO c' q) ∧ ∃ E : XK, (∀ cls d H', E cls d H' → W cls d σ H') ∧ tl E H Q) fun W pn xe tk _ => ?_) (pss_one (ps_ret (pe_var (i := 1) rfl (.inl l1) (by decide) (by decide))))), ?_⟩
  · exact pss_one (ps_expr (pe_tried L rfl rfl rfl rfl rfl hr2 tk (fun pins σ H1 s1 I1 => un_comp un I1.base hfs) rfl (.inl l0) (by decide) (by decide)))
  · refine ⟨rfl, hc, fun cls d H' => ∃ b, PySem.W.exmOne G.K cls (.ref CS) = some b ∧ (b = true → ∀ a, H' a = none → Q (.ref a) (upd H' a (ErrO a cls d))) ∧ (b = false → E cls d H'), fun cls d H' ⟨b, e1, e2, e3⟩ => ⟨b, e1, fun hb2 a ha => ⟨.ref a, rfl, e2 hb2 a ha⟩, e3⟩, ?_⟩
    have weak : ∀ v H1, (∃ F1 d d', (∀ a, F1 a → H1 a ≠ none) ∧ Fz G F1 H1 v d ∧ some d = some d' ∧ ∀ v' H' F', Fr H1 F1 H' F' → Fz G F' H' v' d' → Q v' H') → Q v H1 := fun v H1 ⟨F1, d, d', _, r, e, k⟩ => by
      cases e
      exact k v H1 F1 (Fr.refl _ _) r
    refine L.mono _ _ _ _ _ (fun cls d H1 ⟨b, e1, e2, e3⟩ => ⟨b, e1, fun hb2 a ha => weak _ _ (e2 hb2 a ha), e3⟩) (fun _ H1 q1 => ⟨.non, rfl, weak _ _ q1⟩) ht
/-! ### a def that tells what the lambda's error is -/
end MR
set_option maxRecDepth 100000
set_option maxHeartbeats 4000000
/-! MirLan: the making of a lambda; f(lambda: e). -/
namespace MR
open PySem PySem.Spec PyProof.Rows L2
/-- the lambda is made: its code object is new and goes into the table, or it stands there -/
theorem lam_made {X : Cx} {pins : List (Addr × Obj)} {σ : L2.St} {H : Hp} {s : Shared} {c P : Addr} {q : Str} {ps : Array Value} {params : Arguments} {body : Expr} {scope : Scope} {pos : Pos} {E : Value → Shared → Prop} {Q : Value → Shared → Prop} (I : Inv X pins σ H s)
    (TB : LamX.TabB X.base X.mg c P) (hcode : X.env.code = .ref c) (hq : q = X.env.qual ++ "<lambda>") (hP : H P = some (.tbl ps)) (ht : TriplesOk ps.toList) (ha : ∀ (p' : Pos) (cv : Value), codeAmong p' ps.toList = some cv → ∃ c, cv = .ref c ∧ H c = some (LamX.CodeO c q))
    (hdef : defaultsOf params X.env = ([], [])) (hfree : ∀ y ∈ scope.names, y.2 = .free → ∃ c, X.env.cells.lookup y.1 = some c)
    (h : ∀ (f c' : Addr) (pm ctv : Value) (H1 : Hp) (t : Shared), Inv X pins σ H1 t → ((H1 = H ∧ codeAmong pos ps.toList = some (.ref c')) ∨ (H c' = none ∧ c' ≠ P ∧ H1 = upd (upd H P (.tbl (ps ++ #[rawInt pos.line, rawInt pos.col, .ref c']))) c' (LamX.CodeO c' q))) →
      t.heap.get? f = some (PySem.W.kla_obj "<lambda>" q params body scope (cloFrom X.env.cells scope.names []) pm c' ctv) → H1 f = none → f ∉ frs X.stack → s.heap.get? f = none → H1 c' = some (LamX.CodeO c' q) → Q (.ref f) t) :
    wpAny (model X.prog X.w) X.A (eval (.Lambda params body scope pos) X.env) Q E s := by
  subst hq
  have hP2 : s.heap.get? P = some { cls := .none, data := .fields ps } := I.hok P _ hP
  have away : ∀ f, s.heap.objs.size ≤ f → f ∉ frs X.stack := fun f hf z => (List.mem_cons.mp (I.stkSub _ z)).elim (fun e => by
    have lt := I.lt
    rw [← e] at lt
    exact absurd (Nat.lt_of_lt_of_le lt hf) (Nat.lt_irrefl _)) fun e => I.nofs hf e
  refine PySem.W.kla_eval hdef ?_
  have new : ∀ f, s.heap.objs.size ≤ f → s.heap.get? f = none := fun f hf => Classical.byContradiction fun n => by
    obtain ⟨o, ho⟩ := Option.ne_none_iff_exists'.mp n
    exact absurd (Nat.lt_of_lt_of_le (Heap.lt_size ho) hf) (Nat.lt_irrefl _)
  cases hc : codeAmong pos ps.toList with
  | some cv =>
    obtain ⟨c', e, hco⟩ := ha pos cv hc
    subst e
    refine PySem.W.kla_makeFunctionHit (mg := X.mg) (c := c) (P := P) (ps := ps) (closure_ok hfree) I.ok.glob (I.mod.glob.keeps I.bk) hcode (TB.code.keeps I.bk) hP2 ht hc (TB.bm.keeps I.bk) fun ctv hn tk hx hsz => ?_
    exact h hn.objs.size c' _ ctv H _ (I.kept fun b o e => Heap.get?_push_of_some _ (hx b o e)) (Or.inl ⟨rfl, hc⟩) (Heap.get?_push_size _ rfl) (I.hok.fresh hsz) (away _ hsz) (new _ hsz) hco
  | none =>
    refine PySem.W.kla_makeFunction (mg := X.mg) (c := c) (P := P) (ps := ps) (closure_ok hfree) I.ok.glob (I.mod.glob.keeps I.bk) hcode (TB.code.keeps I.bk) hP2 ht hc TB.gP (TB.bm.keeps I.bk) fun c' ctv hn tk hx hge hlt hrec htb => ?_
    obtain ⟨c2, oc, vs, tq, e2, hoc, hd, hv⟩ := hrec
    cases e2
    have grow : s.heap.objs.size ≤ hn.objs.size := Nat.le_trans hge (Nat.le_of_lt hlt)
    have newC : H c' = none := I.hok.fresh hge
    have cP : c' ≠ P := (ne_of_none hP newC).symm
    have I1 := LamX.inv_table (t' := tk) (more := #[rawInt pos.line, rawInt pos.col, .ref c']) (h' := hn.push (PySem.W.kla_obj "<lambda>" (X.env.qual ++ "<lambda>") params body scope (cloFrom X.env.cells scope.names []) ((X.mg "__name__").getD .none) c' ctv)) I hP
      (fun b o hb e => Heap.get?_push_of_some _ (hx b o hb e)) (Heap.get?_push_of_some _ htb) hge ⟨oc, vs, tq, Heap.get?_push_of_some _ hoc, hd, hv⟩
    refine h hn.objs.size c' _ ctv _ _ I1 (Or.inr ⟨newC, cP, rfl⟩) (Heap.get?_push_size _ rfl) ?_ (away _ grow) (new _ grow) upd_same
    rw [upd_ne (Nat.ne_of_gt hlt), upd_ne (Nat.ne_of_gt (Nat.lt_of_lt_of_le (Heap.lt_size hP2) grow))]
    exact I.hok.fresh grow
section
variable {X : Cx} {G : Gx} {W : WX} {σ : L2.St} {H : Hp} {F : AP1} {fp : FPt} {ρ : Env}
/-- the slot holds table n -/
def isTab (n : Nat) : Option Sl → Bool
  | some (.ow (.tab m)) => m == n
  | _ => false
theorem isTab_eq {n : Nat} {x : Option Sl} (h : isTab n x = true) : x = some (.ow (.tab n)) := by
  unfold isTab at h
  split at h
  · rw [eq_of_beq h]
  · cases h
/-- behind the making of a lambda: the frozen part grows by its code object -/
theorem env_made {i ti : Nat} {c' : Addr} {ps : Array Value} {pos : Pos} (e : EnvR G F H σ ρ fp) (hi : ρ[i]? = some (.ow (.tab ti))) (hP : H (G.tb ti).1 = some (.tbl ps)) (ht : TriplesOk ps.toList)
    (ha : ∀ (p' : Pos) (cv : Value), codeAmong p' ps.toList = some cv → ∃ c, cv = .ref c ∧ F c ∧ H c = some (LamX.CodeO c (G.tb ti).2)) (own : fp i (G.tb ti).1) (nC : H c' = none) (cP : c' ≠ (G.tb ti).1) :
    EnvR G (fun a => F a ∨ a = c') (upd (upd H (G.tb ti).1 (.tbl (ps ++ #[rawInt pos.line, rawInt pos.col, .ref c']))) c' (LamX.CodeO c' (G.tb ti).2)) σ ρ fp ∧
    Stp H F (un fp) (upd (upd H (G.tb ti).1 (.tbl (ps ++ #[rawInt pos.line, rawInt pos.col, .ref c']))) c' (LamX.CodeO c' (G.tb ti).2)) (fun a => F a ∨ a = c') (un fp) := by
  have nF : ¬ F (G.tb ti).1 := fun f => e.nf i _ own f
  have keep : ∀ a o, H a = some o → a ≠ (G.tb ti).1 → (upd (upd H (G.tb ti).1 (.tbl (ps ++ #[rawInt pos.line, rawInt pos.col, .ref c']))) c' (LamX.CodeO c' (G.tb ti).2)) a = some o := fun a o h n => by
    rw [upd_ne (ne_of_none h nC), upd_ne n]
    exact h
  have tP : (upd (upd H (G.tb ti).1 (.tbl (ps ++ #[rawInt pos.line, rawInt pos.col, .ref c']))) c' (LamX.CodeO c' (G.tb ti).2)) (G.tb ti).1 = some (.tbl (ps ++ #[rawInt pos.line, rawInt pos.col, .ref c'])) := by
    rw [upd_ne cP.symm, upd_same]
  have dom : ∀ a, H a ≠ none → (upd (upd H (G.tb ti).1 (.tbl (ps ++ #[rawInt pos.line, rawInt pos.col, .ref c']))) c' (LamX.CodeO c' (G.tb ti).2)) a ≠ none := fun a n => by
    by_cases h : a = (G.tb ti).1
    · rw [h, tP]; exact fun z => by cases z
    · obtain ⟨o, ho⟩ := Option.ne_none_iff_exists'.mp n
      rw [keep a o ho h]; exact fun z => by cases z
  have sq : Stq H F (upd (upd H (G.tb ti).1 (.tbl (ps ++ #[rawInt pos.line, rawInt pos.col, .ref c']))) c' (LamX.CodeO c' (G.tb ti).2)) (fun a => F a ∨ a = c') :=
    ⟨fun a o h f => keep a o h fun z => nF (by rw [← z]; exact f), fun a o h m => keep a o h fun z => by
      rw [z, hP] at h
      cases h
      exact m, fun a f => Or.inl f⟩
  have other : ∀ j a, j ≠ i → fp j a → a ≠ (G.tb ti).1 := fun j a n h z => n (e.dis j i a h (by rw [z]; exact own))
  refine ⟨⟨fun j d z => ?_, fun j d z => ?_, e.dis, fun j a h f => ?_, fun j a h => dom a (e.tr j a h), fun j a o h z => ?_, fun a f => ?_, e.len⟩, ⟨fun a o h n => keep a o h fun z => n ⟨i, by rw [z]; exact own⟩, fun a f => Or.inl f, fun a f => f.elim Or.inl fun z => Or.inr (Or.inr (by rw [z]; exact nC)), fun a p => Or.inl p, fun a z => Classical.byContradiction fun n => dom a n z⟩⟩
  · obtain ⟨w, e1, e2⟩ := e.fz j d z
    exact ⟨w, e1, e2.mono sq⟩
  · obtain ⟨w, e1, e2⟩ := e.ow j d z
    by_cases hj : j = i
    · subst hj
      rw [hi] at z
      cases z
      cases e2 with
      | tab h1 hy h2 h3 h4 =>
        rw [hP] at h1
        cases h1
        have eL : (ps ++ #[rawInt pos.line, rawInt pos.col, Value.ref c']).toList = ps.toList ++ [rawInt pos.line, rawInt pos.col, .ref c'] := by simp
        have hy2 : G.sys = true → ∃ o u, (upd (upd H (G.tb ti).1 (.tbl (ps ++ #[rawInt pos.line, rawInt pos.col, .ref c']))) c' (LamX.CodeO c' (G.tb ti).2)) sysModules = some (.frz o u) := by
          intro b
          obtain ⟨o, u, hs⟩ := hy b
          exact ⟨o, u, keep _ _ hs fun z => by rw [z, hP] at hs; cases hs⟩
        refine ⟨w, e1, .tab tP hy2 (by rw [eL]; exact PySem.TriplesOk_snoc _ _ _ _ ht) (fun p' cv hc => ?_) h4⟩
        rw [eL] at hc
        rcases LamX.among_app _ ht hc with z | z
        · obtain ⟨c0, g1, g2, g3⟩ := ha p' cv z
          exact ⟨c0, g1, Or.inl g2, keep c0 _ g3 fun z => by rw [z, hP] at g3; cases g3⟩
        · exact ⟨c', z, Or.inr rfl, upd_same⟩
    · exact ⟨w, e1, e2.mono sq fun a o h p => keep a o h (other j a hj p)⟩
  · rcases f with f | f
    · exact e.nf j a h f
    · exact e.tr j a h (by rw [f]; exact nC)
  · by_cases ha2 : a = (G.tb ti).1
    · rw [ha2, tP] at z
      cases z
      exact fun z => z
    · cases hu : H a with
      | none => exact (e.tr j a h hu).elim
      | some u =>
        rw [keep a u hu ha2] at z
        cases z
        exact e.ni j a o h hu
  · rcases f with f | f
    · exact dom a (e.ft a f)
    · rw [f, upd_same]; exact fun z => by cases z
/-- f(lambda: e): the lambda's outcome, then what the def makes of it; i: the slot of the table; ok: the errors that it catches -/
def iLam (i ti : Nat) (ok : String → Bool) (fw : IV → Option IV) (B : E) : E := fun ρ => if isTab ti ρ[i]? = true then (match B ρ with
    | .ok _ ρ1 => ofO (fw .non) ρ1
    | .ex c p ρ1 => if ok c = true then ofO (fw (.err c p)) ρ1 else .no
    | .no => .no)
  else .no
theorem tOf_mono {B : E} {E1 E2 : XK} {Q1 Q2 : VK} (hE : ∀ c d H1, E1 c d H1 → E2 c d H1) (hQ : ∀ v H1, Q1 v H1 → Q2 v H1) (h : teOf G (fun cls d _ H => E1 cls d H) B σ H Q1) : teOf G (fun cls d _ H => E2 cls d H) B σ H Q2 := by
  obtain ⟨ρ, F, fp, e, h⟩ := h
  refine ⟨ρ, F, fp, e, ?_⟩
  cases hB : B ρ with
  | ok d ρ1 => rw [hB] at h; exact fun v H' F' fp' s e' r => hQ _ _ (h v H' F' fp' s e' r)
  | ex c p ρ1 => rw [hB] at h; exact fun d H' F' fp' s e' r => hE _ _ _ (h d H' F' fp' s e' r)
  | no => rw [hB] at h; exact h
/-- what the law's context is to be -/
structure LamC (X : Cx) (G : Gx) (ti : Nat) : Prop where
  ex : ∃ c, X.env.code = .ref c ∧ LamX.TabB X.base X.mg c (G.tb ti).1
  qual : (G.tb ti).2 = X.env.qual ++ "<lambda>"
theorem m_lamcall (o : Ok X G W) {ti : Nat} (C : LamC X G ti) {i k kL : Nat} {x : Str} {CS : Value} {fw : IV → Option IV} {okc : String → Bool} {params : Arguments} {body : Expr} {scope : Scope} {B : E} {p lpos pos : Pos} (Fo : WrkM X.prog X.w X.K X.mg X.base G CS k x fw) (hr : Room (kL + 1 + k) X.A)
    (hok : ∀ c, okc c = true → PySem.W.exmOne G.K (G.ecl c) CS = some true) (L : LamX.LamS X.env.scope scope)
    (hbody : ∀ (A : Around) (outer : List PySem.Env) (s1 : Shared) (H1 : Hp) (E : XK) (f c' : Addr), Room kL (A.deeper (LamX.lamEnv X scope s1.heap.objs.size f c')) → PE (LamX.lamCx X A outer s1 H1 E scope f c') body (teOf G (fun cls d _ H => E cls d H) B))
    (hbind : ∀ (q : Str) (cl : List (Str × Addr)) (pm cv ctv : Value), bindArgs (PySem.W.kla_fn "<lambda>" q params body scope cl pm cv ctv) ⟨[], []⟩ = pure [] := by intros; rfl)
    (hg : Gl X x := by rfl) (hdb : (x == ("__debug__" : Str)) = false := by decide) (hdef : defaultsOf params X.env = ([], []) := by rfl) :
    PE X (.Call (.Name x p) [.Lambda params body scope lpos] [] pos) (teOf G W (iLam i ti okc fw B)) := by
  obtain ⟨g, fd, gps, g1, g2, g3, hl, g4⟩ := Fo.ex
  obtain ⟨c, hcode, TB⟩ := C.ex
  refine ⟨fun pins s σ H Q I h => ?_⟩
  obtain ⟨ρ, F, fp, e, h⟩ := h
  unfold iLam at h
  split at h
  · rename_i hi0
    have hi := isTab_eq hi0
    obtain ⟨w, hw, ow⟩ := e.ow i _ hi
    cases ow with
    | @tab _ _ ps q hP hy ht ha hq =>
      have own : fp i (G.tb ti).1 := (hq _).mpr rfl
      refine wpAny_Call_Name_kw (ld_glob I hg g1 ?_ hdb)
      refine PySem.W.callWith_K (h₀ := X.base) I.ok.mod.kin g2 ?_ (by rfl) (by rfl)
      show wpAny _ _ (spliced ((false, eval (.Lambda params body scope lpos) X.env) :: backTo pos (starEach [] X.env))) _ _ s
      refine Calls.spliced_cons (lam_made I TB hcode C.qual hP ht (fun p' cv hc => let ⟨c0, z1, _, z3⟩ := ha p' cv hc; ⟨c0, z1, z3⟩) hdef (L.has I.ok) fun f c' pm ctv H1 t I1 alt hf hfn hfr _ hco => ?_)
      have env1 : ∃ F1, EnvR G F1 H1 σ ρ fp ∧ Stp H F (un fp) H1 F1 (un fp) := by
        rcases alt with ⟨rfl, _⟩ | ⟨nC, cP, rfl⟩
        · exact ⟨F, e, Stp.refl _ _ _⟩
        · exact ⟨_, (env_made e hi hP ht ha own nC cP).1, (env_made e hi hP ht ha own nC cP).2⟩
      obtain ⟨F1, e1, s1⟩ := env1
      rw [C.qual] at hf hco
      have LA := acts_of (k := kL) (t := fun E => teOf G (fun cls d _ H => E cls d H) B) I1 L (fun H' h' u _ => u.keep f _ hf hfn hfr (fun z => nomatch z)) (hbind _ _ _ _ _) (fun A outer s2 H2 E hr2 => hbody A outer s2 H2 E f c' hr2) (fun E1 E2 H2 Q1 Q2 hE hQ z => tOf_mono hE hQ z)
      refine Calls.spliced_nil ⟨I1.kIn, ?_⟩
      have hbd : BindsTo t fd ⟨[.ref f], []⟩ (gps.zip [.ref f]) := by
        have z := g3 t [.ref f] I1.kIn (by rw [List.append_nil, hl]; rfl)
        simpa using z
      have fin : ∀ (d d' : IV) (ρ1 : Env) (v : V) (H2 : Hp) (F2 : AP1) (fp2 : FPt), Stp H F (un fp) H2 F2 (un fp2) → EnvR G F2 H2 σ ρ1 fp2 → Fz G F2 H2 v d → fw d = some d' → Oc RV G W σ H F fp (.ok d' ρ1) Q →
          ∃ F1 d d', (∀ a, F1 a → H2 a ≠ none) ∧ Fz G F1 H2 v d ∧ fw d = some d' ∧ ∀ v' H' F', Fr H2 F1 H' F' → Fz G F' H' v' d' → Q v' H' := fun d d' ρ1 v H2 F2 fp2 st en r ew hQ =>
        ⟨F2, d, d', en.ft, r, ew, fun v' H' F' fr r' => hQ v' H' F' fp2 (st.trans (fr.stp _)) (en.fr fr) r'⟩
      have rd : tWrk G CS fw (fun E H' Q => teOf G (fun cls d _ H => E cls d H) B σ H' Q) (fun _ _ _ => False) H1 Q := by
        refine ⟨ρ, F1, fp, e1, ?_⟩
        cases hB : B ρ with
        | no => rw [hB] at h; exact h.elim
        | ok d0 ρ1 =>
          rw [hB] at h
          dsimp only at h
          cases hfw : fw .non with
          | none => rw [hfw] at h; exact h.elim
          | some d' =>
            rw [hfw] at h
            exact fun v H2 F2 fp2 st en _ => fin .non d' ρ1 .non H2 F2 fp2 (s1.trans st) en .non hfw h
        | ex cl pp ρ1 =>
          rw [hB] at h
          dsimp only at h
          by_cases hk : okc cl = true
          · rw [if_pos hk] at h
            cases hfw : fw (.err cl pp) with
            | none => rw [hfw] at h; exact h.elim
            | some d' =>
              rw [hfw] at h
              intro dd H2 F2 fp2 st en hx
              refine ⟨true, hok cl hk, fun _ a ha2 => ?_, fun z => by cases z⟩
              have fr : Fr H2 F2 (upd H2 a (ErrO a (G.ecl cl) dd)) (fun b => F2 b ∨ b = a) := Fr.newF ha2
              refine fin (.err cl pp) d' ρ1 (.ref a) _ _ fp2 ((s1.trans st).trans (fr.stp _)) (en.fr fr) ?_ hfw h
              rcases hx with ⟨z1, z2⟩ | ⟨dx, vs, z1, z2, z3, z4⟩
              · subst z1 z2
                exact .err0 (Or.inr rfl) upd_same
              · subst z1
                exact .errD (Or.inr rfl) upd_same (Or.inl z2) (fr.keep _ _ z3) (z4.mono fr.stq)
          · rw [if_neg hk] at h; exact h.elim
      have rc := g4 (frs X.stack) t H1 f c' _ (kL + 1) _ X.A X.stack t H1 Q (fun _ _ _ => False) ⟨[.ref f], []⟩ LA hr I1.env0 (Un.refl) (fun b hb => Or.inl hb) hco hbd rd
      refine wpAny_call (codeAny_mono rc fun r s2 hq2 => ?_)
      cases r with
      | error e2 => obtain ⟨_, _, _, _, _, _, _, _, _, _, _, _, hE⟩ := hq2; exact hE.elim
      | ok fl =>
        cases fl with
        | ret u => exact I1.after hq2
        | _ => exact False.elim hq2
  · exact h.elim
end
end MR
set_option maxRecDepth 100000
set_option maxHeartbeats 4000000
/-! MirLaw: a law whose defs make lambdas: it holds their tables of code objects; its entry. -/
namespace MR
open PySem PySem.Spec PyProof.Rows L2
/-! ### slots that no name has -/
theorem inv_ghosts {X : Cx} {pins : List (Addr × Obj)} {σ σ' : L2.St} {H : Hp} {s : Shared} (I : Inv X pins σ H s) (hl : σ'.length = σ.length) (hs : ∀ (j : Nat) (x : Str), X.N[j]? = some x → Vis X.env.scope x → σ'[j]? = σ[j]?) : Inv X pins σ' H s := by
  obtain ⟨m, hn, hlo⟩ := I.loc
  refine ⟨I.ok, I.os, I.bare, I.base, ⟨m, hn, fun j x v e1 e2 e3 => ?_⟩, I.cell, I.free, I.freeC, I.pin, I.hok, by rw [hl]; exact I.len⟩
  rw [hs j x e1 e3] at e2
  exact hlo j x v e1 e2 e3
theorem pss_ghosts {X : Cx} {st : List Stmt} {t : TS} {f : L2.St → L2.St} (hl : ∀ σ : L2.St, σ.length = X.N.length → (f σ).length = σ.length) (hs : ∀ (σ : L2.St), σ.length = X.N.length → ∀ (j : Nat) (x : Str), X.N[j]? = some x → Vis X.env.scope x → (f σ)[j]? = σ[j]?) (h : PSs X st t) : PSs X st (fun D σ H => t D (f σ) H) :=
  ⟨fun pins s _ H D I w => h.run pins s _ H D (inv_ghosts I (hl _ I.len) fun j x => hs _ I.len j x) w⟩
/-! ### the law's entry -/
/-- nt tables, all empty, each of its own -/
def spT (G : Gx) (nt : Nat) (f : Fn) : Sp := fun vs H Q _ => ∃ v d F, vs = [v] ∧ Fz G F H v d ∧ (∀ a, F a → H a ≠ none) ∧ (∀ i, i < nt → ¬ F (G.tb i).1 ∧ H (G.tb i).1 = some (.tbl #[])) ∧ (∀ i j, i < nt → j < nt → (G.tb i).1 = (G.tb j).1 → i = j) ∧ (G.sys = true → ∃ o u, H sysModules = some (.frz o u)) ∧ (match f [d] with
  | .ok r _ => ∀ v H' F', Fz G F' H' v r → Q v H'
  | _ => False)
def tabSl (nt : Nat) : List Sl := (List.range nt).map fun i => .ow (.tab i)
/-- n: its slots, the last nt are the tables' -/
def fnT (n nt : Nat) (body : S) : Fn := fun ds => match ds with
  | [d] => (match body (.fz d :: (List.replicate (n - 1 - nt) .un ++ tabSl nt)) with
    | .rt r _ => .ok r []
    | .nx _ => .ok .non []
    | _ => .no)
  | _ => .no
theorem tabSl_at {m nt k : Nat} {d : IV} (h : (List.replicate m Sl.un ++ tabSl nt)[k]? = some (.ow d)) : ∃ t, t < nt ∧ k = m + t ∧ d = .tab t := by
  by_cases hj : k < m
  · rw [List.getElem?_append_left (by simpa using hj)] at h
    cases List.eq_of_mem_replicate (List.mem_of_getElem? h)
  · rw [List.getElem?_append_right (by simpa using hj), List.length_replicate] at h
    unfold tabSl at h
    rw [List.getElem?_map] at h
    obtain ⟨t, h1, h2⟩ := Option.map_eq_some_iff.mp h
    cases h2
    obtain ⟨h3, h4⟩ := List.getElem?_eq_some_iff.mp h1
    rw [List.getElem_range] at h4
    rw [List.length_range] at h3
    exact ⟨t, by omega, by omega, rfl⟩
theorem tabSl_fz {m nt k : Nat} {d : IV} : (List.replicate m Sl.un ++ tabSl nt)[k]? ≠ some (.fz d) := fun h => by
  have := List.mem_of_getElem? h
  rw [List.mem_append] at this
  rcases this with h | h
  · cases List.eq_of_mem_replicate h
  · unfold tabSl at h
    obtain ⟨t, _, h2⟩ := List.mem_map.mp h
    cases h2
/-- the start's slots -/
def stT (v : V) (m nt : Nat) : L2.St := some v :: (List.replicate m none ++ List.replicate nt (some .non))
theorem t_body {G : Gx} {F : AP1} {H : Hp} {v : V} {d : IV} {m nt : Nat} (r : Fz G F H v d) (ft : ∀ a, F a → H a ≠ none) (hP : ∀ i, i < nt → ¬ F (G.tb i).1 ∧ H (G.tb i).1 = some (.tbl #[])) (hd : ∀ i j, i < nt → j < nt → (G.tb i).1 = (G.tb j).1 → i = j) (hy : G.sys = true → ∃ o u, H sysModules = some (.frz o u)) :
    EnvR G F H (stT v m nt) (.fz d :: (List.replicate m .un ++ tabSl nt)) (fun i a => ∃ t, t < nt ∧ i = m + 1 + t ∧ a = (G.tb t).1) := by
  refine ⟨fun j x z => ?_, fun j x z => ?_, fun i j a ⟨t, t1, t2, t3⟩ ⟨u, u1, u2, u3⟩ => ?_, fun i a ⟨t, t1, t2, t3⟩ f => (hP t t1).1 (by rw [← t3]; exact f), fun i a ⟨t, t1, t2, t3⟩ z => ?_, fun i a o ⟨t, t1, t2, t3⟩ z => ?_, ft, ?_⟩
  · cases j with
    | zero => cases z; exact ⟨v, rfl, r⟩
    | succ j =>
      rw [List.getElem?_cons_succ] at z
      exact (tabSl_fz z).elim
  · cases j with
    | zero => cases z
    | succ j =>
      rw [List.getElem?_cons_succ] at z
      obtain ⟨t, t1, t2, rfl⟩ := tabSl_at z
      refine ⟨.non, ?_, .tab (hP t t1).2 hy trivial (fun pos cv hc => ?_) fun a => ⟨fun ⟨u, u1, u2, u3⟩ => ?_, fun h => ⟨t, t1, by omega, h⟩⟩⟩
      · unfold stT
        rw [List.getElem?_cons_succ, List.getElem?_append_right (by simp; omega), List.length_replicate, List.getElem?_replicate, if_pos (by omega)]
      · have hc2 : codeAmong pos [] = some cv := hc
        simp [codeAmong] at hc2
      · obtain rfl : u = t := by omega
        exact u3
  · rw [t2, u2, hd t u t1 u1 (by rw [← t3, ← u3])]
  · rw [t3, (hP t t1).2] at z; cases z
  · rw [t3, (hP t t1).2] at z; cases z; exact fun z => z
  · simp [stT, tabSl]
/-- the law's def; G': what its body is told, with the frame's cells -/
theorem fn_okT {P : Program} {w : World} {K : Frag} {mg : Str → Option Value} {base : Heap} {d : DefM} {fd : FuncData} {N : List Str} {a : Str} {k nt : Nat} {G : Gx} {G' : List (Str × Addr) → Gx} {fn : Fn} {body : S} (F : FunM K d fd) (S : FnScope N [a] (defScope d.st)) (hN : nt + 1 ≤ N.length)
    (nv : ∀ x ∈ N.drop (N.length - nt), ¬ Vis (defScope d.st) x)
    (conv : ∀ c vs H Q E, spT G nt fn vs H Q E → spT (G' c) nt (fnT N.length nt body) vs H Q E)
    (hbody : ∀ (A : Around) (outer : List PySem.Env) (s : Shared) (H : Hp) (E : XK) (cdv : Value), (∀ nm, d.adr K = He.fAd K (nm, none) → cdv = .ref (He.codeOf K (nm, none))) → A.guards = some [] → Room k (A.deeper (envOfC d.qual (defScope d.st) s.heap.objs.size (d.adr K) cdv)) →
      PSs (cxOf (L2.CX P w) P w K mg base N d.qual (defScope d.st) (d.adr K) cdv A outer s H E) (defBody d.st) (tsOf (G' (envOfC d.qual (defScope d.st) s.heap.objs.size (d.adr K) cdv).cells) (fun cls d _ H => E cls d H) [] body)) : FnG P w K mg base (L2.CX P w) (k + 1) (d.adr K) fd [a] (spT G nt fn) := by
  have hlen : ∀ vs H Q E, spT G nt fn vs H Q E → vs.length = ([a] : List Str).length := fun vs H Q E ⟨v, _, _, e, _⟩ => by rw [e]; rfl
  refine ⟨hlen, fun A outer s H as us vs Q E hG hr he hb hv hs => ?_⟩
  obtain ⟨oc, od, dV, kV, doc, pm, an, cdv, ct, osl, rfl, lk, hcd, _, _⟩ := F.ex
  obtain ⟨c, ec⟩ := He.codeIn_ref hcd
  obtain ⟨v, d0, F0, rfl, r, ft, hP, hds, hy, hm⟩ := conv (envOfC d.qual (defScope d.st) s.heap.objs.size (d.adr K) cdv).cells _ _ _ _ hs
  have hst : L2.start N [v] = some v :: List.replicate (N.length - 1) none := rfl
  refine LamX.run_ofS lk hcd S hr he hb hv rfl fun hr2 => ⟨_, pss_ghosts (f := fun σ => σ.take (N.length - nt) ++ List.replicate nt (some .non)) (fun σ hl => ?_) (fun σ hl j x hj hx => ?_) (hbody A outer s H E cdv (fun nm ha => ?_) hG hr2), ?_⟩
  · have hl : σ.length = N.length := hl
    simp only [List.length_append, List.length_take, List.length_replicate]
    omega
  · have hj : N[j]? = some x := hj
    have hl : σ.length = N.length := hl
    by_cases h : j < N.length - nt
    · rw [List.getElem?_append_left (by rw [List.length_take]; omega), List.getElem?_take_of_lt h]
    · refine absurd hx (nv x ?_)
      obtain ⟨h1, h2⟩ := List.getElem?_eq_some_iff.mp hj
      rw [← h2]
      exact List.mem_drop_iff_getElem.mpr ⟨j - (N.length - nt), by omega, by congr 1; omega⟩
  · rw [ec]
    exact congrArg Value.ref (He.codeOf_eq (by rw [← ha]; exact lk) ec).symm
  · refine ⟨_, F0, _, (by
      have := t_body (v := v) (m := N.length - 1 - nt) r ft hP hds hy
      have e : (L2.start N [v]).take (N.length - nt) ++ List.replicate nt (some V.non) = stT v (N.length - 1 - nt) nt := by
        rw [hst]
        unfold stT
        obtain ⟨m, hm2⟩ : ∃ m, N.length = m + nt + 1 := ⟨N.length - nt - 1, by omega⟩
        rw [hm2, show m + nt + 1 - nt = m + 1 by omega, show m + nt + 1 - 1 = m + nt by omega, show m + nt - nt = m by omega, List.take_succ_cons, List.take_replicate, Nat.min_eq_left (by omega)]
        rfl
      rw [← e] at this
      exact this), ?_⟩
    unfold fnT at hm
    dsimp only at hm
    cases hb2 : body (.fz d0 :: (List.replicate (N.length - 1 - nt) .un ++ tabSl nt)) with
    | rt r0 ρ0 =>
      rw [hb2] at hm
      exact fun v σ' H' F' fp' _ _ _ r => hm v H' F' r
    | nx ρ0 =>
      rw [hb2] at hm
      exact fun σ' H' F' fp' _ _ _ => hm .non H' F' .non
    | ex c p ρ0 => rw [hb2] at hm; exact hm.elim
    | ro d0 ρ0 => rw [hb2] at hm; exact hm.elim
    | bk ρ0 => rw [hb2] at hm; exact hm.elim
    | ct ρ0 => rw [hb2] at hm; exact hm.elim
    | no => rw [hb2] at hm; exact hm.elim
end MR
set_option maxRecDepth 100000
set_option maxHeartbeats 4000000
/-! MirRz: raise C('..'); isinstance of caught errors. -/
namespace MR
open PySem PySem.Spec PyProof.Rows L2
/-! ### what the written part says of the errors' classes -/
/-- all are of the first one's kind, each of its own -/
def subE (c c' : String) : Bool := c == c' || c' == "HandError"
structure ErC (G : Gx) (cs : List String) : Prop where
  ecl : ∀ c, G.ecl c = .ref (G.cls c)
  xc : ∀ c ∈ cs, ExcC G.K (G.cls c)
  rs : ∀ c ∈ cs, PySem.W.keepIn G.K (.ref (G.cls c)) = true ∧ PySem.W.subIn G.K (.ref (G.cls c)) (.type "BaseException") = some true ∧ PySem.W.typeIn G.K (.ref (G.cls c)) = some (.type "type")
  kk : ∀ c ∈ cs, ∀ c' ∈ cs, PySem.W.kitOne G.K (.ref (G.cls c)) (.ref (G.cls c')) = some (subE c c')
  kn : ∀ c ∈ cs, PySem.W.kitOne G.K (.type "NoneType") (.ref (G.cls c)) = some false
  xm : ∀ c ∈ cs, PySem.W.exmOne G.K (G.ecl c) (.ref (G.cls "HandError")) = some true
theorem erC_of {K : Frag} {nms : List Str} {cl : Option Frm} {pw : Option (Program × World)} {sys : Bool} {cs : List String} (inj : ∀ c ∈ cs, ∀ c' ∈ cs, subS (Str.ofString c) (Str.ofString c') = subE c c') (h : errB K (cs.map Str.ofString) = true) : ErC (gxL K nms cl pw sys) cs := by
  obtain ⟨h1, h2⟩ := He.ba h
  obtain ⟨h3, h4⟩ := He.ba h2
  have at_ : ∀ c ∈ cs, _ := fun c hc => List.all_eq_true.mp h1 (Str.ofString c) (List.mem_map.mpr ⟨c, hc, rfl⟩)
  simp only [Bool.and_eq_true, decide_eq_true_eq, List.all_eq_true, List.mem_map, forall_exists_index, and_imp, forall_apply_eq_imp_iff₂] at at_
  refine ⟨fun _ => rfl, fun c hc => ?_, fun c hc => ?_, fun c hc c' hc' => ?_, fun c hc => ?_, fun c hc => ?_⟩
  · obtain ⟨a1, a2, a3, a4, a5, a6, a7, a8, a9, a10, a11⟩ := at_ c hc
    exact ⟨a4, a5, a2, a6, a7, of_decide_eq_true h3, of_decide_eq_true h4, a8⟩
  · obtain ⟨a1, a2, a3, a4, a5, a6, a7, a8, a9, a10, a11⟩ := at_ c hc
    exact ⟨a1, a2, a3⟩
  · obtain ⟨a1, a2, a3, a4, a5, a6, a7, a8, a9, a10, a11⟩ := at_ c hc
    rw [← inj c hc c' hc']
    exact a9 c' hc'
  · obtain ⟨a1, a2, a3, a4, a5, a6, a7, a8, a9, a10, a11⟩ := at_ c hc
    exact a10
  · obtain ⟨a1, a2, a3, a4, a5, a6, a7, a8, a9, a10, a11⟩ := at_ c hc
    exact a11
/-! ### raise C('..') -/
section
variable {X : Cx} {G : Gx} {W : WX} {pin : List Nat} {cs : List String}
/-! ### isinstance(err, C) -/
def rIsX (K : Frag) : List V → Hp → VK → Prop := fun xs H Q => ∃ (x c : V) (t cv : Value) (b : Bool), xs = [x, c] ∧ (∀ u, RelV c u → u = cv) ∧ ((x = .non ∧ t = .type "NoneType") ∨ ∃ p D, x = .ref p ∧ t = .ref D ∧ (H p = some (ErrO p (.ref D) none) ∨ ∃ dd vs, H p = some (ErrO p (.ref D) (some dd)) ∧ H dd = some (.xd vs)) ∧ ExcC K D) ∧
  PySem.W.kitOne K t cv = some b ∧ Q (.bl b) H
theorem call_isX : CallR X (.builtin "isinstance") (rIsX X.K) := by
  intro pins s σ H xs us Q I r h
  obtain ⟨x, c, t, cv, b, rfl, hcv, alt, e, q⟩ := h
  obtain ⟨u1, u2, rfl, r1, r2⟩ := vals2 r
  have ec := hcv _ r2
  subst ec
  rcases alt with ⟨rfl, rfl⟩ | ⟨p, D, rfl, rfl, hp, hD⟩
  · obtain ⟨P, Z, pz, hx⟩ := kit_of I r1 (.base .non)
    exact PySem.W.kia_one Z I.kIn pz e hx fun tk => ⟨.bl b, H, I.tok tk, rfl, q⟩
  · cases r1
    have inst : ∃ ob od, PySem.W.InstAt s.heap p ob D od := by
      rcases hp with hp | ⟨dd, fs, hp, hx⟩
      · obtain ⟨⟨oe, vs, hget, hz, hd⟩, _, _⟩ := I.hok p _ hp
        obtain ⟨oc, od, oda, osl⟩ := oe
        obtain ⟨h1, h2⟩ := hz
        dsimp only at h1 h2 hd
        subst h1 h2 hd
        exact ⟨_, none, hget, rfl, rfl, trivial⟩
      · obtain ⟨⟨oe, vs, hget, hz, hd⟩, _, _⟩ := I.hok p _ hp
        have hxd : ObjOk X.prog X.w H s.heap dd (.xd fs) := I.hok dd _ hx
        obtain ⟨mA, hns, _⟩ := hxd
        obtain ⟨od, ho, _⟩ := lookIn_ns hns
        exact ⟨oe, some od, hget, hz.1, by unfold PySem.W.notCls; rw [hd] <;> rfl, by rw [hz.2]; exact ho⟩
    obtain ⟨ob, od, J⟩ := inst
    have hcl : (PySem.W.clsIn X.K D).isSome = true := by
      obtain ⟨cd, hc, _⟩ := PySem.W.any_some hD.hd
      rw [hc]
      rfl
    exact PySem.W.kia_one (PySem.W.kitx_exc hcl hD.hg hD.hk hD.hs hD.ha hD.hn hD.ht hD.hm) I.kIn J e (fun z => nomatch z) fun tk => ⟨.bl b, H, I.tok tk, rfl, q⟩
def isX (cs : List String) (d : IV) (k : String) : Option Bool := if k ∈ cs then (match d with
  | .non => some false
  | .err c _ => if c ∈ cs then some (subE c k) else none
  | _ => none) else none
def fIsX (cs : List String) : List IV → Option IV
  | [d, .cl k] => (isX cs d k).map IV.bl
  | _ => none
theorem Fz.err_inv {F : AP1} {H : Hp} {v : V} {c : String} {ds : List (Str × IV)} (h : Fz G F H v (.err c ds)) : ∃ p, v = .ref p ∧ (H p = some (ErrO p (G.ecl c) none) ∨ ∃ dd vs, H p = some (ErrO p (G.ecl c) (some dd)) ∧ H dd = some (.xd vs)) := by
  cases h with
  | err0 f h => exact ⟨_, rfl, Or.inl h⟩
  | errD f h f2 h2 a => exact ⟨_, rfl, Or.inr ⟨_, _, h, h2⟩⟩
theorem b_isX (k : ErC G cs) : CallB G (rIsX G.K) (fIsX cs) := by
  intro F H xs ds d Q hx hf kk
  unfold fIsX at hf
  split at hf
  · rename_i d0 c
    obtain ⟨b, e1, e2⟩ := Option.map_eq_some_iff.mp hf
    subst e2
    obtain ⟨v, w, rfl, h1, h2⟩ := hx.two
    have hw : w = .ref (G.cls c) := by
      have := h2.cls (Or.inr ⟨c, rfl⟩)
      cases this
      rfl
    subst hw
    unfold isX at e1
    split at e1
    · rename_i hc
      split at e1
      · cases e1
        have hv : v = .non := by
          have := h1.isN
          simpa [MR.isN] using this
        subst hv
        exact ⟨.non, .ref (G.cls c), _, .ref (G.cls c), false, rfl, fun u r => r, Or.inl ⟨rfl, rfl⟩, k.kn c hc, kk _ _ _ (Fr.refl _ _) (.bl _)⟩
      · rename_i c0 ds0
        split at e1
        · rename_i hc0
          cases e1
          have hz : Fz G F H v (.err c0 ds0) := by
            cases h1 with
            | fz h => exact h
          obtain ⟨p, rfl, hp⟩ := hz.err_inv
          rw [k.ecl] at hp
          exact ⟨.ref p, .ref (G.cls c), .ref (G.cls c0), .ref (G.cls c), _, rfl, fun u r => r, Or.inr ⟨p, _, rfl, rfl, hp, k.xc c0 hc0⟩, k.kk c0 hc0 c hc, kk _ _ _ (Fr.refl _ _) (.bl _)⟩
        · cases e1
      · cases e1
    · cases e1
  · cases hf
theorem m_isX (o : Ok X G W) (k : ErC G cs) {e c : Expr} {p pos : Pos} {J : EAv} (hg : Gl X "isinstance") (hm : X.mg "isinstance" = none) (ha : PA X [e, c] (tjOf G W J))
    (he : starEach [e, c] X.env = (false, eval e X.env) :: starEach [c] X.env := by rfl) (hpl : (backTo pos (starEach [c] X.env)).any (·.1) = false := by rfl) : PE X (.Call (.Name "isinstance" p) [e, c] [] pos) (teOf G W (iCallJ (fIsX cs) J)) := by
  have h := call_isX (X := X)
  rw [o.K] at h
  exact m_callJ h (b_isX k) hg hm rfl ha (by decide) (by decide) he hpl
theorem ok_lam {scope : Scope} {f c' : Addr} {A : Around} {outer : List PySem.Env} {s1 : Shared} {H1 : Hp} {E : XK} {k : Nat} (hr : Room k (A.deeper (LamX.lamEnv X scope s1.heap.objs.size f c'))) (o : Ok X G W) :
    Ok (LamX.lamCx X A outer s1 H1 E scope f c') G (fun cls d _ H => E cls d H) := ⟨o.K, rfl, takes_of rfl rfl rfl rfl, by have := hr.un; show (A.deeper (LamX.lamEnv X scope s1.heap.objs.size f c')).units + 80 < cLine; omega, o.pw⟩
end
/-- what walk_ofL wants of the law's def -/
theorem law_code {K : Frag} {d : DefM} {fd : FuncData} (F : FunM K d fd) : ∃ (ob : Obj) (fd0 : FuncData) (c : Addr) (oc : Obj) (vs : Array Value), K.lookup (d.adr K) = some ob ∧ ob.data = .func fd0 ∧ fd0.code = .ref c ∧ K.lookup c = some oc ∧ oc.data = .fields vs := by
  obtain ⟨oc, od, dV, kV, doc, pm, an, cdv, ct, osl, rfl, lk, hcd, _, _⟩ := F.ex
  obtain ⟨c, ec⟩ := He.codeIn_ref hcd
  subst ec
  have h2 : (match K.lookup c with
    | some ⟨_, _, .fields vs, _⟩ => (match vs.toList with | _ :: .str n _ :: _ => n == d.qual | _ => false)
    | _ => false) = true := hcd
  split at h2
  · rename_i hk
    exact ⟨_, _, c, _, _, lk, rfl, rfl, hk, rfl⟩
  · cases h2
end MR
set_option maxRecDepth 100000
set_option maxHeartbeats 4000000
/-! MirSup: an error whose __init__ says super().__init__(m); self.f = f. -/
namespace MR
open PySem PySem.Spec PyProof.Rows L2 PySem.W PySem.Calls
def supBody (m f : Str) (j : Nat) (p0 p1 p2 p3 p4 p5 p6 p7 p8 p9 : Pos) : List Stmt :=
  [.Expr (.Call (.Attribute (.Call (.Name "super" p0) [] [] p1) "__init__" p2) [.Constant (.str m) j p3] [] p4) p5,
   .Assign [.Attribute (.Name "self" p6) f p7] (.Name f p8) p9]
section
variable {P : Program} {w : World} {A : Around} {E : Value → Shared → Prop} {h : Heap} {g : Array GenState} {d : Drawn} {t : Nat} {os : OsState}
/-- the bound ValueError.__init__ called -/
theorem call_mw {u x C t0 : Addr} {rest : List Value} {Q : Value → Shared → Prop} {nm q : Str} {N : Addr} {bs bm : List Value} {hdct : Bool} {sn : List Str} {sub : List Value} {ab : Bool} {col : Option Bool} {dd : Option Addr} {k0 k1 k2 k3 k5 : Option Value}
    (hC : h.get? C = some (excClassObj nm q C N bs bm hdct sn sub ab col dd k0 k1 k2 k3 k5 "ValueError.__new__")) (hx : h.get? x = some (HandSPX.excO C t0)) (hu : h.get? u = some (kxs_mw "ValueError.__init__" x)) (hz : rest.length ≤ sizeLine)
    (fin : ∀ h' t1, (∀ b o, b ≠ x → h.get? b = some o → h'.get? b = some o) → h'.get? x = some (HandSPX.excO C t1) → Q .none ⟨h', g, d, t, os⟩) : wpAny (model P w) A (call (.ref u) rest) Q E ⟨h, g, d, t, os⟩ := by
  refine wpAny_call (codeAny_of_tree ?_)
  show wpAny _ A.in1 (callAny (.ref u) ⟨rest, []⟩) _ _ _
  simp only [callAny]
  refine wpAny_bind (wpAny_load hu ?_)
  simp only [kxs_mw, show (Value.type "method-wrapper" == Value.type "method" || Value.type "method-wrapper" == Value.type "builtin_function_or_method" || Value.type "method-wrapper" == Value.type "method-wrapper") = true by decide, if_true]
  refine KFB.if_so (by decide) ?_
  refine wpAny_bind (check_bound_init PySem.F.excBase_ValueError.toExcCallFacts hC hx rfl ?_)
  refine wpAny_bind (wpAny_pure (wpAny_pure ?_))
  refine ⟨plainId_quiet PySem.F.excBase_ValueError.init.plain _, codeAny_builtin PySem.F.excBase_ValueError.initEntry ?_⟩
  exact exc_init_tree (cls := .ref C) (t0 := t0) (dv := none) (c2 := .none) (c3 := .none) (b4 := .bool false) hx hz fun h' k e _ => fin h' _ k e
end
theorem ev_sup {env : PySem.Env} {p0 p1 p2 p3 p4 : Pos} {m : Str} {j : Nat} (hpos : (p2.endLine == p4.line) = true) : eval (.Call (.Attribute (.Call (.Name "super" p0) [] [] p1) "__init__" p2) [.Constant (.str m) j p3] [] p4) env = (do
      let ov ← attributeBase (.Call (.Name "super" p0) [] [] p1) "__init__" env (eval (.Call (.Name "super" p0) [] [] p1) env)
      standAt p2.atName
      let (f, first) ← holding [ov] (getMethod ov "__init__" (do return (← importBound (.Call (.Name "super" p0) [] [] p1) env).getD true))
      callWith p4 f first (backTo p4 (starEach [.Constant (.str m) j p3] env)) []) := by
  have e1 : methodCallForm 1 (backTo p4 (starEach [.Constant (.str m) j p3] env)) [] = true := rfl
  have e2 : methodCallPos true (.Call (.Name "super" p0) [] [] p1) env p2 p4 = pure p4 := by
    unfold methodCallPos
    rw [if_pos (by rw [hpos]; rfl)]
  show (do
      let ov ← attributeBase (.Call (.Name "super" p0) [] [] p1) "__init__" env (eval (.Call (.Name "super" p0) [] [] p1) env)
      standAt p2.atName
      methodCall (.Call (.Name "super" p0) [] [] p1) "__init__" p2 p4 env ov 1 (backTo p4 (starEach [.Constant (.str m) j p3] env)) []) = _
  have e3 : ∀ ov, methodCall (.Call (.Name "super" p0) [] [] p1) "__init__" p2 p4 env ov 1 (backTo p4 (starEach [.Constant (.str m) j p3] env)) [] = (do
      let (f, first) ← holding [ov] (getMethod ov "__init__" (do return (← importBound (.Call (.Name "super" p0) [] [] p1) env).getD true))
      callWith p4 f first (backTo p4 (starEach [.Constant (.str m) j p3] env)) []) := fun ov => by
    unfold methodCall
    rw [e1, e2]
    unfold calleeOf
    rw [if_pos rfl]
    simp only [pure_bind]
  simp only [e3]
theorem run_sup {P : Program} {w : World} {A : Around} {K : Frag} {R : Result → Shared → Prop} {C fI cda cc x t0 : Addr} {name qual f m : Str} {params : Arguments} {scope : Scope} {j : Nat} {p0 p1 p2 p3 p4 p5 p6 p7 p8 p9 : Pos} {dV kV doc pm ct oc ccl cl : Value} {an od cdd cld : Option Addr} {osl ccs csl : Array (Option Value)}
    {vs : Array Value} {file : Str} {tf : Tok} {ar : Arg} {s : Shared} {v : Value} {mg mb : Str → Option Value} {args : Args}
    (KX : K.In s.heap) (lim : s.heap.NoLimit) (hg : s.heap.Ns mainGlobals mg) (hb : s.heap.Ns builtinsNs mb) (hmb : mb "super" = some (.type "super")) (hmg : mg "super" = none) (hroom : A.depth < recursionLimit)
    (T : OexC K C) (hno : findIn K (.ref C) f = some none) (lk : K.lookup fI = some ⟨oc, od, .func (ksFn name qual params (supBody m f j p0 p1 p2 p3 p4 p5 p6 p7 p8 p9) scope dV kV doc pm an (.ref cda) ct cc), osl⟩) (hcd : codeIn K (.ref cda) qual = true)
    (hcode : K.lookup cda = some ⟨ccl, cdd, .fields vs, ccs⟩) (hvs : vs[2]? = some (.str file tf)) (hfile : ((P.main.file : Str) == file) = true) (hcell : K.lookup cc = some ⟨cl, cld, .cell (some (.ref C)), csl⟩)
    (hp : (params.posonlyargs ++ params.args).head? = some ar) (har : ar.arg = "self") (hbind : BindsTo s (ksFn name qual params (supBody m f j p0 p1 p2 p3 p4 p5 p6 p7 p8 p9) scope dV kV doc pm an (.ref cda) ct cc) args [("self", .ref x), (f, v)])
    (hks : scope.names.lookup ("super" : Str) = some .globalImplicit) (hkc : scope.names.lookup ("__class__" : Str) = some .free) (hka : scope.names.lookup ("self" : Str) = some .local) (hkf : scope.names.lookup f = some .local) (hfs : (("self" : Str) == f) = false)
    (hnc : ∀ x ∈ scope.names, x.2 ≠ .cell) (hco : scope.isCoroutine = false) (hgen : scope.isGenerator = false) (hk : scope.kind = .function) (hfd : (f == ("__debug__" : Str)) = false) (hpos : (p2.endLine == p4.line) = true)
    (sup : ks_superIn K C C "__init__" = some (some (.builtin "ValueError.__init__"))) (subV : subIn K (.ref C) (.type "ValueError") = some true) (hmro : mroIn K C (.ref C) = some true) (op : nsIn K cStatics "thirdparty.any" = some none) (htop : (P.main.scope.names.lookup ("super" : Str)).isSome = false)
    (hx : s.heap.get? x = some (HandSPX.excO C t0)) (hKx : K.lookup x = none)
    (hR : ∀ h' tk' dx t1, (∀ b o, b ≠ x → s.heap.get? b = some o → h'.get? b = some o) → s.heap.objs.size ≤ dx → dx ≠ x → h'.get? x = some ({ cls := .ref C, dict := some dx, data := .fields #[.ref t1, .none, .none, .none, .bool false, .none] } : Obj) →
      h'.Ns1 dx (fun y => if y = f then some v else none) → R (.ok (.ret .none)) { s with heap := h', toks := tk' }) :
    codeAny (model P w) A (.call (.ref fI) args) R s := by
  obtain ⟨nm, q, N, bs, bm, sn, sub, ab, col, dd, k0, k1, k2, k3, k5, hCK, hbm⟩ := T.cls
  have hcl : clsIn K C = some { name := nm, bases := bs, mro := .ref C :: bm, ns := N, qualname := q, hasDict := true, slotNames := sn, subclasses := sub, abstract := ab, collection := col, hasDel := false } := by unfold clsIn; rw [hCK] <;> rfl
  refine ks_codeAny_call_defAt (fd := ksFn name qual params (supBody m f j p0 p1 p2 p3 p4 p5 p6 p7 p8 p9) scope dV kV doc pm an (.ref cda) ct cc) (body := supBody m f j p0 p1 p2 p3 p4 p5 p6 p7 p8 p9) (binds := [("self", .ref x), (f, v)]) hroom (KX _ _ lk) rfl lim (codeRec_of KX hcd) rfl hbind hnc
    (fun y hy => ?_) (fun h₁ hns hk₁ => ?_) hco hgen hk
  · simp only [List.mem_cons, List.not_mem_nil, or_false] at hy
    rcases hy with rfl | rfl
    · exact hka
    · exact hkf
  have xs : x < s.heap.objs.size := Heap.lt_size hx
  have K1 : K.In h₁ := fun b o e => hk₁ b o (KX b o e)
  have x1 := hk₁ _ _ hx
  have vself : ([(("self" : Str), Value.ref x), (f, v)].reverse).lookup ("self" : Str) = some (.ref x) := by
    show (match (("self" : Str) == f) with | true => some v | false => ([(("self" : Str), Value.ref x)]).lookup ("self" : Str)) = _
    rw [hfs]
    rfl
  have vf : ([(("self" : Str), Value.ref x), (f, v)].reverse).lookup f = some v := by
    show (match (f == f) with | true => some v | false => _) = _
    rw [show (f == f) = true from beq_iff_eq.mpr rfl]
  refine ks_wpAt_execs_cons (ks_wpAt_Expr_any (ks_wpAt_MethodCall (pl := (do return (← importBound (.Call (.Name "super" p0) [] [] p1) (ksEnv qual scope s.heap.objs.size fI (.ref cda) cc)).getD true)) ?_ (ev_sup hpos)) (by
    unfold interactive
    rw [show (callEnv (ksFn name qual params (supBody m f j p0 p1 p2 p3 p4 p5 p6 p7 p8 p9) scope dV kV doc pm an (.ref cda) ct cc) s.heap.objs.size fI).scope.kind = .function from hk]
    rfl) rfl)
  refine ks_wpAt_super_base (env := ksEnv qual scope s.heap.objs.size fI (.ref cda) cc) hks hkc (by decide) rfl (K1 _ _ lk) rfl hp rfl (K1 _ _ hcode) rfl hvs hfile htop ?_
  refine ks_loadName_global hk hks (loadGlobal_builtin (env := ksEnv qual scope s.heap.objs.size fI (.ref cda) cc) (hg.keeps hk₁) hmg (hb.keeps hk₁) hmb ⟨rfl, ?_⟩)
  refine wpAny_loadName_free hk hkc rfl ⟨_, K1 _ _ hcell, rfl⟩ ?_
  rw [har]
  refine wpAny_loadName_local hk hka hns vself ?_
  refine ks_wpAny_isType_cls (K1 _ _ hCK) rfl ⟨rfl, ?_⟩
  refine ks_wpAny_call_super (K1 _ _ hCK) rfl x1 rfl (fun c e => by cases e) (looks_mroIn K1 hmro) (fun h2 e2 hk2 => ?_)
  have K2 : K.In h2 := fun b o e => hk2 b o (K1 b o e)
  have x2 := hk2 _ _ x1
  have I2 : InstAt h2 x (HandSPX.excO C t0) C none := ⟨x2, rfl, rfl, trivial⟩
  have hI : Looks (model P w) h2 (isInstance (.ref x) (.type "ValueError")) true := I2.type.andThen (looks_subIn K2 subV)
  have sup' := sup
  unfold ks_superIn at sup'
  rw [hcl] at sup'
  refine kxs_getMethod kxs_ValueError e2 (looks_opaque K2 op) (l₀ := .ref C :: bm) (fun A Q E s k q => wpAny_bind ((looks_clsIn K2 hcl) A _ E s k (wpAny_pure q))) rfl K2 sup' hI (ks_ne K2 I2 hcl) (by decide) ?_
  have hk3 : ∀ b o, h2.get? b = some o → (h2.push (kxs_mw "ValueError.__init__" x)).get? b = some o := fun b o e => Heap.get?_push_of_some _ e
  have u3 : (h2.push (kxs_mw "ValueError.__init__" x)).get? h2.objs.size = some (kxs_mw "ValueError.__init__" x) := Heap.get?_push_at rfl rfl
  have x3 := hk3 _ _ x2
  refine kxs_callWith (i := "ValueError.__init__") (x := x) rfl ?_
  refine evalArgs_plain ?_
  show wpAny _ _ (spliced (backTo p4 (starEach [.Constant (.str m) j p3] _))) _ _ _
  refine spliced_lits [.Constant (.str m) j p3] [.str m] _ _ rfl fun us tk hus => ?_
  have hlen : us.length ≤ sizeLine := by
    rw [dataAre_len hus, sizeLine_eq]
    show 1 ≤ 16777216
    decide
  refine ⟨u3, ?_⟩
  refine call_mw (hk3 _ _ (hk2 _ _ (K1 _ _ hCK))) x3 u3 hlen fun h4 t1 hk4 x4 => ?_
  have keep4 : ∀ b o, b ≠ x → s.heap.get? b = some o → h4.get? b = some o := fun b o hb e => hk4 b o hb (hk3 _ _ (hk2 _ _ (hk₁ _ _ e)))
  have xC : x ≠ C := ks_ne K2 I2 hcl
  have K4 : K.In h4 := fun b o e => hk4 b o (fun z => by rw [z, hKx] at e; cases e) (hk3 _ _ (K2 b o e))
  have L4 : h4.Ns s.heap.objs.size (fun y => ([(("self" : Str), Value.ref x), (f, v)].reverse).lookup y) := by
    obtain ⟨oL, es, ep, hL, r⟩ := hns
    exact ⟨oL, es, ep, hk4 _ _ (fun z => absurd xs (by rw [← z]; exact Nat.lt_irrefl _)) (hk3 _ _ (hk2 _ _ hL)), r⟩
  refine ks_wpAt_execs_cons (ks_wpAt_Assign_Attr (wpAt_of_wpAny ?_))
  refine wpAny_Name (wpAny_loadName_local (env := ksEnv qual scope s.heap.objs.size fI (.ref cda) cc) hk hkf L4 vf ?_) hfd
  refine wpAny_Name (wpAny_loadName_local (env := ksEnv qual scope s.heap.objs.size fI (.ref cda) cc) hk hka L4 vself ?_) (by decide)
  refine PySem.W.set_plain K4 (ox := { cls := .ref C, dict := none, data := .fields #[.ref t1, .none, .none, .none, .bool false, .none] }) (od := none) ⟨x4, rfl, rfl, trivial⟩ T.sa ?_
  refine HandSPX.exc_osa K4 x4 hcl (show HandSPX.refsVE (.ref C :: bm) = true from hbm) rfl hno (fun h' tk' dx k5' dn dne hx5 hn => ?_)
  refine wpAt_of_wpAny (wpAny_execs_nil ?_)
  have hsz : s.heap.objs.size ≤ h4.objs.size := by
    obtain ⟨oL, es, ep, hL, r⟩ := L4
    exact Nat.le_of_lt (Heap.lt_size hL)
  exact hR h' _ dx t1 (fun b o hb e => k5' b o hb (keep4 b o hb e)) (Nat.le_trans hsz dn) dne hx5 hn
/-- what the written part says of such a class -/
structure SupC (P : Program) (K : Frag) (C : Addr) (f : Str) : Prop where
  T : OexC K C
  no : findIn K (.ref C) f = some none
  sup : ks_superIn K C C "__init__" = some (some (.builtin "ValueError.__init__"))
  subV : subIn K (.ref C) (.type "ValueError") = some true
  mro : mroIn K C (.ref C) = some true
  op : nsIn K cStatics "thirdparty.any" = some none
  top : (P.main.scope.names.lookup ("super" : Str)).isSome = false
  ini : ∃ (fI cda cc : Addr) (name qual m : Str) (params : Arguments) (scope : Scope) (j : Nat) (p0 p1 p2 p3 p4 p5 p6 p7 p8 p9 : Pos) (dV kV doc pm ct oc ccl cl : Value) (an od cdd cld : Option Addr) (osl ccs csl : Array (Option Value)) (vs : Array Value) (file : Str) (tf : Tok) (ar : Arg),
    findIn K (.ref C) "__init__" = some (some (.ref fI)) ∧ typeIn K (.ref fI) = some (.type "function") ∧
    K.lookup fI = some ⟨oc, od, .func (ksFn name qual params (supBody m f j p0 p1 p2 p3 p4 p5 p6 p7 p8 p9) scope dV kV doc pm an (.ref cda) ct cc), osl⟩ ∧ codeIn K (.ref cda) qual = true ∧
    K.lookup cda = some ⟨ccl, cdd, .fields vs, ccs⟩ ∧ vs[2]? = some (.str file tf) ∧ ((P.main.file : Str) == file) = true ∧ K.lookup cc = some ⟨cl, cld, .cell (some (.ref C)), csl⟩ ∧
    (params.posonlyargs ++ params.args).head? = some ar ∧ ar.arg = "self" ∧ (∀ (s : Shared) (u v : Value), BindsTo s (ksFn name qual params (supBody m f j p0 p1 p2 p3 p4 p5 p6 p7 p8 p9) scope dV kV doc pm an (.ref cda) ct cc) ⟨[u, v], []⟩ [("self", u), (f, v)]) ∧
    scope.names.lookup ("super" : Str) = some .globalImplicit ∧ scope.names.lookup ("__class__" : Str) = some .free ∧ scope.names.lookup ("self" : Str) = some .local ∧ scope.names.lookup f = some .local ∧ (("self" : Str) == f) = false ∧
    (∀ x ∈ scope.names, x.2 ≠ .cell) ∧ scope.isCoroutine = false ∧ scope.isGenerator = false ∧ scope.kind = .function ∧ (f == ("__debug__" : Str)) = false ∧ (p2.endLine == p4.line) = true ∧
    ∀ (s : Shared) (u v : Value), BindsTo s (ksFn name qual params (supBody m f j p0 p1 p2 p3 p4 p5 p6 p7 p8 p9) scope dV kV doc pm an (.ref cda) ct cc) ⟨[u], [(f, v)]⟩ [("self", u), (f, v)]
/-- C(e): its dict has e at f -/
def tMkS (C : Addr) (f : Str) (ta : TA) : L2.St → Hp → XK → Prop := fun σ H Q => ta σ H fun vs H1 => ∃ y, vs = [y] ∧ ∀ dx, H1 dx = none → Q (.ref C) (some dx) (upd H1 dx (.xd [(f, y)]))
section
variable {X : Cx} {e : PySem.Expr} {ta : TA} {p pos : Pos}
theorem pmk_sup {x f : Str} {C : Addr} (S : SupC X.prog X.K C f) (hr : Room 2 X.A) (hs : X.mg "super" = none) (hg : Gl X x) (hm : X.mg x = some (.ref C)) (ha : PA X [e] ta)
    (hdb : (x == ("__debug__" : Str)) = false := by decide) (he : starEach [e] X.env = (false, eval e X.env) :: starEach [] X.env := by rfl) (hpl : (backTo pos (starEach [] X.env)).any (·.1) = false := by rfl) :
    PMk X (.Call (.Name x p) [e] [] pos) (tMkS C f ta) := by
  intro pins s σ H Q I h
  have T := S.T
  obtain ⟨nm, q, N, bs, bm, sn, sub, ab, col, dd, k0, k1, k2, k3, k5, hC, hbm⟩ := T.cls
  obtain ⟨fI, cda, cc, name, qual, m, params, scope, j, p0, p1, p2, p3, p4, p5, p6, p7, p8, p9, dV, kV, doc, pm, ct, oc, ccl, cl, an, od, cdd, cld, osl, ccs, csl, vs0, file, tf, ar, g1, g2, g3, g4, g5, g6, g7, g8, g9, g10, g11, g12, g13, g14, g15, g16, g17, g18, g19, g20, g21, g22, g23⟩ := S.ini
  refine wpAny_Call_Name_kw (ld_glob I hg hm ?_ hdb)
  refine callWith_K (h₀ := X.base) I.ok.mod.kin T.kC (thn (ha.run pos pins s σ H _ I h) fun us s1 ⟨vs, H1, I1, r1, y, ev, q1⟩ => ⟨I1.kIn, ?_⟩) he hpl
  subst ev
  cases r1 with
  | @cons _ u _ ur ru rn =>
  cases rn
  show wpAny _ _ (call (.ref C) [u]) _ _ _
  obtain ⟨hp, gs, dr, tk, os⟩ := s1
  have hsz : hp.objs.size ≤ hp.objs.size + 1 := Nat.le_succ _
  have hn : H1 (hp.objs.size + 1) = none := I1.hok.fresh hsz
  have kk : ∀ b o, hp.get? b = some o → ((hp.push (kdv_tup [u])).push (HandSPX.excO C hp.objs.size)).get? b = some o := fun b o e => Heap.get?_push_of_some _ (Heap.get?_push_of_some _ e)
  have hget : ((hp.push (kdv_tup [u])).push (HandSPX.excO C hp.objs.size)).get? (hp.objs.size + 1) = some (HandSPX.excO C hp.objs.size) := by heap_get
  have I2 : Inv X pins σ (upd H1 (hp.objs.size + 1) (exo (hp.objs.size + 1) C none)) ⟨(hp.push (kdv_tup [u])).push (HandSPX.excO C hp.objs.size), gs, dr, tk, os⟩ :=
    I1.laid (t' := tk) (a := hp.objs.size + 1) (o := exo (hp.objs.size + 1) C none) (h' := (hp.push (kdv_tup [u])).push (HandSPX.excO C hp.objs.size)) kk hsz (exo_ok hget)
  generalize ea : hp.objs.size + 1 = a at *
  have e0 := I2.env0
  obtain ⟨mb, hb1, hb2⟩ := e0.mod.blt
  have bk : ∀ b o, X.base.get? b = some o → ((hp.push (kdv_tup [u])).push (HandSPX.excO C hp.objs.size)).get? b = some o := fun b o e => (e0.bs b o e).1
  have hKx : X.K.lookup a = none := by
    cases z : X.K.lookup a with
    | none => rfl
    | some o => exact absurd (Heap.lt_size (I1.kIn _ _ z)) (by rw [← ea]; show ¬ (hp.objs.size + 1 < hp.objs.size); omega)
  refine wpAny_call (HandSPX.call_own PySem.F.excBase_ValueError (fun Y => HandSPX.refsVE_contains Y bm hbm) (I1.kIn _ _ hC) (looks_findIn I1.kIn g1) (fun self => bind_fn I1.kIn self g2) (by rw [sizeLine_eq]; show 1 ≤ 16777216; decide) ?_)
  rw [ea]
  refine run_sup (s := ⟨(hp.push (kdv_tup [u])).push (HandSPX.excO C hp.objs.size), gs, dr, tk, os⟩) I2.kIn (e0.mod.nolimit.keeps bk) (e0.mod.glob.keeps bk) (hb1.keeps bk) ((hb2 _ (by decide +kernel)).trans (by first | boot_by_name | rfl | kernel_rfl)) hs (hr.make C [u] []).depth T S.no g3 g4 g5 g6 g7 g8 g9 g10 (g11 _ _ _) g12 g13 g14 g15 g16 g17 g18 g19 g20 g21 g22 S.sup S.subV S.mro S.op S.top hget hKx fun h' tk' dx t1 k dn dne hx5 hn5 => ⟨rfl, ?_⟩
  have asz : hp.objs.size ≤ a := by omega
  have eA : (upd H1 a (exo a C none)) a = some (exo a C none) := upd_same
  have hnd : (upd H1 a (exo a C none)) dx = none := I2.hok.fresh dn
  have hnd1 : H1 dx = none := by rw [upd_ne dne] at hnd; exact hnd
  have nd : ∀ {b : Addr} {o : Obj}, ((hp.push (kdv_tup [u])).push (HandSPX.excO C hp.objs.size)).get? b = some o → b ≠ dx := fun {b o} q => Nat.ne_of_lt (Nat.lt_of_lt_of_le (Heap.lt_size q) dn)
  have na : ∀ {b : Addr}, (upd H1 a (exo a C none)) b = none → b ≠ a := fun {b} n z => by
    rw [z, eA] at n
    cases n
  have Un1 : Un (frs X.stack) [] (upd H1 a (exo a C none)) (upd (upd (upd H1 a (exo a C none)) dx (exd dx [(f, y)])) a (exo a C (some dx))) ((hp.push (kdv_tup [u])).push (HandSPX.excO C hp.objs.size)) h' := {
    keep := fun b o q n _ _ => k b o (na n) q
    slot := fun b o q n _ _ => ⟨o.slots, k b o (na n) q⟩
    free := fun b o q n _ => by rw [upd_ne (na n), upd_ne (nd q)]; exact n
    there := fun b o q _ => by
      by_cases hb : b = a
      · exact ⟨_, by rw [hb]; exact hx5⟩
      · exact ⟨o, k b o hb q⟩
    tups := fun b xs q => by rw [upd_ne (at_ne eA q exo_tup), upd_ne (ne_of_none q hnd)]; exact q
    frzs := fun b o v q => by rw [upd_ne (at_ne eA q exo_frz), upd_ne (ne_of_none q hnd)]; exact q
    tbls := fun b ps q => ⟨#[], by rw [upd_ne (at_ne eA q exo_tbl), upd_ne (ne_of_none q hnd), q]; simp⟩ }
  have hok : HOk X.prog X.w (upd (upd (upd H1 a (exo a C none)) dx (exd dx [(f, y)])) a (exo a C (some dx))) h' := fun b o q => by
    by_cases hb : b = a
    · subst hb
      rw [upd_same] at q
      cases q
      exact exo_ok hx5
    · rw [upd_ne hb] at q
      by_cases hd : b = dx
      · subst hd
        rw [upd_same] at q
        cases q
        exact exd_ok hn5 (relO_put (fs := []) ru fun g => True.intro)
      · rw [upd_ne hd] at q
        exact (I2.hok b o q).stay (fun c v hc z => k c v (by
            rcases hc with hc | hc
            · rw [hc]
              exact hb
            · exact at_ne eA hc exo_own) z)
          (fun c hc => by rw [upd_ne (at_ne eA hc exo_own), upd_ne (ne_of_none hc hnd)]; exact hc) (fun c xs hc => by rw [upd_ne (at_ne eA hc exo_tup), upd_ne (ne_of_none hc hnd)]; exact hc)
  have eq1 : upd (del (upd (upd (upd H1 a (exo a C none)) dx (exd dx [(f, y)])) a (exo a C (some dx))) a) dx (.xd [(f, y)]) = upd H1 dx (.xd [(f, y)]) := by
    funext b
    by_cases hb : b = dx
    · rw [hb, upd_same, upd_same]
    · rw [upd_ne hb, upd_ne hb]
      by_cases hb2 : b = a
      · rw [hb2, del_same, hn]
      · rw [del_ne hb2, upd_ne hb2, upd_ne hb, upd_ne hb2]
  exact mk_end (raises_own T.exC T.tyC) I1 asz kk Un1 hok rfl I1.bare upd_same (by rw [upd_ne dne, upd_same]) hnd1 (by rw [eq1]; exact q1 dx hnd1)
end
end MR
set_option maxRecDepth 100000
set_option maxHeartbeats 4000000
/-! MirSue: raise C(e); the attribute of an error; what the head tells of an __init__ that says super(). -/
namespace MR
open PySem PySem.Spec PyProof.Rows L2
section
variable {X : Cx} {G : Gx} {W : WX} {pin : List Nat}
def sRaiseE (c : String) (f : Str) (A : E) : S := fun ρ => match A ρ with
  | .ok d ρ1 => .ex c [(f, d)] ρ1
  | .ex c' p ρ1 => .ex c' p ρ1
  | .no => .no
theorem s_raiseE (o : Ok X G W) {cs : List String} (k : ErC G cs) {c : String} {x f : Str} {e : PySem.Expr} {A : E} {p pos pos' : Pos} (S : SupC X.prog G.K (G.cls c) f) (hr : Room 2 X.A) (hs : X.mg "super" = none) (hx : X.mg x = some (.ref (G.cls c))) (he : PE X e (teOf G W A))
    (hg : Gl X x := by rfl) (hdb : (x == ("__debug__" : Str)) = false := by decide) (hst : starEach [e] X.env = (false, eval e X.env) :: starEach [] X.env := by rfl) (hpl : (backTo pos (starEach [] X.env)).any (·.1) = false := by rfl) :
    PS X (.Raise (some (.Call (.Name x p) [e] [] pos)) none pos') (tsOf G W pin (sRaiseE c f A)) := by
  rw [← o.K] at S
  refine PS.imp (ps_raise o.calm o.tk (pmk_sup S hr hs hg hx (pa_cons he pa_nil hst) hdb hst hpl)) ?_
  rintro D σ H ⟨ρ, F, fp, en, h⟩
  show teOf G W A σ H fun y H1 => _
  refine ⟨ρ, F, fp, en, ?_⟩
  unfold sRaiseE at h
  cases hA : A ρ with
  | ok d ρ1 =>
    rw [hA] at h
    intro y H1 F1 fp1 s1 e1 r1
    show (fun vs H1 => ∃ y, vs = [y] ∧ ∀ dx, H1 dx = none → W (.ref (G.cls c)) (some dx) σ (upd H1 dx (.xd [(f, y)]))) [y] H1
    refine ⟨y, rfl, fun dx hn => ?_⟩
    have fr : Fr H1 F1 (upd H1 dx (.xd [(f, y)])) (fun a => F1 a ∨ a = dx) := Fr.newF hn
    have := h (some dx) σ (upd H1 dx (.xd [(f, y)])) (fun a => F1 a ∨ a = dx) fp1 (s1.trans (fr.stp _)) (e1.fr fr) (Pn.refl _ _) (Or.inr ⟨dx, [(f, y)], rfl, Or.inr rfl, upd_same, .cons (r1.mono fr.stq) .nil⟩)
    rw [k.ecl] at this
    exact this
  | ex c' p' ρ1 =>
    rw [hA] at h
    exact fun d H' F' fp' s e' r => h d σ H' F' fp' s e' (Pn.refl _ _) r
  | no => rw [hA] at h; exact h
/-! ### err.f -/
def iFldX (cs : List String) (A : EV) (f : Str) : E := fun ρ => (A ρ).bind fun a ρ1 => match rs a ρ1 with
  | some (.err c fs) => if c ∈ cs then ofO (fs.lookup f) ρ1 else .no
  | _ => .no
def tFldX (K : Frag) (te : TE) (f : Str) : TE := fun σ H Q => te σ H fun x H1 => ∃ (p C dd : Addr) (fs : List (Str × V)) (v : V), x = .ref p ∧ ExcC K C ∧ PySem.W.findIn K (.ref C) f = some none ∧ H1 p = some (ErrO p (.ref C) (some dd)) ∧ H1 dd = some (.xd fs) ∧ fs.lookup f = some v ∧ Q v H1
theorem pe_fldX {e : PySem.Expr} {te : TE} {f : Str} {pos : Pos} (he : PE X e te) (hb : attributeBase e f X.env (eval e X.env) = eval e X.env) : PE X (.Attribute e f pos) (tFldX X.K te f) := by
  refine ⟨fun pins s σ H Q I h => ?_⟩
  refine attr_of hb (thn (he.run pins s σ H _ I h) fun u s1 hh => ?_)
  obtain ⟨x, H1, I1, rx, p, C, dd, fs, v, ex, T, hno, hp, hd, l, q⟩ := hh
  subst ex
  obtain rfl : u = Value.ref p := rx
  obtain ⟨⟨oe, vs, hget, hz, hdt⟩, _, _⟩ := I1.hok p _ hp
  have hxd : ObjOk X.prog X.w H1 s1.heap dd (.xd fs) := I1.hok dd _ hd
  obtain ⟨mA, hns, hr⟩ := hxd
  obtain ⟨od, ho, hl⟩ := lookIn_ns hns
  obtain ⟨u, hu, ru⟩ := RelO.some_of (v := v) (o := mA f) (by rw [← l]; exact hr f)
  have J : PySem.W.InstAt s1.heap p oe C (some od) := ⟨hget, hz.1, by unfold PySem.W.notCls; rw [hdt] <;> rfl, by rw [hz.2]; exact ho⟩
  exact HandSPX.exc_get I1.kIn J T.hg T.hk T.hs (PySem.W.findObj_own T.hd hno rfl (by rw [hl, hu])) (handed_of ru) ⟨v, H1, I1.tok _, ru, q⟩
theorem m_fldX (o : Ok X G W) {cs : List String} (k : ErC G cs) {e : PySem.Expr} {f : Str} {A : EV} {pos : Pos} (hn : ∀ c ∈ cs, NoAttr G.K (G.cls c) f) (he : PE X e (tvOf G W A)) (hb : attributeBase e f X.env (eval e X.env) = eval e X.env := by rfl) :
    PE X (.Attribute e f pos) (teOf G W (iFldX cs A f)) :=
  PE.imp (pe_fldX he hb) fun σ H Q ⟨ρ, F, fp, en, h⟩ => by
    refine oc_bind en h fun x a ρ1 H1 F1 fp1 s1 e1 r1 h1 => ?_
    split at h1
    · rename_i c fs hd
      split at h1
      · rename_i hc
        cases hl : fs.lookup f with
        | none => rw [hl] at h1; exact h1.elim
        | some d =>
          rw [hl] at h1
          have b := RAv.bz e1 r1 hd
          have hz : Fz G F1 H1 x (.err c fs) := by
            cases b with
            | fz h => exact h
          cases hz with
          | err0 _ _ => cases hl
          | @errD p dx _ vs _ f1 hp f2 hdx fa =>
            obtain ⟨v, l, r⟩ := fa.lookup hl
            rw [k.ecl] at hp
            exact ⟨p, G.cls c, dx, vs, v, rfl, by rw [o.K]; exact k.xc c hc, by rw [o.K]; exact hn c hc, hp, hdx, l, oc_ok h1 e1 (Fr.refl _ _) r⟩
      · exact h1.elim
    · exact h1.elim
end
/-! ### the head's word -/
theorem oexB_ok {K : Frag} {C : Addr} (h : oexB K C = true) : OexC K C := by
  obtain ⟨h1, h2⟩ := He.ba h
  obtain ⟨h3, h4⟩ := He.ba h2
  obtain ⟨h5, h6⟩ := He.ba h4
  obtain ⟨h7, h8⟩ := He.ba h6
  refine ⟨?_, of_decide_eq_true h3, of_decide_eq_true h5, of_decide_eq_true h7, h8⟩
  split at h1
  · rename_i T dd cd sl ho
    split at h1
    · rename_i C' bm k0 k1 k2 k3 n k5 hm hs
      simp only [Bool.and_eq_true, decide_eq_true_eq, Bool.not_eq_true'] at h1
      obtain ⟨rfl, rfl, rfl, hdel, hhd, hv⟩ := h1
      obtain ⟨nm, bs, mro, ns, qn, hd, sn, sub, ab, col, del⟩ := cd
      dsimp only at hm hdel hhd
      subst hm hdel hhd
      have hsl : sl = #[k0, k1, k2, k3, some (.builtin "ValueError.__new__"), k5] := by
        obtain ⟨l⟩ := sl
        simp only at hs
        rw [hs]
      subst hsl
      exact ⟨nm, qn, ns, bs, bm, sn, sub, ab, col, dd, k0, k1, k2, k3, k5, ho, hv⟩
    · cases h1
  · cases h1
theorem supC_of {P : Program} {K : Frag} {d : DefM} {c f m : Str} {j : Nat} {p0 p1 p2 p3 p4 p5 p6 p7 p8 p9 : Pos} {ar : Arg} (h : supB K P.main.file c f = true) (had : d.adr K = He.ma K (He.ga K c) "__init__") (hclo : d.clo = [("__class__" : Str)])
    (F : ∃ (oc : Value) (od : Option Addr) (dV kV doc pm : Value) (an : Option Addr) (cdv ct : Value) (cl : List (Str × Addr)) (osl : Array (Option Value)),
      K.lookup (d.adr K) = some ⟨oc, od, .func (PySem.W.fnX d.name d.qual (defArgs d.st) (defBody d.st) (defScope d.st) cl dV kV doc pm an cdv ct), osl⟩ ∧ PySem.W.codeIn K cdv d.qual = true ∧ cl.map (·.1) = d.clo)
    (htop : (P.main.scope.names.lookup ("super" : Str)).isSome = false) (hbody : defBody d.st = supBody m f j p0 p1 p2 p3 p4 p5 p6 p7 p8 p9) (g9 : ((defArgs d.st).posonlyargs ++ (defArgs d.st).args).head? = some ar) (g10 : ar.arg = "self")
    (g11 : ∀ (kV doc pm ct : Value) (an : Option Addr) (cda cc : Addr) (s : Shared) (u v : Value), BindsTo s (PySem.W.fnX d.name d.qual (defArgs d.st) (defBody d.st) (defScope d.st) [("__class__", cc)] .none kV doc pm an (.ref cda) ct) ⟨[u, v], []⟩ [("self", u), (f, v)])
    (g23 : ∀ (kV doc pm ct : Value) (an : Option Addr) (cda cc : Addr) (s : Shared) (u v : Value), BindsTo s (PySem.W.fnX d.name d.qual (defArgs d.st) (defBody d.st) (defScope d.st) [("__class__", cc)] .none kV doc pm an (.ref cda) ct) ⟨[u], [(f, v)]⟩ [("self", u), (f, v)])
    (g12 : (defScope d.st).names.lookup ("super" : Str) = some .globalImplicit) (g13 : (defScope d.st).names.lookup ("__class__" : Str) = some .free) (g14 : (defScope d.st).names.lookup ("self" : Str) = some .local) (g15 : (defScope d.st).names.lookup f = some .local) (g16 : (("self" : Str) == f) = false)
    (g17 : ∀ x ∈ (defScope d.st).names, x.2 ≠ .cell) (g18 : (defScope d.st).isCoroutine = false) (g19 : (defScope d.st).isGenerator = false) (g20 : (defScope d.st).kind = .function) (g21 : (f == ("__debug__" : Str)) = false) (g22 : (p2.endLine == p4.line) = true) : SupC P K (He.ga K c) f := by
  obtain ⟨h1, h⟩ := He.ba h
  obtain ⟨h2, h⟩ := He.ba h
  obtain ⟨h3, h⟩ := He.ba h
  obtain ⟨h4, h⟩ := He.ba h
  obtain ⟨h5, h⟩ := He.ba h
  obtain ⟨h6, h⟩ := He.ba h
  obtain ⟨h7, h⟩ := He.ba h
  obtain ⟨h8, h⟩ := He.ba h
  obtain ⟨oc, od, dV, kV, doc, pm, an, cdv, ct, cl, osl, lk, hcd, hcl⟩ := F
  refine ⟨oexB_ok h1, of_decide_eq_true h2, of_decide_eq_true h3, of_decide_eq_true h4, of_decide_eq_true h5, of_decide_eq_true h6, htop, ?_⟩
  rw [← had] at h
  rw [lk] at h
  dsimp only at h
  rw [hclo] at hcl
  match cl, hcl with
  | [(n, cc)], hcl =>
    have hn : n = "__class__" := by simpa using hcl
    subst hn
    obtain ⟨cda, ec⟩ := He.codeIn_ref hcd
    subst ec
    dsimp only at h
    obtain ⟨h0, hB⟩ := He.ba h
    have hdV : dV = .none := by
      cases dV <;> first | rfl | cases h0
    subst hdV
    obtain ⟨ha, hb⟩ := He.ba hB
    split at ha
    · rename_i e1
      split at ha
      · rename_i e2
        split at hb
        · rename_i e3
          have hD := of_decide_eq_true hb
          subst hD
          refine ⟨_, cda, cc, d.name, d.qual, m, defArgs d.st, defScope d.st, j, p0, p1, p2, p3, p4, p5, p6, p7, p8, p9, .none, kV, doc, pm, ct, oc, _, _, an, od, _, _, osl, _, _, _, _, _, ar, of_decide_eq_true h7, of_decide_eq_true h8, ?_, hcd, e1, e2, ha, e3, g9, g10, ?_, g12, g13, g14, g15, g16, g17, g18, g19, g20, g21, g22, ?_⟩
          · rw [← had, ← hbody]
            exact lk
          · intro s u v
            rw [← hbody]
            exact g11 _ _ _ _ _ _ _ s u v
          · intro s u v
            rw [← hbody]
            exact g23 _ _ _ _ _ _ _ s u v
        · cases hb
      · cases ha
    · cases ha
end MR
set_option maxRecDepth 100000
set_option maxHeartbeats 4000000
/-! MirTab: a def other than the law makes lambdas: the law holds its table and lends it. -/
namespace MR
open PySem PySem.Spec PyProof.Rows L2
/-! ### a lent table -/
/-- the promise of a def with a lent table: one slot more than it has parameters -/
def spG (G : Gx) (ks : List Bool) (f : Fn) : Sp := fun vs H Q E => ∃ w, spOf G (ks ++ [true]) f (vs ++ [w]) H Q E
structure FnMT (P : Program) (w : World) (K : Frag) (mg : Str → Option Value) (base : Heap) (G : Gx) (k : Nat) (x : Str) (ks : List Bool) (fn : Fn) : Prop where
  ex : ∃ (f : Addr) (fd : FuncData) (ps : List Str), mg x = some (.ref f) ∧ PySem.W.keepIn K (.ref f) = true ∧ Binds K fd ps [] ∧ FnG P w K mg base (L2.CX P w) k f fd ps (spG G ks fn)
section
variable {X : Cx} {G : Gx} {W : WX}
theorem RAs.snoc {σ : L2.St} {F : AP1} {H : Hp} {w : V} {b : Av} (hb : RAv G σ F H w b) : ∀ {vs : List V} {as : List Av}, RAs G σ F H vs as → RAs G σ F H (vs ++ [w]) (as ++ [b])
  | _, _, .nil => .cons hb .nil
  | _, _, .cons h t => .cons h (RAs.snoc hb t)
/-! ### x.append(e), a lambda's body -/
end
end MR
set_option maxRecDepth 100000
set_option maxHeartbeats 4000000
/-! MirLav: lambdas as values: kept in lists, called later from the frame that made them. -/
namespace MR
open PySem PySem.Spec PyProof.Rows L2
section
variable {X : Cx} {pins : List (Addr × Obj)} {σ : L2.St} {H : Hp} {s : Shared}
end
section
variable {X : Cx} {G : Gx} {W : WX}
/-- lambda q.1 of the frame acts as q.2 -/
structure LamB (X : Cx) (G : Gx) (lm : Nat → Option (Arguments × Expr × Scope)) (kL : Nat) (q : Nat × E) : Prop where
  ex : ∃ (params : Arguments) (body : Expr) (scope : Scope), lm q.1 = some (params, body, scope) ∧ LamX.LamS X.env.scope scope ∧ (∀ (n : Str) (cl : List (Str × Addr)) (pm cv ctv : Value), bindArgs (PySem.W.kla_fn "<lambda>" n params body scope cl pm cv ctv) ⟨[], []⟩ = pure []) ∧
    ∀ (A : Around) (outer : List PySem.Env) (s1 : Shared) (H1 : Hp) (E : XK) (f c' : Addr), Room kL (A.deeper (LamX.lamEnv X scope s1.heap.objs.size f c')) → PE (LamX.lamCx X A outer s1 H1 E scope f c') body (teOf G (fun cls d _ H => E cls d H) q.2)
/-- what a def that tries makes of lambda n -/
def wrk1 (okc : String → Bool) (fw : IV → Option IV) (qs : List (Nat × E)) (n : Nat) : E := fun ρ => match qs.lookup n with
  | some B => (match B ρ with
    | .ok _ ρ1 => ofO (fw .non) ρ1
    | .ex c p ρ1 => if okc c = true then ofO (fw (.err c p)) ρ1 else .no
    | .no => .no)
  | none => .no
end
end MR
set_option maxRecDepth 100000
set_option maxHeartbeats 4000000
/-! MirLon: defs whose lambdas are values: within them the Gx knows the frame's cells. -/
namespace MR
open PySem PySem.Spec PyProof.Rows L2
def Gx.on (G : Gx) (c : Frm) : Gx := { G with cl := some c }
section
variable {G : Gx} {c : Frm} {F : AP1} {H : Hp}
mutual
theorem Fz.on (h0 : G.cl = none) : ∀ {v : V} {d : IV}, Fz G F H v d → Fz (G.on c) F H v d
  | _, _, .non => .non
  | _, _, .bl b => .bl b
  | _, _, .int i => .int i
  | _, _, .str s => .str s
  | _, _, .ty n => .ty n
  | _, _, .cl n => .cl (G := G.on c) n
  | _, _, .tup h a z => .tup (G := G.on c) h (FzA.on h0 a) z
  | _, _, .lst f h a z => .lst f h (FzA.on h0 a) z
  | _, _, .scr h z => .scr (G := G.on c) h z
  | _, _, .dic f h a z => .dic f h (FzP.on h0 a) z
  | _, _, .ins f h a => .ins (G := G.on c) f h (FzP.on h0 a)
  | _, _, .err0 f h => .err0 (G := G.on c) f h
  | _, _, .errD f h f2 h2 a => .errD (G := G.on c) f h f2 h2 (FzP.on h0 a)
  | _, _, .lam g e h f hc => by rw [h0] at e; cases e
  | _, _, .dnk g h a z => .dnk (G := G.on c) g h (FzN.on h0 a) z
theorem FzN.on (h0 : G.cl = none) : ∀ {L : List NDict.DRow} {ks xs : List IV}, FzN G F H L ks xs → FzN (G.on c) F H L ks xs
  | _, _, _, .nil => .nil
  | _, _, _, .cons e z k v t => .cons e z (Fz.on h0 k) (Fz.on h0 v) (FzN.on h0 t)
theorem FzA.on (h0 : G.cl = none) : ∀ {vs : List V} {ds : List IV}, FzA G F H vs ds → FzA (G.on c) F H vs ds
  | _, _, .nil => .nil
  | _, _, .cons h t => .cons (Fz.on h0 h) (FzA.on h0 t)
theorem FzP.on (h0 : G.cl = none) : ∀ {κ : Type} {vs : List (κ × V)} {ds : List (κ × IV)}, FzP G F H vs ds → FzP (G.on c) F H vs ds
  | _, _, _, .nil => .nil
  | _, _, _, .cons h t => .cons (Fz.on h0 h) (FzP.on h0 t)
end
theorem DsAt.on (h0 : G.cl = none) : ∀ {ps : List Addr} {ds : List IV}, DsAt G F H ps ds → DsAt (G.on c) F H ps ds
  | _, _, .nil => .nil
  | _, _, .cons h a z t => .cons h (a.on h0) z (t.on h0)
theorem LsAt.on (h0 : G.cl = none) : ∀ {ps : List Addr} {ds : List IV}, LsAt G F H ps ds → LsAt (G.on c) F H ps ds
  | _, _, .nil => .nil
  | _, _, .cons h a z t => .cons h (a.on h0) z (t.on h0)
theorem OwP.on (h0 : G.cl = none) : ∀ {ps : List Addr} {vs : List (Str × V)} {ds : List (Str × IV)}, OwP G F H ps vs ds → OwP (G.on c) F H ps vs ds
  | _, _, _, .nil => .nil
  | _, _, _, .flat h a z t => .flat h (a.on h0) z (t.on h0)
  | _, _, _, .nest h a z t => .nest h (a.on h0) z (t.on h0)
theorem Own.on (h0 : G.cl = none) {v : V} {d : IV} {q : AP1} (h : Own G F H v d q) : Own (G.on c) F H v d q := by
  cases h with
  | lst h a z e => exact .lst h (a.on h0) z e
  | dic h a z e => exact .dic h (a.on h0) z e
  | ins h a e => exact .ins (G := G.on c) h (a.on h0) e
  | drw h1 h2 f h3 n1 z1 z2 e => exact .drw h1 h2 f h3 n1 z1 z2 e
  | prs h z e => exact .prs h z e
  | lds h a nd np z e => exact .lds h (a.on h0) nd np z e
  | dnk g h a z e => exact .dnk (G := G.on c) g h (a.on h0) z e
  | tpl h a z hl b y e => exact .tpl (G := G.on c) h (a.on h0) z hl (b.on h0) y e
  | tab h y t k e => exact .tab (G := G.on c) h y t k e
  | sht h a nd e => exact .sht (G := G.on c) h (a.on h0) nd e
theorem EnvR.on (h0 : G.cl = none) {σ : L2.St} {ρ : Env} {fp : FPt} (e : EnvR G F H σ ρ fp) : EnvR (G.on c) F H σ ρ fp :=
  ⟨fun i d z => let ⟨v, e1, e2⟩ := e.fz i d z; ⟨v, e1, e2.on h0⟩, fun i d z => let ⟨v, e1, e2⟩ := e.ow i d z; ⟨v, e1, e2.on h0⟩, e.dis, e.nf, e.tr, e.ni, e.ft, e.len⟩
/-- what holds no lambda, at a glance -/
def plainR : IV → Bool
  | .non => true
  | .bl _ => true
  | .int _ => true
  | .str _ => true
  | _ => false
def plainO : IV → Bool
  | .drw _ _ _ _ => true
  | .prs _ => true
  | .tab _ => true
  | _ => false
theorem Fz.off {v : V} {d : IV} (h : Fz (G.on c) F H v d) (p : plainR d = true) : Fz G F H v d := by
  cases h with
  | non => exact .non
  | bl b => exact .bl b
  | int i => exact .int i
  | str s => exact .str s
  | _ => cases p
theorem Own.off {v : V} {d : IV} {q : AP1} (h : Own (G.on c) F H v d q) (p : plainO d = true) : Own G F H v d q := by
  cases h with
  | drw h1 h2 f h3 n1 z1 z2 e => exact .drw h1 h2 f h3 n1 z1 z2 e
  | prs h z e => exact .prs h z e
  | tab h y t k e => exact .tab (G := G) h y t k e
  | _ => cases p
end
end MR
set_option maxRecDepth 100000
set_option maxHeartbeats 4000000
/-! MirLcx: [f(w) for w in xs], the w's lambdas of the frame. -/
namespace MR
open PySem PySem.Spec PyProof.Rows L2
section
variable {X : Cx}
end
section
variable {X : Cx} {G : Gx} {W : WX}
def wrkAll (okc : String → Bool) (fw : IV → Option IV) (qs : List (Nat × E)) : List IV → Env → Rz (List IV)
  | [], ρ => .ok [] ρ
  | .lam n :: ds, ρ => (match wrk1 okc fw qs n ρ with
    | .ok y ρ1 => (wrkAll okc fw qs ds ρ1).bind fun ys ρ2 => .ok (y :: ys) ρ2
    | _ => .no)
  | _, _ => .no
structure LwW (G : Gx) (W : WX) (σ : L2.St) (H1 : Hp) (F1 : AP1) (fp1 : FPt) (ds : List IV) (okc : String → Bool) (fw : IV → Option IV) (qs : List (Nat × E)) (Q : VK) (D : Addr) (i : Nat) (H : Hp) (ρ : Env) (F : AP1) (fp : FPt) (acc : List V) (xs : List IV) : Prop where
  stp : Stp H1 F1 (un fp1) H F (un fp)
  env : EnvR G F H σ ρ fp
  at_ : H D = some (.lst acc)
  nf : ¬ F D
  np : ¬ un fp D
  fz : FzA G F H acc xs
  len : acc.length ≤ i
  rest : OcO G W σ H1 F1 fp1 ((wrkAll okc fw qs (ds.drop i) ρ).bind fun ys ρ' => .ok (.lst (xs ++ ys)) ρ') Q
end
end MR
set_option maxRecDepth 100000
set_option maxHeartbeats 4000000
/-! MirIx: l.count(x), l.index(x) for data. -/
namespace MR
open PySem PySem.Spec PyProof.Rows L2
section
variable {X : Cx} {G : Gx} {W : WX}
end
end MR
set_option maxRecDepth 100000
set_option maxHeartbeats 4000000
/-! MirVe: isinstance(err, ValueError). -/
namespace MR
open PySem PySem.Spec PyProof.Rows L2
section
variable {X : Cx} {G : Gx} {W : WX} {cs : List String}
end
end MR
set_option maxRecDepth 100000
set_option maxHeartbeats 4000000
/-! MirSys: repr of data with dicts; the law knows that sys.modules stands. -/
namespace MR
open PySem PySem.Spec PyProof.Rows L2
def keyD : Key → PyData
  | .inl i => .int i
  | .inr s => .str s
mutual
def pdX : IV → PyData
  | .bl b => .bool b
  | .int i => .int i
  | .str s => .str s
  | .tup xs => .tuple (pdXA xs)
  | .lst xs => .list (pdXA xs)
  | .dic kvs => .dict (pdXP kvs)
  | _ => .none
def pdXA : List IV → List PyData
  | [] => []
  | x :: xs => pdX x :: pdXA xs
def pdXP : List (Key × IV) → List (PyData × PyData)
  | [] => []
  | (k, x) :: xs => (keyD k, pdX x) :: pdXP xs
end
mutual
def plX : IV → Bool
  | .non => true
  | .bl _ => true
  | .int _ => true
  | .str _ => true
  | .tup xs => plXA xs
  | .lst xs => plXA xs
  | .dic kvs => plXP kvs
  | _ => false
def plXA : List IV → Bool
  | [] => true
  | x :: xs => plX x && plXA xs
def plXP : List (Key × IV) → Bool
  | [] => true
  | (_, x) :: xs => plX x && plXP xs
end
section
variable {X : Cx} {G : Gx} {W : WX} {pins : List (Addr × Obj)} {σ : L2.St} {H : Hp} {s : Shared} {F : AP1}
mutual
theorem Fz.rdX (I : Inv X pins σ H s) (hK : X.K = G.K) (hy : ∃ o u, H sysModules = some (.frz o u)) : ∀ {v : V} {d : IV}, Fz G F H v d → plX d = true → ∀ {u : Value}, RelV v u → ∃ as, Reads s.heap u (pdX d) as ∧ sysModules ∉ as
  | _, _, .non, _, u, r => by cases r; exact ⟨[], .none, by simp⟩
  | _, _, .bl b, _, u, r => by cases r; exact ⟨[], .bool b, by simp⟩
  | _, _, .int i, _, u, r => by obtain ⟨t, rfl⟩ := r; exact ⟨[], .int i t, by simp⟩
  | _, _, .str z, _, u, r => by obtain ⟨t, rfl⟩ := r; exact ⟨[], .str z t, by simp⟩
  | _, _, .ty n, h, u, r => by simp [plX] at h
  | _, _, .cl n, h, u, r => by simp [plX] at h
  | _, _, .tup (vs := vs) h a z, p, u, r => by
    cases r
    rw [← hK] at h
    obtain ⟨its, rv, ⟨o, ho, hc, n, hd⟩, _⟩ := I.tuple h
    obtain ⟨as, q1, q2⟩ := FzA.rdX I hK hy a (by simpa only [plX] using p) rv
    exact ⟨as, .tuple ho hc hd (by simpa using q1), q2⟩
  | _, _, .lst (p := p) f h a z, pp, u, r => by
    cases r
    obtain ⟨its, rv, ⟨o, n, ho, hc, _, hd⟩, _⟩ := I.list (SqL.of h)
    obtain ⟨as, q1, q2⟩ := FzA.rdX I hK hy a (by simpa only [plX] using pp) rv
    refine ⟨p :: as, .list ho hc hd (by simpa using q1), ?_⟩
    intro m
    rcases List.mem_cons.mp m with e | m
    · obtain ⟨o1, u1, e1⟩ := hy
      rw [e, h] at e1
      cases e1
    · exact q2 m
  | _, _, .scr h z, p, u, r => by simp [plX] at p
  | _, _, .dic (p := p) f h a z, pp, u, r => by
    cases r
    obtain ⟨_, hsm, ws, kv, o, es, ep, ho, hx, hdt, _, prs, _⟩ : _ ∧ (p == sysModules) = false ∧ ∃ vs, KV _ vs ∧ s.heap.DictOf (mixKind X.prog X.w) p vs := I.hok p _ h
    obtain ⟨as, bs, q1, q2, q3, q4⟩ := FzP.rdX I hK hy a (by simpa only [plX] using pp) kv prs
    refine ⟨p :: as ++ bs, .dict ho hx.1 hdt q1 q2, ?_⟩
    intro m
    rcases List.mem_append.mp m with m | m
    · rcases List.mem_cons.mp m with e | m
      · rw [← e] at hsm
        simp at hsm
      · exact q3 m
    · exact q4 m
  | _, _, .ins f h a, p, u, r => by simp [plX] at p
  | _, _, .err0 f h, p, u, r => by simp [plX] at p
  | _, _, .errD f h f2 h2 a, p, u, r => by simp [plX] at p
  | _, _, .lam g e h f hc, p, u, r => by simp [plX] at p
  | _, _, .dnk g h a z, p, u, r => by simp [plX] at p
theorem FzA.rdX (I : Inv X pins σ H s) (hK : X.K = G.K) (hy : ∃ o u, H sysModules = some (.frz o u)) : ∀ {vs : List V} {ds : List IV}, FzA G F H vs ds → plXA ds = true → ∀ {us : List Value}, Vals vs us → ∃ as, ReadsAll s.heap us (pdXA ds) as ∧ sysModules ∉ as
  | _, _, .nil, _, us, r => by cases r; exact ⟨[], .nil, by simp⟩
  | _, _, .cons h t, p, us, r => by
    simp only [plXA, Bool.and_eq_true] at p
    cases r with
    | cons r1 r2 =>
      obtain ⟨as, q1, q2⟩ := Fz.rdX I hK hy h p.1 r1
      obtain ⟨bs, q3, q4⟩ := FzA.rdX I hK hy t p.2 r2
      exact ⟨as ++ bs, .cons q1 q3, fun m => (List.mem_append.mp m).elim q2 q4⟩
theorem FzP.rdX (I : Inv X pins σ H s) (hK : X.K = G.K) (hy : ∃ o u, H sysModules = some (.frz o u)) : ∀ {vs : List (Key × V)} {ds : List (Key × IV)}, FzP G F H vs ds → plXP ds = true → ∀ {ws : List (Key × Value)} {es : List DictEntry}, KV vs ws → Pairs (mixKind X.prog X.w) es ws →
    ∃ as bs, ReadsAll s.heap (es.map (·.key)) ((pdXP ds).map (·.1)) as ∧ ReadsAll s.heap (es.map (·.val)) ((pdXP ds).map (·.2)) bs ∧ sysModules ∉ as ∧ sysModules ∉ bs
  | _, _, .nil, _, ws, es, r, q => by
    cases r
    cases q
    exact ⟨[], [], .nil, .nil, by simp, by simp⟩
  | _, _, .cons (k := k) h t, p, ws, es, r, q => by
    simp only [plXP, Bool.and_eq_true] at p
    cases r with
    | cons r1 r2 =>
      cases q with
      | @cons en _ _ _ k1 k2 k3 =>
        obtain ⟨e1, e2⟩ := r1
        obtain ⟨as, q1, q2⟩ := Fz.rdX I hK hy h p.1 e2
        obtain ⟨bs, cs, q3, q4, q5, q6⟩ := FzP.rdX I hK hy t p.2 r2 k3
        rw [← k2] at q1
        have e1 : k = _ := e1
        rw [← e1] at k1
        have hk : ∃ as, Reads s.heap en.key (keyD k) as ∧ sysModules ∉ as := by
          rcases keyIs_shape k1 with ⟨i, tk, e3, e4⟩ | ⟨x, tk, e3, e4⟩
          · rw [e3, e4]; exact ⟨[], .int i tk, by simp⟩
          · rw [e3, e4]; exact ⟨[], .str x tk, by simp⟩
        obtain ⟨ds, q7, q8⟩ := hk
        exact ⟨ds ++ bs, as ++ cs, .cons q7 q3, .cons q1 q4, fun m => (List.mem_append.mp m).elim q8 q5, fun m => (List.mem_append.mp m).elim q2 q6⟩
end
end
section
variable {X : Cx} {G : Gx} {W : WX}
def rpX (d : IV) : Bool := plX d && ((pdX d).showable && (decide ((pdX d).shown.length ≤ sizeLine) && decide ((pdX d).depth ≤ 60)))
/-- repr(x); i: the slot of the table -/
def iRepr (i : Nat) (A : E) : E := fun ρ => (A ρ).bind fun d ρ1 => match ρ1[i]? with
  | some (.ow (.tab _)) => if rpX d = true then .ok (.str (pdX d).shown) ρ1 else .no
  | _ => .no
def rReprX (G : Gx) : List V → Hp → VK → Prop := fun xs H Q => ∃ v d F, xs = [v] ∧ Fz G F H v d ∧ (∃ o u, H sysModules = some (.frz o u)) ∧ rpX d = true ∧ Q (.str (pdX d).shown) H
theorem c_reprX (hK : X.K = G.K) (hG : X.A.guards = some []) (hu : X.A.units + 80 < cLine) : CallR X (.builtin "repr") (rReprX G) := by
  intro pins s σ H xs us Q I r h
  obtain ⟨v, d, F, rfl, hf, hy, hr, q⟩ := h
  unfold rpX at hr
  simp only [Bool.and_eq_true, decide_eq_true_eq] at hr
  obtain ⟨p, h1, h3, h4⟩ := hr
  obtain ⟨u, rfl, ru⟩ := r.one
  obtain ⟨as, rd, nm⟩ := hf.rdX I hK hy p ru
  have fin : ∀ a, u = .ref a → wpAny (model X.prog X.w) X.A (call (.builtin "repr") [u]) (EP X pins σ Q) X.xe s := by
    rintro a rfl
    refine repr_of_reads' rd h1 (fun _ => nm) hG (by omega) (fun b o e => e) (fun h' u tk k => ?_) h3
    exact ⟨.str (pdX d).shown, H, I.kept k, ⟨u, rfl⟩, q⟩
  cases hf with
  | non =>
    cases ru
    refine P.repr_of_none ?_
    exact ⟨.str "None", H, I.tok _, ⟨_, rfl⟩, by simpa only [pdX, PyData.shown] using q⟩
  | bl b =>
    cases ru
    refine P.repr_of_bool ?_
    exact ⟨.str (if b then "True" else "False"), H, I.tok _, ⟨_, rfl⟩, by simpa only [pdX, PyData.shown] using q⟩
  | int i =>
    obtain ⟨t, rfl⟩ := ru
    refine P.repr_of_int (by simpa [pdX, PyData.showable] using h1) ?_
    exact ⟨.str (toString i), H, I.tok _, ⟨_, rfl⟩, by simpa only [pdX, PyData.shown] using q⟩
  | str x =>
    obtain ⟨t, rfl⟩ := ru
    refine P.repr_of_str ?_ (by simpa only [pdX, PyData.shown] using h3)
    exact ⟨.str (reprText x), H, I.kept (t' := s.toks + 1) fun b o e => e, ⟨_, rfl⟩, by simpa only [pdX, PyData.shown] using q⟩
  | ty n => simp [plX] at p
  | cl n => cases ru; exact fin _ rfl
  | _ => cases ru; exact fin _ rfl
theorem m_reprX (o : Ok X G W) (hG : X.A.guards = some []) (hs : G.sys = true) (i : Nat) {e : Expr} {p pos : Pos} {A : E} (hg : Gl X "repr") (hm : X.mg "repr" = none) (ha : PE X e (teOf G W A)) (he : starEach [e] X.env = [(false, eval e X.env)] := by rfl) :
    PE X (.Call (.Name "repr" p) [e] [] pos) (teOf G W (iRepr i A)) := by
  have hc : CallR X (.builtin "repr") (rReprX G) := c_reprX o.K hG (by have := o.hu; omega)
  refine PE.imp (pe_callB hc hg hm rfl (pa_cons ha pa_nil he) (by decide) (by decide) he rfl) ?_
  rintro σ H Q ⟨ρ, F, fp, en, h⟩
  refine oc_bind en h fun v d ρ1 H1 F1 fp1 s1 e1 r1 h1 => ?_
  split at h1
  · rename_i hi
    split at h1
    · rename_i hp
      obtain ⟨w, hw, ow⟩ := e1.ow i _ hi
      cases ow with
      | tab hP hy ht hcd hq => exact ⟨v, d, F1, rfl, r1, hy hs, hp, h1 _ _ F1 fp1 (Stp.refl _ _ _) e1 (.str _)⟩
    · exact h1.elim
  · exact h1.elim
end
end MR
set_option maxRecDepth 100000
set_option maxHeartbeats 4000000
/-! KxA: an own error class with an __init__, called with keywords. -/
namespace PySem
namespace MKx
open HandSPX Builtin Builtin.ObjectAttr
section
variable {M : Model} {A : Around} {E : Value → Shared → Prop} {h : Heap} {g : Array GenState} {d : Drawn} {t : Nat} {os : OsState}
variable {nm q : Str} {C N : Addr} {bs bm bmB : List Value} {hdct : Bool} {sn : List Str} {sub : List Value} {ab : Bool} {col : Option Bool} {dd : Option Addr} {k0 k1 k2 k3 k5 : Option Value} {B newId initId : String}
end
section
variable {prog : Program} {w : World} {A : Around} {E : Value → Shared → Prop} {R : Result → Shared → Prop} {h : Heap} {g : Array GenState} {d : Drawn} {t : Nat} {os : OsState}
variable {nm q : Str} {C N : Addr} {bs bm bmB : List Value} {hdct : Bool} {sn : List Str} {sub : List Value} {ab : Bool} {col : Option Bool} {dd : Option Addr} {k0 k1 k2 k3 k5 : Option Value} {B newId initId : String}
end
end MKx
end PySem
set_option maxRecDepth 100000
set_option maxHeartbeats 4000000
/-! MirMk: errors made as values, by position and by name. -/
namespace MR
open PySem PySem.Spec PyProof.Rows PySem.W PySem.Calls L2
section
variable {X : Cx} {kws : List Keyword} {ta : TA} {p pos : Pos}
end
section
variable {X : Cx} {G : Gx} {W : WX}
end
end MR
set_option maxRecDepth 100000
set_option maxHeartbeats 4000000
/-! MirLws: a law that knows that sys.modules stands and holds the tables of some defs. -/
namespace MR
open PySem PySem.Spec PyProof.Rows L2
/-- the tables, all empty -/
def tabsH (H : Hp) : List Addr → Hp
  | [] => H
  | t :: ts => upd (tabsH H ts) t (.tbl #[])
theorem tabsH_in {H : Hp} {t : Addr} : ∀ {ts : List Addr}, t ∈ ts → tabsH H ts t = some (.tbl #[])
  | u :: ts, h => by
    unfold tabsH
    by_cases e : t = u
    · rw [e, upd_same]
    · rw [upd_ne e]
      exact tabsH_in ((List.mem_cons.mp h).resolve_left e)
theorem tabsH_out {H : Hp} {t : Addr} : ∀ {ts : List Addr}, t ∉ ts → tabsH H ts t = H t
  | [], _ => rfl
  | u :: ts, h => by
    unfold tabsH
    rw [upd_ne fun e => h (by rw [e]; exact List.mem_cons_self)]
    exact tabsH_out fun m => h (List.mem_cons_of_mem _ m)
/-- what the law finds: the tables, sys.modules -/
def lawH (H : Hp) (ts : List Addr) (oS : Obj) : Hp := upd (tabsH H ts) sysModules (.frz oS LamI)
theorem tabsH_ok {P : Program} {w : World} {H0 : Hp} {h : Heap} (hok0 : HOk P w H0 h) : ∀ {ts : List Addr}, ts.Nodup → (∀ t ∈ ts, H0 t = none ∧ h.get? t = some { cls := .none, data := .fields #[] }) → HOk P w (tabsH H0 ts) h
  | [], _, _ => hok0
  | t :: ts, nd, ht => by
    have nd2 := List.nodup_cons.mp nd
    unfold tabsH
    exact L2.HOk.laidN (tabsH_ok hok0 nd2.2 fun u hu => ht u (List.mem_cons_of_mem _ hu)) (fun _ _ e => e) (by rw [tabsH_out nd2.1]; exact (ht t List.mem_cons_self).1) (ht t List.mem_cons_self).2
theorem law_callM {P : Program} {w : World} {K : Frag} {mg mb : Str → Option Value} {k : Nat} {fa a : Addr} {ct : List (Addr × Addr)} {fd : FuncData} {x : Str} {sp : Sp} {s1 : Shared} {vs : List Value} {ns : List Int} (KX : K.In s1.heap) (hns : s1.heap.Ns mainGlobals mg) (hb : s1.heap.Ns builtinsNs mb)
    (hbb : ∀ x : Str, x ≠ "__name__" → mb x = bootBuiltins x) (hlim : s1.heap.NoLimit) (hg : s1.gens = #[]) (ha : s1.heap.get? a = some { cls := .type "list", data := .seq vs.toArray }) (hi : IntsAre vs ns) (hl : ns.length ≤ sizeLine) (hr : Room k callerA)
    (hbm : ∃ (bm : Addr) (ob : Obj), mg "__builtins__" = some (.ref bm) ∧ bm ≠ builtinsNs ∧ s1.heap.get? bm = some ob ∧ ob.cls = .type "module" ∧ ob.dict = some builtinsNs ∧ ob.data = .plain)
    (hT : ∀ q ∈ ct, s1.heap.get? q.2 = some { cls := .none, data := .fields #[] }) (nT : ∀ q ∈ ct, K.lookup q.2 = none) (C : ∀ q ∈ ct, PySem.W.CodeHd s1.heap q.1 q.2) (nd : (ct.map (·.2)).Nodup) (hY : SysD s1.heap) (nY : K.lookup sysModules = none)
    (F : ∀ base : Heap, K.In base → base.Ns mainGlobals mg → (∀ q ∈ ct, LamX.TabB base mg q.1 q.2) → FnG P w K mg base (L2.CX P w) k fa fd [x] sp) (hbind : ∀ (s : Shared) (u : Value), BindsTo s fd ⟨[u], []⟩ [(x, u)])
    (hsp : ∀ (H : Hp) (oS : Obj), Only H → (∀ q ∈ ct, q.2 ≠ sysModules) → SqL K (lawH H (ct.map (·.2)) oS) a (ns.map V.int) → sp [.ref a] (lawH H (ct.map (·.2)) oS) (fun v _ => v = .bl true) fun _ _ _ => False) :
    codeAny (model P w) callerA (.call (.ref fa) ⟨[.ref a], []⟩) (fun r s' => r = .ok (.ret (.bool true)) ∧ OldK s1.heap s'.heap ∧ s'.os = s1.os ∧ AllBare s'.gens) s1 := by
  obtain ⟨H0, hO, hS, hok0, hA, hK⟩ := script_at (P := P) (w := w) KX ha hi hl
  obtain ⟨oS, eS, pS, hs1, hs2⟩ := hY
  have sT : ∀ q ∈ ct, q.2 ≠ sysModules := fun q hq z => by
    have h := hT q hq
    rw [z, hs1] at h
    cases h
    cases hs2
  have sa : sysModules ≠ a := fun z => by
    rw [z, ha] at hs1
    cases hs1
    cases hs2
  have aT : ∀ q ∈ ct, q.2 ≠ a := fun q hq z => by
    have h := hT q hq
    rw [z, ha] at h
    cases h
  have mem_ : ∀ {b : Addr}, b ∈ ct.map (·.2) → ∃ q ∈ ct, q.2 = b := fun {b} h => by simpa using h
  have nA : a ∉ ct.map (·.2) := fun h => let ⟨q, hq, e⟩ := mem_ h; aT q hq e
  have nS : sysModules ∉ ct.map (·.2) := fun h => let ⟨q, hq, e⟩ := mem_ h; sT q hq e
  have nSys : (tabsH H0 (ct.map (·.2))) sysModules = none := by
    rw [tabsH_out nS]
    exact Classical.byContradiction fun z => sa (hA sysModules z)
  have hok : HOk P w (lawH H0 (ct.map (·.2)) oS) s1.heap := L2.HOk.laidN (tabsH_ok hok0 nd fun b hb => by
    obtain ⟨q, hq, rfl⟩ := mem_ hb
    exact ⟨Classical.byContradiction fun z => aT q hq (hA _ z), hT q hq⟩) (fun _ _ e => e) nSys ⟨hs1, trivial, ⟨oS, hs1⟩, fun _ _ _ _ => trivial⟩
  have hS0 : ∀ {b : Addr}, b ≠ sysModules → b ∉ ct.map (·.2) → (lawH H0 (ct.map (·.2)) oS) b = H0 b := fun {b} n1 n2 => by unfold lawH; rw [upd_ne n1, tabsH_out n2]
  have hIn : ∀ q ∈ ct, (lawH H0 (ct.map (·.2)) oS) q.2 = some (.tbl #[]) := fun q hq => by unfold lawH; rw [upd_ne (sT q hq), tabsH_in (List.mem_map.mpr ⟨q, hq, rfl⟩)]
  have hS1 : SqL K (lawH H0 (ct.map (·.2)) oS) a (ns.map V.int) := by
    rcases hS with (z | ⟨o, z⟩) | z
    · exact Or.inl (Or.inl (by rw [hS0 sa.symm nA]; exact z))
    · exact Or.inl (Or.inr ⟨o, by rw [hS0 sa.symm nA]; exact z⟩)
    · exact Or.inr z
  have hA1 : ∀ b, (lawH H0 (ct.map (·.2)) oS) b ≠ none → b = a ∨ b ∈ ct.map (·.2) ∨ b = sysModules := fun b z => by
    by_cases h2 : b = sysModules
    · exact Or.inr (Or.inr h2)
    · by_cases h : b ∈ ct.map (·.2)
      · exact Or.inr (Or.inl h)
      · rw [hS0 h2 h] at z
        exact Or.inl (hA b z)
  have free : ∀ {b : Addr}, b ≠ a → b ∉ ct.map (·.2) → b ≠ sysModules → (lawH H0 (ct.map (·.2)) oS) b = none := fun {b} n n2 n3 => Classical.byContradiction fun z => (hA1 b z).elim n fun y => y.elim n2 n3
  have seen : ∀ {b : Addr} {o : Obj}, s1.heap.get? b = some o → (∀ its n, o.data ≠ .seq its n) → o.data ≠ .fields #[] → b ≠ sysModules → (lawH H0 (ct.map (·.2)) oS) b = none := fun {b o} e q1 q2 q3 => free (fun z => by
    rw [z, ha] at e
    cases e
    exact q1 _ _ rfl) (fun z => by
    obtain ⟨q, hq, z⟩ := mem_ z
    have h := hT q hq
    rw [z, e] at h
    cases h
    exact q2 rfl) q3
  have nsK : ∀ {b : Addr} {m : Str → Option Value}, s1.heap.Ns b m → b ≠ sysModules → (hidT s1.heap (lawH H0 (ct.map (·.2)) oS)).Ns b m := fun ⟨o, es, ep, e, q, r⟩ nb => ⟨o, es, ep, hidT_get e (seen e (fun _ _ z => by rw [q] at z; cases z) (fun z => by rw [q] at z; cases z) nb), q, r⟩
  have kin : K.In (hidT s1.heap (lawH H0 (ct.map (·.2)) oS)) := fun b o e => hidT_get (KX b o e) (Classical.byContradiction fun z => by
    rcases hA1 b z with n | n | n
    · subst n
      rw [hS0 sa.symm nA] at z
      rw [hK z] at e
      cases e
    · obtain ⟨q, hq, rfl⟩ := mem_ n
      rw [nT q hq] at e
      cases e
    · rw [n, nY] at e
      cases e)
  have TB : ∀ q ∈ ct, LamX.TabB (hidT s1.heap (lawH H0 (ct.map (·.2)) oS)) mg q.1 q.2 := fun qt hqt => by
    have hT := hT qt hqt
    have C := C qt hqt
    refine ⟨?_, ?_, fun z => ?_⟩
    · obtain ⟨o, us, file, tf, flags, tg, inF, text, tt, e1, r1, r2, r3, r4⟩ := C
      refine ⟨o, us, file, tf, flags, tg, inF, text, tt, hidT_get e1 (seen e1 (fun _ _ z => by rw [r2] at z; cases z) (fun z => ?_) fun z => ?_), r1, r2, r3, r4⟩
      · rw [r2] at z
        cases z
        simp at r3
      · rw [z, hs1] at e1
        cases e1
        rw [hs2] at r2
        cases r2
    · obtain ⟨bm, ob, b1, b2, b3, b4, b5, b6⟩ := hbm
      refine ⟨bm, ob, b1, b2, fun q => ?_, fun q => ?_, hidT_get b3 (seen b3 (fun _ _ z => by rw [b6] at z; cases z) (fun z => by rw [b6] at z; cases z) fun z => by
        rw [z, hs1] at b3
        cases b3
        rw [hs2] at b6
        cases b6), b4, b5, b6⟩
      · obtain ⟨o, es, ep, e, hd, _⟩ := hns
        rw [q, e] at b3
        cases b3
        rw [hd] at b6
        cases b6
      · rw [q, hT] at b3
        cases b3
        cases b6
    · obtain ⟨o, es, ep, e, hd, _⟩ := hns
      rw [z, hT] at e
      cases e
      cases hd
  obtain ⟨mc, l1, l2⟩ := hlim
  have e0 : Env0 P w K mg (hidT s1.heap (lawH H0 (ct.map (·.2)) oS)) callerA [] s1 (lawH H0 (ct.map (·.2)) oS) := ⟨rfl, ⟨kin, nsK hns (by decide), ⟨mb, nsK hb (by decide), hbb⟩, ⟨mc, nsK l1 (by decide), l2⟩⟩, fun b o e => of_hidT e, Nat.le_of_eq (hidT_size _ _), trivial, fun b z => (by cases z), hok, .of_eq hg⟩
  refine codeAny_mono ((F _ kin (nsK hns (by decide)) TB).run callerA [] s1 _ ⟨[.ref a], []⟩ [.ref a] [.ref a] _ _ rfl hr e0 (hbind s1 (.ref a)) (.cons rfl .nil) (hsp H0 oS hO sT hS1)) fun r s' z => ?_
  have done : ∀ u, CE [] P w (lawH H0 (ct.map (·.2)) oS) s1 (fun v _ => v = .bl true) u s' → u = Value.bool true ∧ OldK s1.heap s'.heap ∧ s'.os = s1.os ∧ AllBare s'.gens := fun u ⟨v, H', os, bare, un, hok', rel, q⟩ => by
    have q' : v = .bl true := q
    subst q'
    obtain rfl : u = Value.bool true := rel
    have gT : ∀ q ∈ ct, ∃ more, s'.heap.get? q.2 = some { cls := .none, data := .fields (#[] ++ more) } := fun q hq => by
      obtain ⟨more, zT⟩ := un.tbls q.2 #[] (hIn q hq)
      exact ⟨more, hok' q.2 _ zT⟩
    have key : ∀ b o, b ∉ ct.map (·.2) → s1.heap.get? b = some o → s'.heap.get? b = some o := fun b o nb e => by
      by_cases hb2 : b = sysModules
      · have t2 := (hok' b _ (un.frzs b oS LamI (by rw [hb2]; exact upd_same))).1
        rw [hb2, hs1] at e
        cases e
        exact t2
      · rcases hO b with n | ⟨ob, xs, n⟩
        · exact un.keep b o e (by rw [hS0 hb2 nb]; exact n) (by intro t; cases t) (by simp)
        · have t1 := (hok0 b _ n).1
          have t2 := (hok' b _ (un.frzs b ob _ (by rw [hS0 hb2 nb]; exact n))).1
          rw [t1] at e
          cases e
          exact t2
    refine ⟨rfl, ⟨fun b o e => ?_, fun b o e => ?_⟩, os, bare⟩
    · by_cases hb2 : b ∈ ct.map (·.2)
      · obtain ⟨q, hq, rfl⟩ := mem_ hb2
        obtain ⟨more, g⟩ := gT q hq
        have h := hT q hq
        rw [h] at e
        cases e
        exact Or.inr (Or.inl ⟨((C q hq).tab h).isCodeTable, rfl, #[], more, rfl, g⟩)
      · exact Or.inl (key b o hb2 e)
    · by_cases hb2 : b ∈ ct.map (·.2)
      · obtain ⟨q, hq, rfl⟩ := mem_ hb2
        obtain ⟨more, g⟩ := gT q hq
        exact ⟨_, g⟩
      · exact ⟨o, key b o hb2 e⟩
  cases r with
  | error e => obtain ⟨_, _, _, _, _, _, _, _, _, _, _, _, hE⟩ := z; exact hE.elim
  | ok fl =>
    cases fl with
    | ret u =>
      obtain ⟨rfl, q⟩ := done u z
      exact ⟨rfl, q⟩
    | _ => exact False.elim z
theorem tab_fact {K : Frag} {mg : Str → Option Value} {nm : Str} {fb : Addr} (h1 : mg nm = some (.ref fb)) (h2 : fb = He.fAd K (nm, none)) (h3 : ∃ (ob : Obj) (fd0 : FuncData) (c : Addr) (oc : Obj) (vs : Array Value), K.lookup fb = some ob ∧ ob.data = .func fd0 ∧ fd0.code = .ref c ∧ K.lookup c = some oc ∧ oc.data = .fields vs) :
    ∃ (fb : Addr) (ob : Obj) (fd0 : FuncData) (c : Addr) (oc : Obj) (vs : Array Value), mg nm = some (.ref fb) ∧ fb = He.fAd K (nm, none) ∧ K.lookup fb = some ob ∧ ob.data = .func fd0 ∧ fd0.code = .ref c ∧ K.lookup c = some oc ∧ oc.data = .fields vs :=
  let ⟨ob, fd0, c, oc, vs, h⟩ := h3
  ⟨fb, ob, fd0, c, oc, vs, h1, h2, h⟩
/-- code and table of a def -/
def ctOf (K : Frag) (nms : List Str) : List (Addr × Addr) := nms.map fun nm => (He.codeOf K (nm, none), (He.cT K (nm, none)).2)
theorem walk_ofM {l : PySem.W.OpenLaw} {n k : Nat} {q : Program} {loose : List Str} {XP : (Str → Option Value) → Heap → Prop} {YP : World → Heap → Prop} {d : DefRec} {x : Str} (nms : List Str) (hn : l.most = some n) (hn2 : n ≤ sizeLine) (hdf : d.params.defaults = []) (hr : Room k callerA) (hrec : (nms.all fun nm => (recsOf q).any fun e => e.name == nm) = true)
    (F : ∀ (w : World) (mg : Str → Option Value) (fa : Addr) (h : Heap), YP w h → h.Ns mainGlobals mg → mg d.name = some (.ref fa) →
      ∃ (K : Frag) (fd : FuncData) (sp : Sp), K.In h ∧ (∀ nm ∈ nms, ∃ (fb : Addr) (ob : Obj) (fd0 : FuncData) (c : Addr) (oc : Obj) (vs : Array Value), mg nm = some (.ref fb) ∧ fb = He.fAd K (nm, none) ∧ K.lookup fb = some ob ∧ ob.data = .func fd0 ∧ fd0.code = .ref c ∧ K.lookup c = some oc ∧ oc.data = .fields vs) ∧ (∀ nm ∈ nms, K.lookup (He.cT K (nm, none)).2 = none) ∧ ((ctOf K nms).map (·.2)).Nodup ∧ SysD h ∧ K.lookup sysModules = none ∧ (∀ (s : Shared) (u : Value), BindsTo s fd ⟨[u], []⟩ [(x, u)]) ∧
        (∀ (H : Hp) (oS : Obj) (a : Addr) (ns : List Int), ns.length ≤ n → Only H → (∀ q ∈ ctOf K nms, q.2 ≠ sysModules) → SqL K (lawH H ((ctOf K nms).map (·.2)) oS) a (ns.map V.int) → sp [.ref a] (lawH H ((ctOf K nms).map (·.2)) oS) (fun v _ => v = .bl true) fun _ _ _ => False) ∧
        ∀ base : Heap, K.In base → base.Ns mainGlobals mg → (∀ q ∈ ctOf K nms, LamX.TabB base mg q.1 q.2) → FnG l.prog w K mg base (L2.CX l.prog w) k fa fd [x] sp) :
    PySem.W.WalkO q loose XP YP l.row.toRowW d [] (fun f vs => PySem.call f vs) :=
  Att.attach_call hn hdf fun w _ s1 mg _ fa _ _ _ _ a _ ns G Y _ _ _ hmg hobj hints hlen hg => by
    obtain ⟨K, fd, sp, KX, hks, nT, nd, hY, nY, hb, hsp, hF⟩ := F w mg fa _ Y G.T.g hmg
    have one : ∀ nm ∈ nms, s1.heap.get? (He.cT K (nm, none)).2 = some { cls := .none, data := .fields #[] } ∧ PySem.W.CodeHd s1.heap (He.codeOf K (nm, none)) (He.cT K (nm, none)).2 := fun nm hnm => by
      obtain ⟨fb, ob, fd0, c, oc, vs, hmb, hfa, k1, k2, k3, k4, k5⟩ := hks nm hnm
      obtain ⟨dL, hm, hn1⟩ := List.any_eq_true.mp (List.all_eq_true.mp hrec nm hnm)
      have hn3 : dL.name = nm := beq_iff_eq.mp hn1
      obtain ⟨a', o', fd', c', P', h1, h2, h3, h4, h5, h6⟩ := G.T.tab dL hm
      have hc : He.codeOf K (nm, none) = c := by
        obtain ⟨oc1, od1, dt1, sl1⟩ := ob
        have k2' : dt1 = .func fd0 := k2
        subst k2'
        exact He.codeOf_eq (by rw [← hfa]; exact k1) k3
      have e1 : c' = c := by
        rw [hn3, hmb] at h1
        cases h1
        have g1 := KX _ _ k1
        rw [g1] at h2
        cases h2
        rw [k2] at h3
        cases h3
        rw [k3] at h4
        cases h4
        rfl
      subst e1
      have eP : (He.cT K (nm, none)).2 = P' := by
        obtain ⟨⟨o2, vs2, z1, z2, z3, z4⟩, _⟩ := h6
        have g2 := KX _ _ k4
        rw [g2] at z1
        cases z1
        show He.tabOf K (He.codeOf K (nm, none)) = P'
        rw [hc]
        unfold He.tabOf
        obtain ⟨oc1, od1, dt1, sl1⟩ := oc
        have z3' : dt1 = .fields vs2 := z3
        subst z3'
        rw [k4]
        dsimp only
        rw [Array.getD_eq_getD_getElem?, z4]
        rfl
      exact ⟨by rw [eP]; exact h6.2, by rw [eP, hc]; exact PySem.W.CodeHd.of h5 h6⟩
    have at_ : ∀ q ∈ ctOf K nms, ∃ nm ∈ nms, q = (He.codeOf K (nm, none), (He.cT K (nm, none)).2) := fun q hq => by
      obtain ⟨nm, h1, h2⟩ := List.mem_map.mp hq
      exact ⟨nm, h1, h2.symm⟩
    exact law_callM (ct := ctOf K nms) KX G.T.g G.T.b G.T.builtins G.T.nolimit hg hobj hints (Nat.le_trans hlen hn2) hr G.T.bmain (fun q hq => by obtain ⟨nm, h1, rfl⟩ := at_ q hq; exact (one nm h1).1) (fun q hq => by obtain ⟨nm, h1, rfl⟩ := at_ q hq; exact nT nm h1) (fun q hq => by obtain ⟨nm, h1, rfl⟩ := at_ q hq; exact (one nm h1).2) nd hY nY hF hb fun H oS hO hP hS => hsp H oS a ns hlen hO hP hS
/-- the law's promise at its start -/
theorem law_spM {G : Gx} {nt : Nat} {ts : List Addr} {H : Hp} {oS : Obj} {a : Addr} {ns : List Int} {fn : Fn} {outs : List IV} {E : XK} (hO : Only H) (hP : sysModules ∉ ts) (hts : ts = (List.range nt).map fun i => (G.tb i).1) (nd : ts.Nodup) (h : SqL G.K (lawH H ts oS) a (ns.map V.int)) (hl : ns.length ≤ 63) (hf : fn [.scr ns] = .ok (.bl true) outs) :
    spT G nt fn [.ref a] (lawH H ts oS) (fun v _ => v = .bl true) E := by
  have hS : StL G.K (lawH H ts oS) a (ns.map V.int) := by
    rcases h with (h | ⟨o, h⟩) | h
    · unfold lawH at h
      by_cases e2 : a = sysModules
      · rw [e2, upd_same] at h; cases h
      · rw [upd_ne e2] at h
        by_cases e : a ∈ ts
        · rw [tabsH_in e] at h; cases h
        · rw [tabsH_out e] at h
          rcases hO a with z | ⟨o, xs, z⟩
          · rw [z] at h; cases h
          · rw [z] at h; cases h
    · exact Or.inl ⟨o, h⟩
    · exact Or.inr h
  have mem : ∀ i, i < nt → (G.tb i).1 ∈ ts := fun i hi => by rw [hts]; exact List.mem_map.mpr ⟨i, List.mem_range.mpr hi, rfl⟩
  refine ⟨.ref a, .scr ns, fun _ => False, rfl, .scr hS hl, fun _ h => h.elim, fun i hi => ⟨fun h => h, ?_⟩, fun i j hi hj e => ?_, fun _ => ⟨oS, LamI, upd_same⟩, ?_⟩
  · unfold lawH
    rw [upd_ne fun z => hP (by rw [← z]; exact mem i hi)]
    exact tabsH_in (mem i hi)
  · rw [hts] at nd
    have e1 : ((List.range nt).map fun i => (G.tb i).1)[i]? = some (G.tb i).1 := by rw [List.getElem?_map, List.getElem?_range hi]; rfl
    have e2 : ((List.range nt).map fun i => (G.tb i).1)[j]? = some (G.tb i).1 := by rw [List.getElem?_map, List.getElem?_range hj, e]; rfl
    exact (List.getElem?_inj (by simpa using hi) nd).mp (e1.trans e2.symm)
  · rw [hf]
    exact fun v H' F' r => r.bl_inv
end MR
set_option maxRecDepth 100000
set_option maxHeartbeats 4000000
/-! MirTx: texts: split, join, f-strings, str(int), int(str). -/
namespace MR
open PySem PySem.Spec PyProof.Rows L2
def strsOf : List IV → Option (List Str)
  | [] => some []
  | .str s :: r => (strsOf r).map (s :: ·)
  | _ => none
section
variable {X : Cx} {G : Gx} {W : WX}
theorem fz_strs {F : AP1} {H : Hp} : ∀ ys : List Str, FzA G F H (ys.map V.str) (ys.map IV.str)
  | [] => .nil
  | y :: ys => .cons (.str y) (fz_strs ys)
theorem strsOf_vals {F : AP1} {H : Hp} : ∀ {ds : List IV} {vs : List V} {ys : List Str}, strsOf ds = some ys → FzA G F H vs ds → vs = ys.map V.str
  | [], _, _, h, .nil => by cases h; rfl
  | d :: ds, _, ys, h, .cons (v := v) (vs := vs) r t => by
    cases d with
    | str s =>
      obtain ⟨zs, h1, rfl⟩ := Option.map_eq_some_iff.mp h
      cases r
      rw [strsOf_vals h1 t]
      rfl
    | _ => cases h
def iSplit (A B : E) : E := fun ρ => (A ρ).bind fun d ρ1 => match d with
  | .str a => (B ρ1).bind fun e ρ2 => match e with
    | .str b => if (b.length == 0) = false ∧ a.length ≤ 1000 then .ok (.lst ((Txt.split a b).map IV.str)) ρ2 else .no
    | _ => .no
  | _ => .no
theorem iSplit_fz (A B : E) : ∀ ρ d ρ', iSplit A B ρ = .ok d ρ' → canFz d = true := by
  intro ρ d ρ' h
  obtain ⟨x, ρ1, _, h1⟩ := Rz.bind_ok h
  split at h1
  · obtain ⟨y, ρ2, _, h2⟩ := Rz.bind_ok h1
    split at h2
    · split at h2
      · cases h2; rfl
      · cases h2
    · cases h2
  · cases h1
theorem q_split {A B : E} : ∀ σ H Q, toOf G W (iSplit A B) σ H Q → tM1 (fun x xs H Q => ∃ a b, x = .str a ∧ xs = [.str b] ∧ (b.length == 0) = false ∧ a.length + 2 ≤ sizeLine ∧ rNewStrs (Txt.split a b) H Q) (teOf G W A) (teOf G W B) σ H Q := by
  rintro σ H Q ⟨ρ, F, fp, en, h⟩
  refine ocO_bind en h fun x d ρ1 H1 F1 fp1 s1 e1 r1 h1 => ?_
  split at h1
  · rename_i a
    cases r1.str_inv
    refine ⟨⟨a, rfl⟩, ?_⟩
    refine ocO_bind e1 h1 fun y e ρ2 H2 F2 fp2 s2 e2 r2 h2 => ?_
    split at h2
    · rename_i b
      cases r2.str_inv
      split at h2
      · rename_i hz
        have hl := PyProof.Rows.split_le a b
        have e3 : (1002 : Nat) ≤ big := by decide
        have hb : ((Txt.split a b).map V.str).length ≤ big := by
          rw [List.length_map]
          omega
        exact ⟨a, b, rfl, rfl, hz.1, Nat.le_trans (by omega : a.length + 2 ≤ 1002) (by decide), fun p hp => ocO_new h2 e2 hp (fz_strs _) hb⟩
      · exact h2.elim
    · exact h2.elim
  · exact h1.elim
theorem o_split {a b : Expr} {A B : E} {apos pos : Pos} (ha : PE X a (teOf G W A)) (hb : PE X b (teOf G W B)) (hs : starEach [b] X.env = [(false, eval b X.env)] := by rfl) (hbase : attributeBase a "split" X.env (eval a X.env) = eval a X.env := by rfl) (hline : (apos.endLine == pos.line) = true := by rfl) :
    PE X (.Call (.Attribute a "split" apos) [b] [] pos) (toOf G W (iSplit A B)) := PE.imp (pe_split ha hb hs hbase hline) q_split
theorem m_split {a b : Expr} {A B : E} {apos pos : Pos} (ha : PE X a (teOf G W A)) (hb : PE X b (teOf G W B)) (hs : starEach [b] X.env = [(false, eval b X.env)] := by rfl) (hbase : attributeBase a "split" X.env (eval a X.env) = eval a X.env := by rfl) (hline : (apos.endLine == pos.line) = true := by rfl) :
    PE X (.Call (.Attribute a "split" apos) [b] [] pos) (teOf G W (iSplit A B)) := m_frz (o_split ha hb hs hbase hline) (iSplit_fz A B)
/-! ### join -/
def joinF (a : Str) : IV → Option IV
  | .lst ds => (strsOf ds).bind fun ys => if (ys.map (·.length)).sum + ys.length * a.length ≤ 100000 then some (.str (Txt.join a ys)) else none
  | .tup ds => (strsOf ds).bind fun ys => if (ys.map (·.length)).sum + ys.length * a.length ≤ 100000 then some (.str (Txt.join a ys)) else none
  | _ => none
def iJoin (A B : E) : E := fun ρ => (A ρ).bind fun d ρ1 => match d with
  | .str a => (B ρ1).bind fun e ρ2 => ofO (joinF a e) ρ2
  | _ => .no
theorem m_join (o : Ok X G W) {a b : Expr} {A B : E} {apos pos : Pos} (ha : PE X a (teOf G W A)) (hb : PE X b (teOf G W B)) (hs : starEach [b] X.env = [(false, eval b X.env)] := by rfl) (hbase : attributeBase a "join" X.env (eval a X.env) = eval a X.env := by rfl) (hline : (apos.endLine == pos.line) = true := by rfl) :
    PE X (.Call (.Attribute a "join" apos) [b] [] pos) (teOf G W (iJoin A B)) := by
  refine PE.imp (pe_join ha hb hs hbase hline) ?_
  rintro σ H Q ⟨ρ, F, fp, en, h⟩
  refine oc_bind en h fun x d ρ1 H1 F1 fp1 s1 e1 r1 h1 => ?_
  split at h1
  · rename_i a
    cases r1.str_inv
    refine ⟨⟨a, rfl⟩, ?_⟩
    refine oc_bind e1 h1 fun y e ρ2 H2 F2 fp2 s2 e2 r2 h2 => ?_
    cases hj : joinF a e with
    | none => rw [hj] at h2; exact h2.elim
    | some j =>
      rw [hj] at h2
      have q : ∀ z, j = .str z → Q (.str z) H2 := fun z hz => by
        subst hz
        exact h2 _ _ F2 fp2 (Stp.refl _ _ _) e2 (.str _)
      unfold joinF at hj
      split at hj
      · obtain ⟨ys, h3, h4⟩ := Option.bind_eq_some_iff.mp hj
        split at h4
        · rename_i hz
          cases h4
          cases r2 with
          | lst f hp fz z =>
            have := strsOf_vals h3 fz
            subst this
            exact ⟨a, _, ys, rfl, rfl, Or.inl (SqL.of hp), Nat.le_trans hz (by decide), q _ rfl⟩
        · cases h4
      · obtain ⟨ys, h3, h4⟩ := Option.bind_eq_some_iff.mp hj
        split at h4
        · rename_i hz
          cases h4
          cases r2 with
          | tup hp fz z =>
            have := strsOf_vals h3 fz
            subst this
            rw [← o.K] at hp
            exact ⟨a, _, ys, rfl, rfl, Or.inr hp, Nat.le_trans hz (by decide), q _ rfl⟩
        · cases h4
      · cases hj
  · exact h1.elim
end
end MR
set_option maxRecDepth 100000
set_option maxHeartbeats 4000000
/-! MirVv: a written dict {True: .., False: ..} of texts: d[b], x in d.values(). -/
namespace MR
open PySem PySem.Spec PyProof.Rows L2
/-- what stands in such a dict -/
def BDict (K : PySem.W.Frag) (a : Addr) (t f : Str) : Prop := ∃ n t1 t0, K.lookup a = some ⟨.type "dict", none, .dict #[⟨hashInt 1, .bool true, .str t t1⟩, ⟨hashInt 0, .bool false, .str f t0⟩] n, #[]⟩ ∧ (a == sysModules) = false
theorem bdEs_of {t f : Str} {l : List DictEntry} (h : bdEs t f l = true) : ∃ t1 t0, l = [⟨hashInt 1, .bool true, .str t t1⟩, ⟨hashInt 0, .bool false, .str f t0⟩] := by
  unfold bdEs at h
  split at h
  · rename_i h1 x t1 h0 y t0
    simp only [Bool.and_eq_true, decide_eq_true_eq] at h
    obtain ⟨rfl, rfl, rfl, rfl⟩ := h
    exact ⟨t1, t0, rfl⟩
  · cases h
theorem bdB_of {K : PySem.W.Frag} {a : Addr} {t f : Str} (h : bdB K a t f = true) : BDict K a t f := by
  unfold bdB at h
  split at h
  · rename_i nm es n sl hl
    simp only [Bool.and_eq_true, decide_eq_true_eq] at h
    obtain ⟨rfl, hs, ha, he⟩ := h
    obtain ⟨t1, t0, e⟩ := bdEs_of he
    have e1 : es = #[⟨hashInt 1, .bool true, .str t t1⟩, ⟨hashInt 0, .bool false, .str f t0⟩] := Array.toList_inj.mp e
    have e2 : sl = #[] := by
      apply Array.eq_empty_of_size_eq_zero
      simpa [Array.isEmpty] using hs
    subst e1 e2
    refine ⟨n, t1, t0, hl, ?_⟩
    cases h : (a == sysModules)
    · rfl
    · rw [h] at ha; cases ha
  · cases h
section
variable {X : Cx} {G : Gx} {W : WX}
theorem BDict.raw {K : PySem.W.Frag} {a : Addr} {t f : Str} {h : Heap} (d : BDict K a t f) (k : K.In h) : ∃ t1 t0 ep, h.DictRaw a #[⟨hashInt 1, .bool true, .str t t1⟩, ⟨hashInt 0, .bool false, .str f t0⟩] ep := by
  obtain ⟨n, t1, t0, hl, _⟩ := d
  exact ⟨t1, t0, n, _, k a _ hl, ⟨rfl, rfl, rfl⟩, rfl⟩
def rBx (K : PySem.W.Frag) : R2 := fun x y H Q => ∃ (a : Addr) (b : Bool) (t f : Str), x = .ref a ∧ y = .bl b ∧ BDict K a t f ∧ Q (.str (if b = true then t else f)) H
theorem ix_bdict : IxR X (rBx X.K) := by
  intro value slice pins s σ H x y v u Q I rx ry h hs
  obtain ⟨a, b, t, f, rfl, rfl, ⟨n, t1, t0, hl, hsm⟩, q⟩ := h
  obtain rfl : v = Value.ref a := rx
  cases ry
  have ho := I.kIn a _ hl
  have hm : s.heap.MapOf (leafKind X.prog X.w) a (fun k => findBy Leaf.isOf #[⟨hashInt 1, .bool true, .str t t1⟩, ⟨hashInt 0, .bool false, .str f t0⟩] k) := by
    refine ⟨_, _, n, ho, ⟨rfl, rfl, rfl⟩, rfl, ?_, fun k => rfl⟩
    intro e he
    have he' : e = ⟨hashInt 1, .bool true, .str t t1⟩ ∨ e = ⟨hashInt 0, .bool false, .str f t0⟩ := by simpa using he
    rcases he' with rfl | rfl
    · exact ⟨.num 1, rfl, rfl⟩
    · exact ⟨.num 0, rfl, rfl⟩
  cases b
  · exact tail_any hm.typeIs slot_dict_getitem.lookup (wpAny_getItem_of (knd := leafKind X.prog X.w) (k := .num 0) (v := .str f t0) rfl hm rfl ⟨.str f, H, I.tok _, ⟨t0, rfl⟩, q⟩) hs
  · exact tail_any hm.typeIs slot_dict_getitem.lookup (wpAny_getItem_of (knd := leafKind X.prog X.w) (k := .num 1) (v := .str t t1) rfl hm rfl ⟨.str t, H, I.tok _, ⟨t1, rfl⟩, q⟩) hs
/-! ### x in d.values() -/
theorem entry_ci : entryFor table "proto.contains_iter" = some Builtin.«proto.contains_iter» := entryFor_of_fast (by kernel_rfl)
theorem plain_ci : plainId "proto.contains_iter" = true := by decide +kernel
theorem cont_vals {A : Around} {prog : Program} {w : World} {it a : Addr} {es : Array DictEntry} {ep : Nat} {y : Str} {ty : Tok} {vs : List Str} (hA : A.in1.handled = none) (hne : a ≠ it)
    (hl : vs.length = es.size) (hv : ∀ j (h : j < es.size), ∃ x t, es[j].val = .str x t ∧ vs[j]? = some x) {R : Result → Shared → Prop} : ∀ (k i : Nat) (s : Shared), es.size - i = k → s.heap.IsValIter it a i es.size ep → s.heap.DictRaw a es ep →
    (∀ h', Heap.ExtBut it s.heap h' → R (.ok (.ret (.bool (decide (y ∈ vs.drop i))))) { s with heap := h' }) → codeAny (model prog w) A (.builtin "proto.contains_iter" ⟨[.ref it, .str y ty], []⟩) R s := by
  intro k
  induction k with
  | zero =>
    intro i s hk hit hm h
    refine codeAny_builtin entry_ci ?_
    rw [Around.under_plainId plain_ci]
    show wpAny _ _ (pyNext (.ref it) >>= _) _ _ s
    refine wpAny_bind (wpAny_pyNext_values_end_raw hA hit hm (by omega) fun h' hx => ?_)
    refine wpAny_bind (wpAny_rule ?_)
    have e0 : vs.drop i = [] := List.drop_eq_nil_of_le (by omega)
    have h1 := h h' hx
    rw [e0] at h1
    exact wpAny_pure h1
  | succ k ih =>
    intro i s hk hit hm h
    refine codeAny_builtin entry_ci ?_
    rw [Around.under_plainId plain_ci]
    show wpAny _ _ (pyNext (.ref it) >>= _) _ _ s
    have hi : i < es.size := by omega
    obtain ⟨x, t, e1, e2⟩ := hv i hi
    refine wpAny_bind (wpAny_pyNext_values_item_raw hit hm hi fun h' hit' hs => ?_)
    rw [e1]
    refine wpAny_bind (wpAny_eqBool_str ?_)
    have e3 : vs.drop i = x :: vs.drop (i + 1) := by
      obtain ⟨hlt, e4⟩ := List.getElem?_eq_some_iff.mp e2
      rw [List.drop_eq_getElem_cons hlt, e4]
    by_cases hxy : x = y
    · rw [if_pos (decide_eq_true hxy)]
      refine wpAny_bind (wpAny_rule ?_)
      have h1 := h h' hs.extBut
      rw [e3, decide_eq_true (List.mem_cons.mpr (Or.inl hxy.symm))] at h1
      exact wpAny_pure h1
    · rw [if_neg (by rw [decide_eq_false hxy]; exact Bool.false_ne_true)]
      refine wpAny_pure ⟨plainId_quiet plain_ci _, ih (i + 1) _ (by omega) hit' (hm.at fun o e => (hs.2 a hne).trans e) fun h2 hx2 => ?_⟩
      have h1 := h h2 fun b o hb e => hx2 b o hb ((hs.2 b hb).trans e)
      rw [e3] at h1
      have e5 : decide (y ∈ x :: vs.drop (i + 1)) = decide (y ∈ vs.drop (i + 1)) := by
        apply Bool.eq_iff_iff.mpr
        simp only [decide_eq_true_eq, List.mem_cons]
        exact ⟨fun z => z.resolve_left fun q => hxy q.symm, Or.inr⟩
      rw [e5] at h1
      exact h1
theorem no_contains : typeLookup (.type "dict_values") "__contains__" = pure none := by first | rfl | kernel_rfl
theorem vals_contains {A : Around} {prog : Program} {w : World} {E : Value → Shared → Prop} {s : Shared} {v a : Addr} {es : Array DictEntry} {ep : Nat} {y : Str} {ty : Tok} {vs : List Str} {Q : Bool → Shared → Prop} (hA : A.handled = none) (hw : s.heap.IsValuesView v a) (hm : s.heap.DictRaw a es ep)
    (hl : vs.length = es.size) (hv : ∀ j (h : j < es.size), ∃ x t, es[j].val = .str x t ∧ vs[j]? = some x) (h : ∀ h', (∀ b o, s.heap.get? b = some o → h'.get? b = some o) → Q (decide (y ∈ vs)) { s with heap := h' }) :
    wpAny (model prog w) A (contains (.ref v) (.str y ty)) Q E s := by
  have hT := hw.typeIs
  unfold contains
  refine wpAny_holding ?_
  rw [stdlibNamesSay?_of_typeIs hT]
  refine wpAny_bind (wpAny_specialOf hT no_contains ?_)
  show wpAny _ _ (if (none == some Value.none) = true then _ else _) _ _ s
  rw [if_neg (by simp)]
  refine wpAny_bind (wpAny_callSpecialUnlessNone?_none hT no_contains ?_)
  refine wpAny_bind (wpAny_rule ?_)
  refine wpAny_bind (wpAny_tryCatch (wpAny_pyIter_values_raw hw hm ?_))
  have hlt : a < s.heap.objs.size := hm.lt_size
  refine wpAny_bind (wpAny_runValue ?_)
  refine cont_vals (es := es) (ep := ep) (a := a) (vs := vs) hA (Nat.ne_of_lt hlt) hl hv (es.size - 0) 0 _ rfl ⟨_, Heap.get?_push_size _ rfl, rfl, rfl⟩ (hm.push _) fun h' hx => ?_
  refine wpAny_pure (h h' fun b o e => hx b o (Nat.ne_of_lt (Heap.lt_size e)) (Heap.get?_push_of_some _ e))
/-- d.values() of a kept dict -/
def tKV (a : Addr) : TE := fun σ H Q => ∀ p, H p = none → Q (.ref p) (upd H p (viewO "dict_values" p a))
theorem pe_kvals {a : Addr} {x t f : Str} {p apos cpos : Pos} (hb : BDict X.K a t f) (hg : Gl X x) (hm : X.mg x = some (.ref a)) (hd : (x == ("__debug__" : Str)) = false := by decide)
    (hbase : attributeBase (.Name x p) "values" X.env (eval (.Name x p) X.env) = eval (.Name x p) X.env := by rfl) (hline : (apos.endLine == cpos.line) = true := by rfl) : PE X (.Call (.Attribute (.Name x p) "values" apos) [] [] cpos) (tKV a) := by
  refine ⟨fun pins s σ H Q I h => ?_⟩
  obtain ⟨t1, t0, ep, hr⟩ := hb.raw I.kIn
  have hsm : (a == sysModules) = false := let ⟨_, _, _, _, q⟩ := hb; q
  refine wpAny_Call_method (T := "dict") (id := "dict.values") hbase rfl hline F.plainAttrs_dict F.slot_dict_values F.type_dict_values (ld_glob I hg hm ?_ hd)
  refine ⟨hr.typeIs, fun b e => ?_, ?_⟩
  · cases e
    obtain ⟨o, ho, hc, _⟩ := hr
    exact ⟨o, ho, hc.2.1⟩
  · show wpAny _ _ (callWith cpos (.builtin "dict.values") [.ref a] [] []) _ X.xe s
    refine method_meetsIn F.slot_dict_values F.entry_dict_values rfl (PySem.evalArgs_none ⟨rfl, hr.typeIs, F.args_dict_values_1 _, _, meets_dict_values_raw a hsm, ⟨_, _, hr⟩, ?_⟩)
    exact ⟨.ref s.heap.objs.size, _, I.laid (t' := s.toks) (fun b o q => Heap.get?_push_of_some _ q) (Nat.le_refl _) (viewO_ok (Heap.get?_push_size _ rfl)), rfl, h _ (I.hok.fresh (Nat.le_refl _))⟩
def rVv (K : PySem.W.Frag) (neg : Bool) : R2 := fun x y H Q => ∃ (z t f : Str) (p a : Addr), x = .str z ∧ y = .ref p ∧ H p = some (viewO "dict_values" p a) ∧ BDict K a t f ∧ Q (.bl (if neg = true then !(decide (z ∈ [t, f])) else decide (z ∈ [t, f]))) H
theorem vv_run {pins : List (Addr × Obj)} {s : Shared} {σ : L2.St} {H : Hp} {z t f : Str} {tz : Tok} {p a : Addr} {Q : Bool → Shared → Prop} (hc : X.calm = true) (I : Inv X pins σ H s) (hp : H p = some (viewO "dict_values" p a)) (hb : BDict X.K a t f)
    (h : ∀ s', Inv X pins σ H s' → Q (decide (z ∈ [t, f])) s') : wpAny (model X.prog X.w) X.A (contains (.ref p) (.str z tz)) Q X.xe s := by
  obtain ⟨t1, t0, ep, hr⟩ := hb.raw I.kIn
  have hv : s.heap.get? p = some (DSub.viewOb "dict_values" a) := (show ObjOk X.prog X.w H s.heap p (viewO "dict_values" p a) from I.hok p _ hp).1
  refine vals_contains (es := #[⟨hashInt 1, .bool true, .str t t1⟩, ⟨hashInt 0, .bool false, .str f t0⟩]) (vs := [t, f]) (I.ok.hd hc) ⟨_, hv, rfl, rfl⟩ hr rfl (fun j hj => ?_) fun h' k => h _ (I.kept (t' := s.toks) k)
  match j, hj with
  | 0, _ => exact ⟨t, t1, rfl, rfl⟩
  | 1, _ => exact ⟨f, t0, rfl, rfl⟩
theorem op_vvN (hc : X.calm = true) : OpR X (compareOp .NotIn) (rVv X.K true) := by
  intro pins s σ H x y v u Q I rx ry h
  obtain ⟨z, t, f, p, a, rfl, rfl, hp, hb, q⟩ := h
  obtain ⟨tz, rfl⟩ := rx
  obtain rfl : u = Value.ref p := ry
  show wpAny _ _ (contains (.ref p) (.str z tz) >>= _) _ _ s
  exact wpAny_bind (vv_run hc I hp hb fun s' I' => wpAny_pure ⟨.bl _, H, I', rfl, q⟩)
/-! ### the mirrors -/
def iBx (t f : Str) (B : E) : E := fun ρ => (B ρ).bind fun d ρ1 => match d with
  | .bl b => .ok (.str (if b = true then t else f)) ρ1
  | _ => .no
def iVv (neg : Bool) (t f : Str) (A : E) : E := fun ρ => (A ρ).bind fun d ρ1 => match d with
  | .str z => .ok (.bl (if neg = true then !(decide (z ∈ [t, f])) else decide (z ∈ [t, f]))) ρ1
  | _ => .no
theorem m_bx {a : Addr} {x t f : Str} {b : Expr} {B : E} {p pos : Pos} (hb : BDict X.K a t f) (hg : Gl X x) (hm : X.mg x = some (.ref a)) (he : PE X b (teOf G W B)) (hs : PlainIx b := by exact fun _ _ => rfl) (hd : (x == ("__debug__" : Str)) = false := by decide) :
    PE X (.Subscript (.Name x p) b pos) (teOf G W (iBx t f B)) := by
  refine PE.imp (pe_ix ix_bdict (pe_glob (v := .ref a) hg hm rfl hd) he hs) ?_
  rintro σ H Q ⟨ρ, F, fp, en, h⟩
  show teOf G W B σ H _
  refine oc_bind en h fun y d ρ1 H1 F1 fp1 s1 e1 r1 h1 => ?_
  split at h1
  · rename_i b
    cases r1
    exact ⟨a, b, t, f, rfl, rfl, hb, h1 _ _ F1 fp1 (Stp.refl _ _ _) e1 (.str _)⟩
  · exact h1.elim
theorem bind_as {α β γ : Type} (r : Rz α) (f : α → Env → Rz β) (g : β → Env → Rz γ) : (r.bind f).bind g = r.bind fun d ρ => (f d ρ).bind g := by cases r <;> rfl
theorem q_vvT {a : Addr} {t f : Str} {neg : Bool} {A : E} (hb : BDict X.K a t f) : ∀ σ H Q, ttOf G W (iTest (iVv neg t f A)) σ H Q → tTest (tOp (rVv X.K neg) (teOf G W A) (tKV a)) σ H Q := by
  rintro σ H Q ⟨ρ, F, fp, en, h⟩
  unfold iTest iVv at h
  rw [bind_as] at h
  refine oc_bind en h fun y d ρ1 H1 F1 fp1 s1 e1 r1 h1 => ?_
  cases d with
  | str z =>
    cases r1
    intro p hp
    have fr := Fr.new (F := F1) (o := viewO "dict_values" p a) hp
    exact ⟨z, t, f, p, a, rfl, rfl, upd_same, hb, _, rfl, h1 _ _ F1 fp1 (fr.stp _) (e1.fr fr) rfl⟩
  | _ => exact h1.elim
theorem n_vvN (o : Ok X G W) {a : Addr} {x t f : Str} {e : Expr} {A : E} {p apos cpos pos : Pos} (hb : BDict X.K a t f) (hg : Gl X x) (hm : X.mg x = some (.ref a)) (he : PE X e (teOf G W A)) (hd : (x == ("__debug__" : Str)) = false := by decide)
    (hbase : attributeBase (.Name x p) "values" X.env (eval (.Name x p) X.env) = eval (.Name x p) X.env := by rfl) (hline : (apos.endLine == cpos.line) = true := by rfl) (hmk : behindInMarks .NotIn (.Call (.Attribute (.Name x p) "values" apos) [] [] cpos) = false := by rfl) :
    PT X (.Compare e [.NotIn] [.Call (.Attribute (.Name x p) "values" apos) [] [] cpos] pos) (ttOf G W (iTest (iVv true t f A))) := PT.imp (pt_cmpR (op_vvN o.calm) he (pe_kvals hb hg hm hd hbase hline) hmk) (q_vvT hb)
end
/-- the module's name x stands for such a dict -/
structure BV (K : PySem.W.Frag) (mg : Str → Option Value) (x t f : Str) : Prop where
  ex : ∃ a, mg x = some (.ref a) ∧ BDict K a t f
theorem bv_of {K : PySem.W.Frag} {mg : Str → Option Value} {x t f : Str} (hn : ∃ h : Heap, K.In h ∧ h.Ns mainGlobals mg) (h : bvB K x t f = true) : BV K mg x t f := by
  unfold bvB at h
  split at h
  · rename_i a q
    obtain ⟨hh, X, N⟩ := hn
    exact ⟨a, PySem.W.mg_of X N q, bdB_of h⟩
  · cases h
section
variable {X : Cx} {G : Gx} {W : WX}
theorem m_bxG {x t f : Str} (v : BV X.K X.mg x t f) {b : Expr} {B : E} {p pos : Pos} (hg : Gl X x) (he : PE X b (teOf G W B)) (hs : PlainIx b := by exact fun _ _ => rfl) (hd : (x == ("__debug__" : Str)) = false := by decide) : PE X (.Subscript (.Name x p) b pos) (teOf G W (iBx t f B)) :=
  let ⟨_, hm, hb⟩ := v; m_bx hb hg hm he hs hd
theorem n_vvNG (o : Ok X G W) {x t f : Str} (v : BV X.K X.mg x t f) {e : Expr} {A : E} {p apos cpos pos : Pos} (hg : Gl X x) (he : PE X e (teOf G W A)) (hd : (x == ("__debug__" : Str)) = false := by decide)
    (hbase : attributeBase (.Name x p) "values" X.env (eval (.Name x p) X.env) = eval (.Name x p) X.env := by rfl) (hline : (apos.endLine == cpos.line) = true := by rfl) (hmk : behindInMarks .NotIn (.Call (.Attribute (.Name x p) "values" apos) [] [] cpos) = false := by rfl) :
    PT X (.Compare e [.NotIn] [.Call (.Attribute (.Name x p) "values" apos) [] [] cpos] pos) (ttOf G W (iTest (iVv true t f A))) := let ⟨_, hm, hb⟩ := v; n_vvN o hb hg hm he hd hbase hline hmk
end
end MR
set_option maxRecDepth 100000
set_option maxHeartbeats 4000000
/-! MirQx: == and != by an own method, the right side of another kind. -/
namespace MR
open PySem L2 PyProof.Rows
section
variable {M : Model} {prog : Program} {w : World} {A : Around} {E : Value → Shared → Prop} {s : Shared} {K : Frag} {x C f : Addr} {ox : Obj} {od : Option Obj} {b tb : Value}
end
section
variable {X : Cx} {G : Gx} {W : WX} {σ : L2.St} {H : Hp} {F : AP1} {fp : FPt} {ρ : Env} {cs : List String} {pin : List Nat} {n m : Nat}
/-! ### lists, by the == of their items -/
end
end MR
set_option maxRecDepth 100000
set_option maxHeartbeats 4000000
/-! MirLq: != of lists that are alike item by item; == of lists of other lengths. -/
namespace MR
open PySem PySem.SeqAt
open AutoSeq1 (wpAny_loadPart')
open MeetsSeq MeetsSeq2 MeetsSeq3 SeqRoads2
section
variable {prog : Program} {w : World} {A : Around} {R : Result → Shared → Prop}
end
section
variable {prog : Program} {w : World} {A : Around} {E : Value → Shared → Prop} {s : Shared}
end
end MR
namespace MR
open PySem L2 PyProof.Rows
section
variable {X : Cx} {G : Gx} {W : WX} {σ : L2.St} {H : Hp} {F : AP1} {fp : FPt} {ρ : Env} {cs : List String} {pin : List Nat} {n : Nat}
end
end MR
set_option maxRecDepth 100000
set_option maxHeartbeats 4000000
/-! MirDq: == of lists of dicts whose values are data. -/
namespace MR
open PySem PySem.Spec PyProof.Rows L2
section
variable {X : Cx} {G : Gx} {W : WX} {σ : L2.St} {H : Hp} {F : AP1} {cs : List String} {pins : List (Addr × Obj)} {s : Shared}
theorem FzP.one {ks : List (Key × V)} : ∀ {dk dl : List (Key × IV)}, KC G cs → X.K = G.K → Inv X pins σ H s → FzP G F H ks dk → FzP G F H ks dl → (dk.all fun q => cmpb cs q.2) = true → (dl.all fun q => cmpb cs q.2) = true → dk = dl := by
  induction ks with
  | nil =>
    intro dk dl k hK I h1 h2 _ _
    cases h1
    cases h2
    rfl
  | cons q ks ih =>
    intro dk dl k hK I h1 h2 c1 c2
    cases h1 with
    | cons a1 b1 =>
      cases h2 with
      | cons a2 b2 =>
        simp only [List.all_cons, Bool.and_eq_true] at c1 c2
        rw [Fz.inj I hK k a1 a2 c1.1 c2.1, ih k hK I b1 b2 c1.2 c2.2]
end
end MR
set_option maxRecDepth 100000
set_option maxHeartbeats 4000000
/-! MirFs: f-strings; str(int), int(text). -/
namespace MR
open PySem PySem.Spec PyProof.Rows L2
def intS (i : Int) : Str := toString i
/-- a value within an f-string -/
def fmtS : IV → Option Str
  | .str s => if s.length ≤ 1000 then some s else none
  | .int i => if i.natAbs.log2 < 1920 then some (intS i) else none
  | _ => none
def iFmt (A : E) : E := fun ρ => (A ρ).bind fun d ρ1 => match fmtS d with
  | some s => .ok (.str s) ρ1
  | none => .no
/-- the parts one behind the other -/
def iJs : List E → Str → E
  | [], acc => fun ρ => .ok (.str acc) ρ
  | A :: As, acc => fun ρ => (A ρ).bind fun d ρ1 => match d with
    | .str s => if (acc ++ s).length ≤ 1000 then iJs As (acc ++ s) ρ1 else .no
    | _ => .no
section
variable {X : Cx} {G : Gx} {W : WX}
theorem m_fmt {e : Expr} {A : E} {pos : Pos} (ha : PE X e (teOf G W A)) : PE X (.FormattedValue e (-1) none pos) (teOf G W (iFmt A)) := by
  refine PE.imp (pe_fmt ha) ?_
  rintro σ H Q ⟨ρ, F, fp, en, h⟩
  refine oc_bind en h fun y d ρ1 H1 F1 fp1 s1 e1 r1 h1 => ?_
  cases hf : fmtS d with
  | none => rw [hf] at h1; exact h1.elim
  | some z =>
    rw [hf] at h1
    unfold fmtS at hf
    split at hf
    · split at hf
      · rename_i s hz
        cases hf
        cases r1
        exact Or.inl ⟨_, rfl, Nat.le_trans hz (by decide), h1 _ _ F1 fp1 (Stp.refl _ _ _) e1 (.str _)⟩
      · cases hf
    · split at hf
      · rename_i i hz
        cases hf
        cases r1
        exact Or.inr ⟨i, rfl, hz, h1 _ _ F1 fp1 (Stp.refl _ _ _) e1 (.str _)⟩
      · cases hf
    · cases hf
/-- the parts' judgements -/
def PJm (X : Cx) (G : Gx) (W : WX) (es : List Expr) (As : List E) : Prop := PJ X es (As.map (teOf G W))
theorem pj_nil : PJm X G W [] [] := .nil
theorem pj_cons {e : Expr} {A : E} {es : List Expr} {As : List E} (h : PE X e (teOf G W A)) (t : PJm X G W es As) : PJm X G W (e :: es) (A :: As) := .cons h t
theorem q_js : ∀ (As : List E) (acc : Str) σ H Q, teOf G W (iJs As acc) σ H Q → tJs (As.map (teOf G W)) acc σ H (fun out H1 => Q (.str out) H1)
  | [], acc, σ, H, Q, ⟨ρ, F, fp, en, h⟩ => h _ _ F fp (Stp.refl _ _ _) en (.str _)
  | A :: As, acc, σ, H, Q, ⟨ρ, F, fp, en, h⟩ => by
    refine oc_bind en h fun y d ρ1 H1 F1 fp1 s1 e1 r1 h1 => ?_
    split at h1
    · rename_i s
      cases r1
      split at h1
      · rename_i hz
        exact ⟨s, rfl, Nat.le_trans hz (by decide), q_js As (acc ++ s) σ H1 Q ⟨ρ1, F1, fp1, e1, h1⟩⟩
      · exact h1.elim
    · exact h1.elim
theorem m_joined {v1 v2 : Expr} {rest : List Expr} {As : List E} {pos : Pos} (h : PJm X G W (v1 :: v2 :: rest) As) : PE X (.JoinedStr (v1 :: v2 :: rest) pos) (teOf G W (iJs As Str.empty)) := PE.imp (pe_joined h) (q_js As Str.empty)
/-! ### str(i), int(text) -/
def fStrI : List IV → Option IV
  | [.int i] => if i.natAbs.log2 < 1920 then some (.str (intS i)) else none
  | _ => none
def fIntS : List IV → Option IV
  | [.str a] => if a.length ≤ 640 then (PySem.intText? a).map IV.int else none
  | _ => none
theorem cb_strI : CallB G (fun xs H Q => ∃ i, xs = [.int i] ∧ i.natAbs.log2 < 1920 ∧ Q (.str (toString i)) H) fStrI := by
  intro F H xs ds d Q ha hf k
  unfold fStrI at hf
  split at hf
  · split at hf
    · rename_i i hz
      cases hf
      obtain ⟨v, rfl, hv⟩ := ha.one
      cases hv.int_inv
      exact ⟨i, rfl, hz, k _ _ _ (Fr.refl _ _) (.str _)⟩
    · cases hf
  · cases hf
theorem cb_intS : CallB G (fun xs H Q => ∃ a n, xs = [.str a] ∧ PySem.intText? a = some n ∧ a.length ≤ 640 ∧ Q (.int n) H) fIntS := by
  intro F H xs ds d Q ha hf k
  unfold fIntS at hf
  split at hf
  · split at hf
    · rename_i a hz
      obtain ⟨n, hn, rfl⟩ := Option.map_eq_some_iff.mp hf
      obtain ⟨v, rfl, hv⟩ := ha.one
      cases hv.str_inv
      exact ⟨a, n, rfl, hn, hz, k _ _ _ (Fr.refl _ _) (.int _)⟩
    · cases hf
  · cases hf
theorem m_strI {e : Expr} {p pos : Pos} {J : EAv} (hg : Gl X "str") (hm : X.mg "str" = none) (ha : PA X [e] (tjOf G W J)) (he : starEach [e] X.env = [(false, eval e X.env)] := by rfl) (hpl : (backTo pos (starEach [] X.env)).any (·.1) = false := by rfl) : PE X (.Call (.Name "str" p) [e] [] pos) (teOf G W (iCallJ fStrI J)) :=
  m_callJT call_str_int cb_strI hg hm boot_str ha (by decide) (by decide) he hpl
theorem m_intS {e : Expr} {p pos : Pos} {J : EAv} (hg : Gl X "int") (hm : X.mg "int" = none) (ha : PA X [e] (tjOf G W J)) (he : starEach [e] X.env = [(false, eval e X.env)] := by rfl) (hpl : (backTo pos (starEach [] X.env)).any (·.1) = false := by rfl) : PE X (.Call (.Name "int" p) [e] [] pos) (teOf G W (iCallJ fIntS J)) :=
  m_callJT call_int_str cb_intS hg hm boot_int ha (by decide) (by decide) he hpl
end
end MR
set_option maxRecDepth 100000
set_option maxHeartbeats 4000000
/-! MirBor: a list that is one slot's own is read as if it were frozen, for one expression whose result holds no list; then it is own again. -/
namespace MR
open PySem L2
mutual
/-- holds no list -/
def noL : IV → Bool
  | .lst _ => false
  | .tup xs => noLA xs
  | .dic kvs => noLP kvs
  | .ins _ fs => noLF fs
  | .err _ fs => noLF fs
  | .dnk ks xs => noLA ks && noLA xs
  | _ => true
def noLA : List IV → Bool
  | [] => true
  | x :: xs => noL x && noLA xs
def noLP : List (Key × IV) → Bool
  | [] => true
  | (_, x) :: xs => noL x && noLP xs
def noLF : List (Str × IV) → Bool
  | [] => true
  | (_, x) :: xs => noL x && noLF xs
end
theorem noLA_mem : ∀ {xs : List IV}, noLA xs = true → ∀ x ∈ xs, noL x = true
  | [], _, _, h => by cases h
  | y :: ys, p, x, h => by
    simp only [noLA, Bool.and_eq_true] at p
    rcases List.mem_cons.mp h with e | h
    · rw [e]; exact p.1
    · exact noLA_mem p.2 x h
theorem noLP_mem : ∀ {xs : List (Key × IV)}, noLP xs = true → ∀ x ∈ xs, noL x.2 = true
  | [], _, _, h => by cases h
  | (k, y) :: ys, p, x, h => by
    simp only [noLP, Bool.and_eq_true] at p
    rcases List.mem_cons.mp h with e | h
    · rw [e]; exact p.1
    · exact noLP_mem p.2 x h
theorem noLF_mem : ∀ {xs : List (Str × IV)}, noLF xs = true → ∀ x ∈ xs, noL x.2 = true
  | [], _, _, h => by cases h
  | (k, y) :: ys, p, x, h => by
    simp only [noLF, Bool.and_eq_true] at p
    rcases List.mem_cons.mp h with e | h
    · rw [e]; exact p.1
    · exact noLF_mem p.2 x h
section
variable {G : Gx} {F F2 : AP1} {H : Hp}
mutual
theorem Fz.noL (k : ∀ a o, F a → H a = some o → (∀ vs, o ≠ .lst vs) → F2 a) : ∀ {v : V} {d : IV}, Fz G F H v d → MR.noL d = true → Fz G F2 H v d
  | _, _, .non, _ => .non
  | _, _, .bl b, _ => .bl b
  | _, _, .int i, _ => .int i
  | _, _, .str s, _ => .str s
  | _, _, .ty n, _ => .ty n
  | _, _, .cl c, _ => .cl c
  | _, _, .tup h a z, p => .tup h (FzA.noL k a (noLA_mem (by simpa only [MR.noL] using p))) z
  | _, _, .lst f h a z, p => by simp [MR.noL] at p
  | _, _, .scr h z, _ => .scr h z
  | _, _, .dic f h a z, p => .dic (k _ _ f h (fun _ e => by cases e)) h (FzP.noL k a (noLP_mem (by simpa only [MR.noL] using p))) z
  | _, _, .ins f h a, p => .ins (k _ _ f h (fun _ e => by cases e)) h (FzP.noL k a (noLF_mem (by simpa only [MR.noL] using p)))
  | _, _, .err0 f h, _ => .err0 (k _ _ f h (fun _ e => by cases e)) h
  | _, _, .errD f h f2 h2 a, p => .errD (k _ _ f h (fun _ e => by cases e)) h (k _ _ f2 h2 (fun _ e => by cases e)) h2 (FzP.noL k a (noLF_mem (by simpa only [MR.noL] using p)))
  | _, _, .lam g e h f hc, _ => .lam g e h (k _ _ f hc (fun _ e => by cases e)) hc
  | _, _, .dnk g h a z, p => .dnk g h (FzN.noL k a (noLA_mem (by simp only [MR.noL, Bool.and_eq_true] at p; exact p.1)) (noLA_mem (by simp only [MR.noL, Bool.and_eq_true] at p; exact p.2))) z
theorem FzN.noL (k : ∀ a o, F a → H a = some o → (∀ vs, o ≠ .lst vs) → F2 a) : ∀ {L : List NDict.DRow} {ks xs : List IV}, FzN G F H L ks xs → (∀ x ∈ ks, MR.noL x = true) → (∀ x ∈ xs, MR.noL x = true) → FzN G F2 H L ks xs
  | _, _, _, .nil, _, _ => .nil
  | _, _, _, .cons e z kk v t, p, q => .cons e z (Fz.noL k kk (p _ List.mem_cons_self)) (Fz.noL k v (q _ List.mem_cons_self)) (FzN.noL k t (fun x h => p x (List.mem_cons_of_mem _ h)) (fun x h => q x (List.mem_cons_of_mem _ h)))
theorem FzA.noL (k : ∀ a o, F a → H a = some o → (∀ vs, o ≠ .lst vs) → F2 a) : ∀ {vs : List V} {ds : List IV}, FzA G F H vs ds → (∀ x ∈ ds, MR.noL x = true) → FzA G F2 H vs ds
  | _, _, .nil, _ => .nil
  | _, _, .cons h t, p => .cons (Fz.noL k h (p _ List.mem_cons_self)) (FzA.noL k t fun x h => p x (List.mem_cons_of_mem _ h))
theorem FzP.noL (k : ∀ a o, F a → H a = some o → (∀ vs, o ≠ .lst vs) → F2 a) : ∀ {κ : Type} {vs : List (κ × V)} {ds : List (κ × IV)}, FzP G F H vs ds → (∀ x ∈ ds, MR.noL x.2 = true) → FzP G F2 H vs ds
  | _, _, _, .nil, _ => .nil
  | _, _, _, .cons h t, p => .cons (Fz.noL k h (p _ List.mem_cons_self)) (FzP.noL k t fun x h => p x (List.mem_cons_of_mem _ h))
end
end
/-- own slots are hidden, but for i, that is read as if frozen -/
def hidS : Sl → Sl
  | .fz d => .fz d
  | _ => .un
def hidE (ρ : Env) (i : Nat) (d : IV) : Env := (ρ.map hidS).set i (.fz d)
section
variable {X : Cx} {G : Gx} {W : WX} {σ : L2.St} {H : Hp} {F : AP1} {fp : FPt} {ρ : Env}
theorem EnvR.hid {i : Nat} {d d' : IV} {v : V} (e : EnvR G F H σ ρ fp) (hv : σ[i]? = some (some v)) (hf : Fz G (fun a => F a ∨ fp i a) H v d') : EnvR G (fun a => F a ∨ fp i a) H σ (hidE ρ i d') (fun _ _ => False) := by
  have s : Stq H F H (fun a => F a ∨ fp i a) := ⟨fun _ _ e _ => e, fun _ _ e _ => e, fun _ f => Or.inl f⟩
  refine ⟨fun j dj z => ?_, fun j dj z => ?_, fun _ _ _ h => h.elim, fun _ _ h => h.elim, fun _ _ h => h.elim, fun _ _ _ h => h.elim, fun a f => ?_, by unfold hidE; rw [List.length_set, List.length_map]; exact e.len⟩
  · unfold hidE at z
    rcases get_set z with ⟨rfl, z, _⟩ | ⟨hn, z⟩
    · cases z
      exact ⟨v, hv, hf⟩
    · rw [List.getElem?_map] at z
      cases hj : ρ[j]? with
      | none => rw [hj] at z; cases z
      | some x =>
        rw [hj] at z
        cases x with
        | fz x =>
          cases z
          obtain ⟨w, e1, e2⟩ := e.fz j _ hj
          exact ⟨w, e1, e2.mono s⟩
        | un => cases z
        | ow x => cases z
  · unfold hidE at z
    rcases get_set z with ⟨rfl, z, _⟩ | ⟨hn, z⟩
    · cases z
    · rw [List.getElem?_map] at z
      cases hj : ρ[j]? with
      | none => rw [hj] at z; cases z
      | some x =>
        rw [hj] at z
        cases x <;> cases z
  · rcases f with f | f
    · exact e.ft a f
    · exact e.tr i a f
end
end MR
set_option maxRecDepth 100000
set_option maxHeartbeats 4000000
/-! MirMt: a method of an instance that is one slot's own (its fields own lists): called with the slot lent; read as if frozen. -/
namespace MR
open PySem L2 PyProof.Rows
/-! ### o.m(..), o lent -/
def tMethA (C : Addr) (m : Str) (sp : Sp) (E : L2.St → XK) (ta : TE) (t : TA) : TE := fun σ H Q => ta σ H fun x H1 => ∃ a dx fs, x = .ref a ∧ H1 a = some (.ins C dx fs) ∧ fs.lookup m = none ∧
  t σ H1 fun vs H2 => sp (x :: vs) H2 Q (E σ)
section
variable {X : Cx} {CX : CXT} {k : Nat} {C f : Addr} {fd : FuncData} {ps : List Str} {sp : Sp} {E : L2.St → XK} {m : Str} {o e : Expr} {es : List Expr} {ta : TE} {t : TA} {apos pos : Pos}
theorem pe_methA {pl : Sem Bool} (he : PE X o ta) (c : L2.Cls X.K C) (hm : L2.Meth X.K C m f) (F : FnOk X.prog X.w X.K X.mg X.base CX k f fd ps sp) (hr : Room k X.A) (hb : Binds X.K fd ps []) (hx : ∀ σ, PassesAt CX X σ (E σ)) (ha : PA X (e :: es) t)
    (hst : starEach (e :: es) X.env = (false, eval e X.env) :: starEach es X.env := by rfl) (hpl : (backTo pos (starEach es X.env)).any (·.1) = false := by rfl)
    (ht : eval (.Call (.Attribute o m apos) (e :: es) [] pos) X.env = (do
      let ov ← eval o X.env
      standAt apos.atName
      let (f, first) ← holding [ov] (getMethod ov m pl)
      callWith pos f first (backTo pos (starEach (e :: es) X.env)) (backToKw pos (keywordEach [] X.env))) := by rfl) :
    PE X (.Call (.Attribute o m apos) (e :: es) [] pos) (tMethA C m sp E ta t) := by
  refine ⟨fun pins s σ H Q I h => ?_⟩
  refine PySem.W.methodCall_KW (pl := pl) (thn (he.run pins s σ H _ I h) fun u s1 ⟨x, H1, I1, rx, a, dx, fs, ex, ea, l, q⟩ => ?_) ht
  subst ex
  obtain rfl : u = Value.ref a := rx
  refine getmeth_ok I1 ea c hm l ?_
  refine PySem.W.callWith_K (first := [.ref a]) (h₀ := X.base) I.ok.mod.kin hm.kp (thn (ha.run pos pins s1 σ H1 _ I1 q) fun us s2 ⟨vs, H2, I2, r, q2⟩ => ⟨I2.kIn, ?_⟩) hst hpl
  exact run_fnS (us := .ref a :: us) (vs := .ref a :: vs) F hr hb (hx σ) I2 (.cons rfl r) q2
theorem pe_methA0 {pl : Sem Bool} (he : PE X o ta) (c : L2.Cls X.K C) (hm : L2.Meth X.K C m f) (F : FnOk X.prog X.w X.K X.mg X.base CX k f fd ps sp) (hr : Room k X.A) (hb : Binds X.K fd ps []) (hx : ∀ σ, PassesAt CX X σ (E σ))
    (ht : eval (.Call (.Attribute o m apos) [] [] pos) X.env = (do
      let ov ← eval o X.env
      standAt apos.atName
      let (f, first) ← holding [ov] (getMethod ov m pl)
      callWith pos f first (backTo pos (starEach [] X.env)) (backToKw pos (keywordEach [] X.env))) := by rfl) :
    PE X (.Call (.Attribute o m apos) [] [] pos) (tMethA C m sp E ta tNil) := by
  refine ⟨fun pins s σ H Q I h => ?_⟩
  refine PySem.W.methodCall_KW (pl := pl) (thn (he.run pins s σ H _ I h) fun u s1 ⟨x, H1, I1, rx, a, dx, fs, ex, ea, l, q⟩ => ?_) ht
  subst ex
  obtain rfl : u = Value.ref a := rx
  refine getmeth_ok I1 ea c hm l ?_
  exact PySem.W.callWith_K0 (first := [.ref a]) I1.kIn hm.kp (run_fnS (us := [.ref a]) (vs := [.ref a]) F hr hb (hx σ) I1 (.cons rfl .nil) q)
end
/-- a method proved -/
structure FnMm (P : Program) (w : World) (K : Frag) (mg : Str → Option Value) (base : Heap) (G : Gx) (k : Nat) (c : String) (m : Str) (ks : List Bool) (fn : Fn) : Prop where
  ex : ∃ (f : Addr) (fd : FuncData) (ps : List Str), L2.Cls K (G.cls c) ∧ L2.Meth K (G.cls c) m f ∧ Binds K fd ps [] ∧ FnOk P w K mg base (L2.CX P w) k f fd ps (spOf G ks fn)
section
variable {X : Cx} {G : Gx} {W : WX} {σ : L2.St} {H : Hp} {F : AP1} {fp : FPt} {ρ : Env}
theorem OwP.look0 {ps : List Addr} {vs : List (Str × V)} {ds : List (Str × IV)} {f : Str} (a : OwP G F H ps vs ds) (h : ds.lookup f = none) : vs.lookup f = none := by
  induction a with
  | nil => rfl
  | @flat l us xs ps vs ds g hl fz z t ih =>
    rw [List.lookup_cons] at h ⊢
    split
    · rename_i e; rw [e] at h; cases h
    · rename_i e; rw [e] at h; exact ih h
  | @nest m rs ys ps vs ds g hl fz z t ih =>
    rw [List.lookup_cons] at h ⊢
    split
    · rename_i e; rw [e] at h; cases h
    · rename_i e; rw [e] at h; exact ih h
def iMethS (c : String) (m : Str) (i : Nat) (ks : List Bool) (fn : Fn) (J : EAv) : E := fun ρ => match ρ[i]? with
  | some (.ow (.sht c' ds)) => if c' = c ∧ ds.lookup m = none then iCallF ks fn (jSlot i J) ρ else .no
  | _ => .no
theorem q_methS {c : String} {m : Str} {i : Nat} {ks : List Bool} {fn : Fn} {J : EAv} : ∀ σ H Q, teOf G W (iMethS c m i ks fn J) σ H Q → tMethA (G.cls c) m (spOf G ks fn) (WE W) (tVar i) (tjOf G W J) σ H Q := by
  rintro σ H Q ⟨ρ, F, fp, en, h⟩
  unfold iMethS at h
  split at h
  · rename_i c' ds hd
    split at h
    · rename_i hc
      obtain ⟨rfl, hl⟩ := hc
      obtain ⟨v, q1, q2⟩ := en.ow i _ hd
      cases q2 with
      | @sht p dx _ vs _ ps _ hp a nd z =>
        refine ⟨_, q1, p, dx, vs, rfl, hp, a.look0 hl, ?_⟩
        have h' : Oc RV G W σ H F fp ((J ρ).bind fun xs ρ1 => callF ks fn (.s i :: xs) ρ1) Q := by
          unfold iCallF jSlot at h
          rw [hd] at h
          dsimp only at h
          cases hJ : J ρ with
          | ok xs ρ1 => rw [hJ] at h; exact h
          | ex c p ρ1 => rw [hJ] at h; exact h
          | no => rw [hJ] at h; exact h
        exact oc_bind en h' fun vs as ρ1 H1 F1 fp1 s1 e1 r1 h1 => call_sp e1 (RAs.cons (show RAv G σ F1 H1 (V.ref p) (.s i) from q1) r1) h1
    · exact h.elim
  · exact h.elim
theorem m_methS (o : Ok X G W) (c : String) (i : Nat) {k : Nat} {m x : Str} {ks : List Bool} {fn : Fn} {e : Expr} {es : List Expr} {apos pos npos : Pos} {J : EAv} {pl : Sem Bool} (Fo : FnMm X.prog X.w X.K X.mg X.base G k c m ks fn) (hr : Room k X.A) (ha : PA X (e :: es) (tjOf G W J)) (hN : X.N[i]? = some x := by rfl)
    (hv : Vis X.env.scope x := by first | exact Or.inl rfl | exact Or.inr (Or.inl rfl) | exact Or.inr (Or.inr rfl)) (hd : (x == ("__debug__" : Str)) = false := by decide) (hcd : (x == ("__classdict__" : Str)) = false := by decide)
    (hst : starEach (e :: es) X.env = (false, eval e X.env) :: starEach es X.env := by rfl) (hpl : (backTo pos (starEach es X.env)).any (·.1) = false := by rfl)
    (ht : eval (.Call (.Attribute (.Name x npos) m apos) (e :: es) [] pos) X.env = (do
      let ov ← eval (.Name x npos) X.env
      standAt apos.atName
      let (f, first) ← holding [ov] (getMethod ov m pl)
      callWith pos f first (backTo pos (starEach (e :: es) X.env)) (backToKw pos (keywordEach [] X.env))) := by rfl) :
    PE X (.Call (.Attribute (.Name x npos) m apos) (e :: es) [] pos) (teOf G W (iMethS c m i ks fn J)) := by
  obtain ⟨f, fd, ps, hc, hm, hb, F⟩ := Fo.ex
  exact PE.imp (pe_methA (pl := pl) (pe_var hN hv hd hcd) hc hm F hr hb (fun σ => passAt o.tk σ) ha hst hpl ht) q_methS
theorem m_methS0 (o : Ok X G W) (c : String) (i : Nat) {k : Nat} {m x : Str} {ks : List Bool} {fn : Fn} {apos pos npos : Pos} {pl : Sem Bool} (Fo : FnMm X.prog X.w X.K X.mg X.base G k c m ks fn) (hr : Room k X.A) (hN : X.N[i]? = some x := by rfl)
    (hv : Vis X.env.scope x := by first | exact Or.inl rfl | exact Or.inr (Or.inl rfl) | exact Or.inr (Or.inr rfl)) (hd : (x == ("__debug__" : Str)) = false := by decide) (hcd : (x == ("__classdict__" : Str)) = false := by decide)
    (ht : eval (.Call (.Attribute (.Name x npos) m apos) [] [] pos) X.env = (do
      let ov ← eval (.Name x npos) X.env
      standAt apos.atName
      let (f, first) ← holding [ov] (getMethod ov m pl)
      callWith pos f first (backTo pos (starEach [] X.env)) (backToKw pos (keywordEach [] X.env))) := by rfl) :
    PE X (.Call (.Attribute (.Name x npos) m apos) [] [] pos) (teOf G W (iMethS c m i ks fn jNil)) := by
  obtain ⟨f, fd, ps, hc, hm, hb, F⟩ := Fo.ex
  refine PE.imp (pe_methA0 (pl := pl) (pe_var hN hv hd hcd) hc hm F hr hb (fun σ => passAt o.tk σ) ht) ?_
  intro σ H Q h
  obtain ⟨v, hv', a, dx, fs, ex, ha, hl, q⟩ := q_methS (J := jNil) σ H Q h
  exact ⟨v, hv', a, dx, fs, ex, ha, hl, by
    obtain ⟨ρ, F', fp', en, z⟩ := q
    exact oc_okR z en .nil⟩
end
/-! ### read as if frozen -/
mutual
/-- neither list nor dict nor instance within -/
def flatI : IV → Bool
  | .non => true
  | .bl _ => true
  | .int _ => true
  | .str _ => true
  | .tup xs => flatA xs
  | _ => false
def flatA : List IV → Bool
  | [] => true
  | x :: xs => flatI x && flatA xs
end
section
variable {G : Gx} {F F2 : AP1} {H : Hp}
theorem flatA_mem : ∀ {xs : List IV}, flatA xs = true → ∀ x ∈ xs, flatI x = true
  | [], _, _, h => by cases h
  | y :: ys, p, x, h => by
    simp only [flatA, Bool.and_eq_true] at p
    rcases List.mem_cons.mp h with e | h
    · rw [e]; exact p.1
    · exact flatA_mem p.2 x h
mutual
theorem Fz.flat : ∀ {v : V} {d : IV}, Fz G F H v d → flatI d = true → Fz G F2 H v d
  | _, _, .non, _ => .non
  | _, _, .bl b, _ => .bl b
  | _, _, .int i, _ => .int i
  | _, _, .str s, _ => .str s
  | _, _, .tup h a z, p => .tup h (FzA.flat a (flatA_mem (by simpa only [flatI] using p))) z
  | _, _, .ty _, p => by simp [flatI] at p
  | _, _, .cl _, p => by simp [flatI] at p
  | _, _, .lst f h a z, p => by simp [flatI] at p
  | _, _, .scr h z, p => by simp [flatI] at p
  | _, _, .dic f h a z, p => by simp [flatI] at p
  | _, _, .ins f h a, p => by simp [flatI] at p
  | _, _, .err0 f h, p => by simp [flatI] at p
  | _, _, .errD f h f2 h2 a, p => by simp [flatI] at p
  | _, _, .lam g e h f hc, p => by simp [flatI] at p
  | _, _, .dnk g h a z, p => by simp [flatI] at p
theorem FzA.flat : ∀ {vs : List V} {ds : List IV}, FzA G F H vs ds → (∀ x ∈ ds, flatI x = true) → FzA G F2 H vs ds
  | _, _, .nil, _ => .nil
  | _, _, .cons h t, p => .cons (Fz.flat h (p _ List.mem_cons_self)) (FzA.flat t fun x h => p x (List.mem_cons_of_mem _ h))
end
end
/-- what the fields read as -/
def rdI : IV → IV
  | .lds ys => .lst ys
  | d => d
def rdF (ds : List (Str × IV)) : List (Str × IV) := ds.map fun q => (q.1, rdI q.2)
section
variable {X : Cx} {G : Gx} {W : WX} {σ : L2.St} {H : Hp} {F : AP1} {fp : FPt} {ρ : Env}
theorem LsAt.fz : ∀ {ps : List Addr} {ds : List IV}, LsAt G F H ps ds → (∀ p ∈ ps, F p) → FzA G F H (ps.map V.ref) ds
  | _, _, .nil, _ => .nil
  | _, _, .cons h a z t, f => .cons (.lst (f _ List.mem_cons_self) h a z) (t.fz fun p hp => f p (List.mem_cons_of_mem _ hp))
theorem OwP.fz : ∀ {ps : List Addr} {vs : List (Str × V)} {ds : List (Str × IV)}, OwP G F H ps vs ds → (∀ p ∈ ps, F p) → FzP G F H vs (rdF ds)
  | _, _, _, .nil, _ => .nil
  | _, _, _, .flat h a z t, f => .cons (.lst (f _ List.mem_cons_self) h a z) (t.fz fun p hp => f p (List.mem_cons_of_mem _ hp))
  | _, _, _, .nest h a z t, f => .cons (.lst (f _ List.mem_cons_self) h (a.fz fun p hp => f p (List.mem_cons_of_mem _ (List.mem_append_left _ hp))) (by rw [List.length_map]; exact z)) (t.fz fun p hp => f p (List.mem_cons_of_mem _ (List.mem_append_right _ hp)))
theorem Own.shtF {v : V} {c : String} {ds : List (Str × IV)} {q : AP1} (h : Own G F H v (.sht c ds) q) : Fz G (fun a => F a ∨ q a) H v (.ins c (rdF ds)) := by
  cases h with
  | sht hp a nd e =>
    have s : Stq H F H (fun a => F a ∨ q a) := ⟨fun _ _ e _ => e, fun _ _ e _ => e, fun _ f => Or.inl f⟩
    exact .ins (Or.inr ((e _).mpr List.mem_cons_self)) hp ((a.mono s fun _ _ _ h => h).fz fun p hp => Or.inr ((e _).mpr (List.mem_cons_of_mem _ hp)))
theorem bor_fr {i : Nat} {F' : AP1} {H' : Hp} {fp' : FPt} {σ' : L2.St} {ρ' : Env} (e : EnvR G F H σ ρ fp) (st : Stp H (fun a => F a ∨ fp i a) (un fun _ _ => False) H' F' (un fp')) (e' : EnvR G F' H' σ' ρ' fp') : Fr H F H' (fun a => F' a ∧ ¬ fp i a) := by
  have no : ∀ a, ¬ un (fun _ _ => False : FPt) a := fun a ⟨_, h⟩ => h
  refine ⟨fun a o h => st.keep a o h (no a), fun a f => ⟨st.frm a (Or.inl f), fun p => e.nf i a p f⟩, fun a f => ?_⟩
  rcases st.fnew a f.1 with (g | g) | g | g
  · exact Or.inl g
  · exact (f.2 g).elim
  · exact (no a g).elim
  · exact Or.inr ⟨g, e'.ft a f.1⟩
/-- e, slot i (fields own lists) lent to it for reading; the result holds none of them -/
def iBorS (i : Nat) (E : MR.E) : MR.E := fun ρ => match ρ[i]? with
  | some (.ow (.sht c ds)) => (match E (hidE ρ i (.ins c (rdF ds))) with
    | .ok r _ => if flatI r = true then .ok r ρ else .no
    | _ => .no)
  | _ => E ρ
theorem q_borS {i : Nat} {E : MR.E} : ∀ σ H Q, teOf G W (iBorS i E) σ H Q → teOf G W E σ H Q := by
  rintro σ H Q ⟨ρ, F, fp, e, h⟩
  unfold iBorS at h
  split at h
  · rename_i c ds hi
    obtain ⟨v, e1, e2⟩ := e.ow i _ hi
    refine ⟨hidE ρ i (.ins c (rdF ds)), _, _, e.hid (d := .sht c ds) e1 e2.shtF, ?_⟩
    split at h
    · rename_i r ρ1 hE
      split at h
      · rename_i hn
        rw [hE]
        intro w H' F' fp' st e' rf
        have fr := bor_fr e st e'
        exact h w H' _ fp (fr.stp _) (e.fr fr) (Fz.flat rf hn)
      · exact h.elim
    · exact h.elim
  · exact ⟨ρ, F, fp, e, h⟩
/-- .. for a test -/
def iBorST (i : Nat) (E : EB) : EB := fun ρ => match ρ[i]? with
  | some (.ow (.sht c ds)) => (match E (hidE ρ i (.ins c (rdF ds))) with
    | .ok r _ => .ok r ρ
    | _ => .no)
  | _ => E ρ
theorem q_borST {i : Nat} {E : EB} : ∀ σ H Q, ttOf G W (iBorST i E) σ H Q → ttOf G W E σ H Q := by
  rintro σ H Q ⟨ρ, F, fp, e, h⟩
  unfold iBorST at h
  split at h
  · rename_i c ds hi
    obtain ⟨v, e1, e2⟩ := e.ow i _ hi
    refine ⟨hidE ρ i (.ins c (rdF ds)), _, _, e.hid (d := .sht c ds) e1 e2.shtF, ?_⟩
    split at h
    · rename_i r ρ1 hE
      rw [hE]
      intro w H' F' fp' st e' rf
      have fr := bor_fr e st e'
      exact h w H' _ fp (fr.stp _) (e.fr fr) rf
    · exact h.elim
  · exact ⟨ρ, F, fp, e, h⟩
theorem n_borS (i : Nat) {e : Expr} {E : EB} (h : PT X e (ttOf G W E)) : PT X e (ttOf G W (iBorST i E)) := PT.imp h q_borST
theorem m_borS (i : Nat) {e : Expr} {E : MR.E} (h : PE X e (teOf G W E)) : PE X e (teOf G W (iBorS i E)) := PE.imp h q_borS
end
end MR
set_option maxRecDepth 100000
set_option maxHeartbeats 4000000
/-! MirShw: writes to an own instance whose fields are own lists, or own lists of own lists: self.f = [], self.f.append(x), self.f.append([]), self.f[-1].append(x). -/
namespace MR
open PySem L2 PyProof.Rows
section
variable {X : Cx} {G : Gx} {W : WX} {σ : L2.St} {H H' : Hp} {F : AP1} {fp : FPt} {ρ : Env} {cs : List String} {pin : List Nat}
theorem EnvR.stqK {i : Nat} (e : EnvR G F H σ ρ fp) (keep : ∀ a o, H a = some o → ¬ fp i a → H' a = some o) : Stq H F H' F := ⟨fun a o h f => keep a o h fun p => e.nf i a p f, fun a o h m => keep a o h fun p => e.ni i a o p h m, fun _ f => f⟩
/-- a slot's own value, rewritten -/
theorem EnvR.rew {i : Nat} {d' : IV} {v : V} {q' : AP1} (e : EnvR G F H σ ρ fp) (hv : σ[i]? = some (some v)) (keep : ∀ a o, H a = some o → ¬ fp i a → H' a = some o) (dom : ∀ a, H' a = none → H a = none)
    (qn : ∀ a, q' a → fp i a ∨ H a = none) (qt : ∀ a, q' a → ∃ o, H' a = some o ∧ ¬ Imm o) (r : Own G F H' v d' q') : EnvR G F H' σ (ρ.set i (.ow d')) (fun j => if j = i then q' else fp j) := by
  have s := e.stqK keep
  have oth : ∀ j a, j ≠ i → fp j a → ¬ fp i a := fun j a n h z => n (e.dis j i a h z)
  refine ⟨fun j d z => ?_, fun j d z => ?_, fun j1 j2 a h1 h2 => ?_, fun j a h f => ?_, fun j a h => ?_, fun j a o h z => ?_, fun a f z => e.ft a f (dom a z), by rw [List.length_set]; exact e.len⟩
  · rcases get_set z with ⟨rfl, z, _⟩ | ⟨_, z⟩
    · cases z
    · obtain ⟨w, e1, e2⟩ := e.fz j d z
      exact ⟨w, e1, e2.mono s⟩
  · rcases get_set z with ⟨rfl, z, _⟩ | ⟨n, z⟩
    · cases z
      try dsimp only
      rw [if_pos rfl]
      exact ⟨v, hv, r⟩
    · obtain ⟨w, e1, e2⟩ := e.ow j d z
      try dsimp only
      rw [if_neg n]
      exact ⟨w, e1, e2.mono s fun a o h p => keep a o h (oth j a n p)⟩
  · try dsimp only at h1 h2
    by_cases n1 : j1 = i
    · by_cases n2 : j2 = i
      · rw [n1, n2]
      · rw [if_pos n1] at h1
        rw [if_neg n2] at h2
        rcases qn a h1 with p | p
        · exact (n2 (e.dis _ _ a h2 p)).elim
        · exact (e.tr _ a h2 p).elim
    · rw [if_neg n1] at h1
      by_cases n2 : j2 = i
      · rw [if_pos n2] at h2
        rcases qn a h2 with p | p
        · exact (n1 (e.dis _ _ a h1 p)).elim
        · exact (e.tr _ a h1 p).elim
      · rw [if_neg n2] at h2
        exact e.dis _ _ a h1 h2
  · try dsimp only at h
    by_cases n : j = i
    · rw [if_pos n] at h
      rcases qn a h with p | p
      · exact e.nf i a p f
      · exact e.ft a f p
    · rw [if_neg n] at h
      exact e.nf j a h f
  · try dsimp only at h
    by_cases n : j = i
    · rw [if_pos n] at h
      obtain ⟨o, ho, _⟩ := qt a h
      intro z
      rw [ho] at z; cases z
    · rw [if_neg n] at h
      exact fun z => e.tr j a h (dom a z)
  · try dsimp only at h
    by_cases n : j = i
    · rw [if_pos n] at h
      obtain ⟨o', ho, hi⟩ := qt a h
      rw [ho] at z; cases z
      exact hi
    · rw [if_neg n] at h
      cases hz : H a with
      | none => exact (e.tr j a h hz).elim
      | some o' =>
        have := keep a o' hz (oth j a n h)
        rw [z] at this; cases this
        exact e.ni j a o h hz
theorem Stp.rew {i : Nat} {q' : AP1} (keep : ∀ a o, H a = some o → ¬ fp i a → H' a = some o) (dom : ∀ a, H' a = none → H a = none) (qn : ∀ a, q' a → fp i a ∨ H a = none) : Stp H F (un fp) H' F (un fun j => if j = i then q' else fp j) := by
  refine ⟨fun a o h n => keep a o h fun p => n ⟨i, p⟩, fun _ f => f, fun _ f => Or.inl f, fun a h => ?_, dom⟩
  obtain ⟨j, h⟩ := h
  try dsimp only at h
  by_cases n : j = i
  · rw [if_pos n] at h
    exact (qn a h).imp (fun p => ⟨i, p⟩) id
  · rw [if_neg n] at h
    exact Or.inl ⟨j, h⟩
/-! ### the fields -/
theorem OwP.at {ps : List Addr} {vs : List (Str × V)} {ds : List (Str × IV)} (a : OwP G F H ps vs ds) : ∀ p ∈ ps, ∃ us, H p = some (.lst us) := by
  have hls : ∀ {rs : List Addr} {ys : List IV}, LsAt G F H rs ys → ∀ p ∈ rs, ∃ us, H p = some (.lst us) := by
    intro rs ys h
    induction h with
    | nil => intro p hp; cases hp
    | cons h a z t ih =>
      intro p hp
      rcases List.mem_cons.mp hp with rfl | hp
      · exact ⟨_, h⟩
      · exact ih p hp
  induction a with
  | nil => intro p hp; cases hp
  | flat h a z t ih =>
    intro p hp
    rcases List.mem_cons.mp hp with rfl | hp
    · exact ⟨_, h⟩
    · exact ih p hp
  | nest h a z t ih =>
    intro p hp
    rcases List.mem_cons.mp hp with rfl | hp
    · exact ⟨_, h⟩
    · rcases List.mem_append.mp hp with hp | hp
      · exact hls a p hp
      · exact ih p hp
/-- one more field -/
theorem OwP.newF {ps : List Addr} {vs : List (Str × V)} {ds : List (Str × IV)} {f : Str} {r : Addr} (b : Bool) (a : OwP G F H ps vs ds) (hf : ds.lookup f = none) (hr : H r = some (.lst [])) : OwP G F H (ps ++ [r]) (putF f (.ref r) vs) (putI f (if b = true then .lds [] else .lst []) ds) := by
  induction a with
  | nil =>
    cases b
    · exact .flat hr .nil (Nat.zero_le _) .nil
    · exact .nest (rs := []) hr .nil (Nat.zero_le _) .nil
  | @flat l us xs ps vs ds g hl fz z t ih =>
    rw [List.lookup_cons] at hf
    have hg : ¬ g = f := fun e => by subst e; simp at hf
    have hf' : ds.lookup f = none := by
      split at hf
      · cases hf
      · exact hf
    simp only [putF, putI, if_neg hg]
    exact .flat hl fz z (ih hf')
  | @nest m rs ys ps vs ds g hl fz z t ih =>
    rw [List.lookup_cons] at hf
    have hg : ¬ g = f := fun e => by subst e; simp at hf
    have hf' : ds.lookup f = none := by
      split at hf
      · cases hf
      · exact hf
    simp only [putF, putI, if_neg hg, List.cons_append, List.append_assoc]
    exact .nest hl fz z (ih hf')
/-- a flat field, rewritten -/
theorem OwP.app {ps : List Addr} {vs : List (Str × V)} {ds : List (Str × IV)} {f : Str} {xs : List IV} (a : OwP G F H ps vs ds) (hf : ds.lookup f = some (.lst xs)) (nd : ps.Nodup) :
    ∃ l us, vs.lookup f = some (.ref l) ∧ l ∈ ps ∧ H l = some (.lst us) ∧ FzA G F H us xs ∧ us.length ≤ big ∧ ∀ (H' : Hp) (us' : List V) (xs' : List IV), Stq H F H' F → H' l = some (.lst us') → (∀ p ∈ ps, p ≠ l → ∀ o, H p = some o → H' p = some o) → FzA G F H' us' xs' → us'.length ≤ big →
      OwP G F H' ps vs (putI f (.lst xs') ds) := by
  induction a with
  | nil => cases hf
  | @flat l us xs0 ps vs ds g hl fz z t ih =>
    obtain ⟨n1, n2⟩ := List.nodup_cons.mp nd
    by_cases hg : g = f
    · subst hg
      simp at hf
      subst hf
      refine ⟨l, us, by simp, List.mem_cons_self, hl, fz, z, fun H' us' xs' s h k fz' z' => ?_⟩
      simp only [putI, if_pos]
      exact .flat h fz' z' (t.mono s fun p hp o ho => k p (List.mem_cons_of_mem _ hp) (fun e => n1 (e ▸ hp)) o ho)
    · have hb : (f == g) = false := by simpa using fun e => hg e.symm
      rw [List.lookup_cons, hb] at hf
      obtain ⟨l', us', h1, h2, h3, h4, h5, h6⟩ := ih hf n2
      refine ⟨l', us', by rw [List.lookup_cons, hb]; exact h1, List.mem_cons_of_mem _ h2, h3, h4, h5, fun H' us2 xs2 s h k fz' z' => ?_⟩
      simp only [putI, if_neg hg]
      exact .flat (k l List.mem_cons_self (fun e => n1 (e ▸ h2)) _ hl) (fz.mono s) z (h6 H' us2 xs2 s h (fun p hp => k p (List.mem_cons_of_mem _ hp)) fz' z')
  | @nest m rs ys ps vs ds g hl fz z t ih =>
    obtain ⟨n1, n2⟩ := List.nodup_cons.mp nd
    by_cases hg : g = f
    · subst hg
      simp at hf
    · have hb : (f == g) = false := by simpa using fun e => hg e.symm
      rw [List.lookup_cons, hb] at hf
      obtain ⟨l', us', h1, h2, h3, h4, h5, h6⟩ := ih hf (List.nodup_append.mp n2).2.1
      have dj : ∀ p ∈ rs, p ≠ l' := fun p hp e => (List.nodup_append.mp n2).2.2 p hp l' h2 e
      refine ⟨l', us', by rw [List.lookup_cons, hb]; exact h1, List.mem_cons_of_mem _ (List.mem_append_right _ h2), h3, h4, h5, fun H' us2 xs2 s h k fz' z' => ?_⟩
      simp only [putI, if_neg hg]
      exact .nest (k m List.mem_cons_self (fun e => n1 (e ▸ List.mem_append_right _ h2)) _ hl) (fz.mono s fun p hp => k p (List.mem_cons_of_mem _ (List.mem_append_left _ hp)) (dj p hp)) z (h6 H' us2 xs2 s h (fun p hp => k p (List.mem_cons_of_mem _ (List.mem_append_right _ hp))) fz' z')
theorem LsAt.snoc {r : Addr} : ∀ {rs : List Addr} {ys : List IV}, LsAt G F H rs ys → H r = some (.lst []) → LsAt G F H (rs ++ [r]) (ys ++ [.lst []])
  | _, _, .nil, hr => .cons hr .nil (Nat.zero_le _) .nil
  | _, _, .cons h a z t, hr => .cons h a z (t.snoc hr)
theorem LsAt.len : ∀ {rs : List Addr} {ys : List IV}, LsAt G F H rs ys → rs.length = ys.length
  | _, _, .nil => rfl
  | _, _, .cons h a z t => by rw [List.length_cons, List.length_cons, t.len]
theorem LsAt.last {rs : List Addr} {ys : List IV} {xs : List IV} (a : LsAt G F H rs ys) (hl : ys.getLast? = some (.lst xs)) (nd : rs.Nodup) :
    ∃ r us, rs.getLast? = some r ∧ r ∈ rs ∧ H r = some (.lst us) ∧ FzA G F H us xs ∧ us.length ≤ big ∧ ∀ (H' : Hp) (us' : List V) (xs' : List IV), Stq H F H' F → H' r = some (.lst us') → (∀ p ∈ rs, p ≠ r → ∀ o, H p = some o → H' p = some o) → FzA G F H' us' xs' → us'.length ≤ big →
      LsAt G F H' rs (ys.dropLast ++ [.lst xs']) := by
  induction a with
  | nil => cases hl
  | @cons p ps vs xs0 ds h a z t ih =>
    obtain ⟨n1, n2⟩ := List.nodup_cons.mp nd
    cases t with
    | nil =>
      cases hl
      refine ⟨p, vs, rfl, List.mem_cons_self, h, a, z, fun H' us' xs' s h' k fz' z' => ?_⟩
      exact .cons h' fz' z' .nil
    | @cons p2 ps2 vs2 xs2 ds2 h2 a2 z2 t2 =>
      rw [List.getLast?_cons_cons] at hl
      obtain ⟨r, us, e1, e2, e3, e4, e5, e6⟩ := ih hl n2
      refine ⟨r, us, by rw [List.getLast?_cons_cons]; exact e1, List.mem_cons_of_mem _ e2, e3, e4, e5, fun H' us' xs' s h' k fz' z' => ?_⟩
      have hpr : p ≠ r := fun e => n1 (e ▸ e2)
      exact .cons (k p List.mem_cons_self hpr _ h) (a.mono s) z (e6 H' us' xs' s h' (fun q hq => k q (List.mem_cons_of_mem _ hq)) fz' z')
/-- a nested field: one more own list -/
theorem OwP.appN {ps : List Addr} {vs : List (Str × V)} {ds : List (Str × IV)} {f : Str} {ys : List IV} (a : OwP G F H ps vs ds) (hf : ds.lookup f = some (.lds ys)) (nd : ps.Nodup) :
    ∃ (m : Addr) (rs : List Addr), vs.lookup f = some (.ref m) ∧ m ∈ ps ∧ H m = some (.lst (rs.map V.ref)) ∧ rs.length = ys.length ∧ ∀ (H' : Hp) (r : Addr), Stq H F H' F → H' m = some (.lst (rs.map V.ref ++ [.ref r])) → H' r = some (.lst []) → (∀ p ∈ ps, p ≠ m → ∀ o, H p = some o → H' p = some o) → ys.length < 1000 → r ∉ ps →
      ∃ ps', OwP G F H' ps' vs (putI f (.lds (ys ++ [.lst []])) ds) ∧ (∀ a, a ∈ ps' ↔ a ∈ ps ∨ a = r) ∧ ps'.Nodup := by
  induction a with
  | nil => cases hf
  | @flat l us xs0 ps vs ds g hl fz z t ih =>
    obtain ⟨n1, n2⟩ := List.nodup_cons.mp nd
    by_cases hg : g = f
    · subst hg
      simp at hf
    · have hb : (f == g) = false := by simpa using fun e => hg e.symm
      rw [List.lookup_cons, hb] at hf
      obtain ⟨m, rs, h1, h2, h3, h4, h5⟩ := ih hf n2
      refine ⟨m, rs, by rw [List.lookup_cons, hb]; exact h1, List.mem_cons_of_mem _ h2, h3, h4, fun H' r s h hr k hz hn => ?_⟩
      obtain ⟨ps', q1, q2, q3⟩ := h5 H' r s h hr (fun p hp => k p (List.mem_cons_of_mem _ hp)) hz (fun z => hn (List.mem_cons_of_mem _ z))
      simp only [putI, if_neg hg]
      refine ⟨l :: ps', .flat (k l List.mem_cons_self (fun e => n1 (e ▸ h2)) _ hl) (fz.mono s) z q1, fun a => ?_, List.nodup_cons.mpr ⟨fun z => ?_, q3⟩⟩
      · rw [List.mem_cons, List.mem_cons, q2]
        exact or_assoc.symm
      · rcases (q2 l).mp z with z | z
        · exact n1 z
        · exact hn (z ▸ List.mem_cons_self)
  | @nest m rs ys0 ps vs ds g hl fz z t ih =>
    obtain ⟨n1, n2⟩ := List.nodup_cons.mp nd
    obtain ⟨n3, n4, n5⟩ := List.nodup_append.mp n2
    by_cases hg : g = f
    · subst hg
      simp at hf
      subst hf
      have hlen := fz.len
      refine ⟨m, rs, by simp, List.mem_cons_self, hl, hlen, fun H' r s h hr k hz hn => ?_⟩
      simp only [putI, if_pos]
      have hm : ∀ p, p ∈ rs ++ ps → p ≠ m := fun p hp e => n1 (e ▸ hp)
      refine ⟨m :: ((rs ++ [r]) ++ ps), .nest (by rw [h, List.map_append]; rfl) ((fz.mono s fun p hp => k p (List.mem_cons_of_mem _ (List.mem_append_left _ hp)) (hm p (List.mem_append_left _ hp))).snoc hr) ?_ (t.mono s fun p hp => k p (List.mem_cons_of_mem _ (List.mem_append_right _ hp)) (hm p (List.mem_append_right _ hp))), fun a => ?_, ?_⟩
      · rw [List.length_append, List.length_singleton, hlen]
        exact Nat.le_trans (by omega : ys0.length + 1 ≤ 1000) (by decide)
      · simp only [List.mem_cons, List.mem_append, List.not_mem_nil, or_false]
        constructor
        · rintro (h | (h | h) | h)
          · exact Or.inl (Or.inl h)
          · exact Or.inl (Or.inr (Or.inl h))
          · exact Or.inr h
          · exact Or.inl (Or.inr (Or.inr h))
        · rintro ((h | h | h) | h)
          · exact Or.inl h
          · exact Or.inr (Or.inl (Or.inl h))
          · exact Or.inr (Or.inr h)
          · exact Or.inr (Or.inl (Or.inr h))
      · have hr1 : r ∉ rs := fun z => hn (List.mem_cons_of_mem _ (List.mem_append_left _ z))
        have hr2 : r ∉ ps := fun z => hn (List.mem_cons_of_mem _ (List.mem_append_right _ z))
        have hr3 : r ≠ m := fun z => hn (z ▸ List.mem_cons_self)
        refine List.nodup_cons.mpr ⟨fun z => ?_, List.nodup_append.mpr ⟨List.nodup_append.mpr ⟨n3, by simp, fun a ha b hb e => ?_⟩, n4, fun a ha b hb e => ?_⟩⟩
        · simp only [List.mem_append, List.mem_cons, List.not_mem_nil, or_false] at z
          rcases z with (z | z) | z
          · exact n1 (List.mem_append_left _ z)
          · exact hr3 z.symm
          · exact n1 (List.mem_append_right _ z)
        · rw [List.mem_singleton] at hb
          subst hb e
          exact hr1 ha
        · simp only [List.mem_append, List.mem_cons, List.not_mem_nil, or_false] at ha
          rcases ha with ha | ha
          · exact n5 a ha b hb e
          · subst ha e
            exact hr2 hb
    · have hb : (f == g) = false := by simpa using fun e => hg e.symm
      rw [List.lookup_cons, hb] at hf
      obtain ⟨m', rs', h1, h2, h3, h4, h5⟩ := ih hf n4
      have dj : ∀ p ∈ rs, p ≠ m' := fun p hp e => n5 p hp m' h2 e
      refine ⟨m', rs', by rw [List.lookup_cons, hb]; exact h1, List.mem_cons_of_mem _ (List.mem_append_right _ h2), h3, h4, fun H' r s h hr k hz hn => ?_⟩
      obtain ⟨ps', q1, q2, q3⟩ := h5 H' r s h hr (fun p hp => k p (List.mem_cons_of_mem _ (List.mem_append_right _ hp))) hz (fun z => hn (List.mem_cons_of_mem _ (List.mem_append_right _ z)))
      simp only [putI, if_neg hg]
      refine ⟨m :: (rs ++ ps'), .nest (k m List.mem_cons_self (fun e => n1 (e ▸ List.mem_append_right _ h2)) _ hl) (fz.mono s fun p hp => k p (List.mem_cons_of_mem _ (List.mem_append_left _ hp)) (dj p hp)) z q1, fun a => ?_, List.nodup_cons.mpr ⟨fun z => ?_, List.nodup_append.mpr ⟨n3, q3, fun a ha b hb' e => ?_⟩⟩⟩
      · simp only [List.mem_cons, List.mem_append, q2]
        constructor
        · rintro (h | h | h | h)
          · exact Or.inl (Or.inl h)
          · exact Or.inl (Or.inr (Or.inl h))
          · exact Or.inl (Or.inr (Or.inr h))
          · exact Or.inr h
        · rintro ((h | h | h) | h)
          · exact Or.inl h
          · exact Or.inr (Or.inl h)
          · exact Or.inr (Or.inr (Or.inl h))
          · exact Or.inr (Or.inr (Or.inr h))
      · rcases List.mem_append.mp z with z | z
        · exact n1 (List.mem_append_left _ z)
        · rcases (q2 m).mp z with z | z
          · exact n1 (List.mem_append_right _ z)
          · exact hn (z ▸ List.mem_cons_self)
      · rcases (q2 b).mp hb' with z | z
        · exact n5 a ha b z e
        · exact hn (z ▸ e ▸ List.mem_cons_of_mem _ (List.mem_append_left _ ha))
/-- a nested field: its last list, rewritten -/
theorem OwP.appL {ps : List Addr} {vs : List (Str × V)} {ds : List (Str × IV)} {f : Str} {ys xs : List IV} (a : OwP G F H ps vs ds) (hf : ds.lookup f = some (.lds ys)) (hx : ys.getLast? = some (.lst xs)) (nd : ps.Nodup) :
    ∃ (m : Addr) (rs : List Addr) (r : Addr) (us : List V), vs.lookup f = some (.ref m) ∧ H m = some (.lst (rs.map V.ref)) ∧ rs.getLast? = some r ∧ r ∈ ps ∧ H r = some (.lst us) ∧ FzA G F H us xs ∧ us.length ≤ big ∧ ∀ (H' : Hp) (us' : List V) (xs' : List IV), Stq H F H' F → H' r = some (.lst us') → (∀ p ∈ ps, p ≠ r → ∀ o, H p = some o → H' p = some o) → FzA G F H' us' xs' → us'.length ≤ big →
      OwP G F H' ps vs (putI f (.lds (ys.dropLast ++ [.lst xs'])) ds) := by
  induction a with
  | nil => cases hf
  | @flat l us xs0 ps vs ds g hl fz z t ih =>
    obtain ⟨n1, n2⟩ := List.nodup_cons.mp nd
    by_cases hg : g = f
    · subst hg
      simp at hf
    · have hb : (f == g) = false := by simpa using fun e => hg e.symm
      rw [List.lookup_cons, hb] at hf
      obtain ⟨m, rs, r, us', h1, h2, h3, h4, h5, h6, h7, h8⟩ := ih hf n2
      refine ⟨m, rs, r, us', by rw [List.lookup_cons, hb]; exact h1, h2, h3, List.mem_cons_of_mem _ h4, h5, h6, h7, fun H' us2 xs2 s h k fz' z' => ?_⟩
      simp only [putI, if_neg hg]
      exact .flat (k l List.mem_cons_self (fun e => n1 (e ▸ h4)) _ hl) (fz.mono s) z (h8 H' us2 xs2 s h (fun p hp => k p (List.mem_cons_of_mem _ hp)) fz' z')
  | @nest m rs ys0 ps vs ds g hl fz z t ih =>
    obtain ⟨n1, n2⟩ := List.nodup_cons.mp nd
    obtain ⟨n3, n4, n5⟩ := List.nodup_append.mp n2
    by_cases hg : g = f
    · subst hg
      simp at hf
      subst hf
      obtain ⟨r, us, e1, e2, e3, e4, e5, e6⟩ := fz.last hx n3
      refine ⟨m, rs, r, us, by simp, hl, e1, List.mem_cons_of_mem _ (List.mem_append_left _ e2), e3, e4, e5, fun H' us2 xs2 s h k fz' z' => ?_⟩
      simp only [putI, if_pos]
      have hmr : m ≠ r := fun e => n1 (e ▸ List.mem_append_left _ e2)
      exact .nest (k m List.mem_cons_self hmr _ hl) (e6 H' us2 xs2 s h (fun p hp => k p (List.mem_cons_of_mem _ (List.mem_append_left _ hp))) fz' z') z (t.mono s fun p hp => k p (List.mem_cons_of_mem _ (List.mem_append_right _ hp)) fun e => n5 r e2 p hp e.symm)
    · have hb : (f == g) = false := by simpa using fun e => hg e.symm
      rw [List.lookup_cons, hb] at hf
      obtain ⟨m', rs', r, us', h1, h2, h3, h4, h5, h6, h7, h8⟩ := ih hf n4
      refine ⟨m', rs', r, us', by rw [List.lookup_cons, hb]; exact h1, h2, h3, List.mem_cons_of_mem _ (List.mem_append_right _ h4), h5, h6, h7, fun H' us2 xs2 s h k fz' z' => ?_⟩
      have dj : ∀ p ∈ rs, p ≠ r := fun p hp e => n5 p hp r h4 e
      simp only [putI, if_neg hg]
      exact .nest (k m List.mem_cons_self (fun e => n1 (e ▸ List.mem_append_right _ h4)) _ hl) (fz.mono s fun p hp => k p (List.mem_cons_of_mem _ (List.mem_append_left _ hp)) (dj p hp)) z (h8 H' us2 xs2 s h (fun p hp => k p (List.mem_cons_of_mem _ (List.mem_append_right _ hp))) fz' z')
/-! ### the statements -/
theorem keep1 {i : Nat} {l : Addr} {o1 : HO} (hl : fp i l) : ∀ a o, H a = some o → ¬ fp i a → upd H l o1 a = some o := fun a o h n => by
  have e1 : a ≠ l := fun e => n (by rw [e]; exact hl)
  rw [upd_ne e1]; exact h
theorem dom1 {l : Addr} {o1 : HO} (hl : H l ≠ none) : ∀ a, upd H l o1 a = none → H a = none := fun a h => by
  by_cases e : a = l
  · subst e; rw [upd_same] at h; cases h
  · rw [upd_ne e] at h; exact h
theorem keep2 {i : Nat} {l r : Addr} {o1 o2 : HO} (hl : fp i l) (hr : H r = none) : ∀ a o, H a = some o → ¬ fp i a → upd (upd H r o1) l o2 a = some o := fun a o h n => by
  have e1 : a ≠ l := fun e => n (by rw [e]; exact hl)
  have e2 : a ≠ r := fun e => by rw [e, hr] at h; cases h
  rw [upd_ne e1, upd_ne e2]; exact h
theorem dom2 {l r : Addr} {o1 o2 : HO} : ∀ a, upd (upd H r o1) l o2 a = none → H a = none := fun a h => by
  by_cases e : a = l
  · subst e; rw [upd_same] at h; cases h
  · rw [upd_ne e] at h
    by_cases e2 : a = r
    · subst e2; rw [upd_same] at h; cases h
    · rw [upd_ne e2] at h; exact h
def shO : IV → Option (String × List (Str × IV))
  | .ins c [] => some (c, [])
  | .sht c fs => some (c, fs)
  | _ => none
theorem Own.asSht {v : V} {d : IV} {c : String} {fs : List (Str × IV)} {q : AP1} (h : Own G F H v d q) (hs : shO d = some (c, fs)) : ∃ p dx vs ps, v = .ref p ∧ H p = some (.ins (G.cls c) dx vs) ∧ OwP G F H ps vs fs ∧ (p :: ps).Nodup ∧ ∀ a, q a ↔ a ∈ p :: ps := by
  unfold shO at hs
  split at hs
  · cases hs
    cases h with
    | @ins p dx _ vs _ _ hp a z =>
      cases a
      exact ⟨p, dx, [], [], rfl, hp, .nil, by simp, fun a => by rw [z, List.mem_singleton]⟩
  · cases hs
    cases h with
    | @sht p dx _ vs _ ps _ hp a nd z => exact ⟨p, dx, vs, ps, rfl, hp, a, nd, z⟩
  · cases hs
theorem OwP.len {ps : List Addr} {vs : List (Str × V)} {ds : List (Str × IV)} (a : OwP G F H ps vs ds) : vs.length = ds.length := by
  induction a with
  | nil => rfl
  | flat h a z t ih => rw [List.length_cons, List.length_cons, ih]
  | nest h a z t ih => rw [List.length_cons, List.length_cons, ih]
/-- self.f = [] -/
def sShN (cs : List String) (i : Nat) (f : Str) (b : Bool) : S := fun ρ => match ρ[i]? with
  | some (.ow d) => (match shO d with
    | some (c, fs) => if c ∈ cs ∧ fs.length < 1000 ∧ fs.lookup f = none then .nx (ρ.set i (.ow (.sht c (putI f (if b = true then .lds [] else .lst []) fs)))) else .no
    | none => .no)
  | _ => .no
theorem s_shN (o : Ok X G W) (k : KC G cs) (i : Nat) (b : Bool) {x f : Str} {pos' pos npos lpos : Pos} (hn : ∀ c ∈ cs, NoAttr G.K (G.cls c) f) (hN : X.N[i]? = some x := by rfl)
    (hv : Vis X.env.scope x := by first | exact Or.inl rfl | exact Or.inr (Or.inl rfl) | exact Or.inr (Or.inr rfl)) (hd : (x == ("__debug__" : Str)) = false := by decide) (hcd : (x == ("__classdict__" : Str)) = false := by decide)
    (hs : swapsWith (.List [] lpos) (some (.Attribute (.Name x npos) f pos')) pos.line X.env = pure false := by rfl) : PS X (.Assign [.Attribute (.Name x npos) f pos'] (.List [] lpos) pos) (tsOf G W pin (sShN cs i f b)) :=
  PS.imp (ps_fld (pe_var hN hv hd hcd) (pe_lst pa_nil) hs) fun D σ H ⟨ρ, F, fp, en, h⟩ => by
    refine ⟨Nat.zero_le _, fun r hr => ?_⟩
    unfold sShN at h
    split at h
    · rename_i d hi
      cases hsh : shO d with
      | none => rw [hsh] at h; exact h.elim
      | some q =>
        obtain ⟨c, fs⟩ := q
        rw [hsh] at h
        dsimp only at h
        split at h
        · rename_i hc
          obtain ⟨v, g1, g2⟩ := en.ow i _ hi
          obtain ⟨p, dx, vs, ps, rfl, hp, a, nd, z⟩ := g2.asSht hsh
          obtain ⟨n1, n2⟩ := List.nodup_cons.mp nd
          have hfp : fp i p := (z p).mpr List.mem_cons_self
          have hpr : p ≠ r := fun e => by subst e; rw [hr] at hp; cases hp
          have hps : ∀ q ∈ ps, q ≠ r := fun q hq e => by obtain ⟨us, hu⟩ := a.at q hq; subst e; rw [hr] at hu; cases hu
          refine ⟨_, g1, p, _, dx, vs, rfl, by rw [upd_ne hpr]; exact hp, by rw [o.K]; exact k.cls c hc.1, by rw [o.K]; exact hn c hc.1, by rw [a.len]; exact hc.2.1, ?_⟩
          have kp := keep2 (H := H) (r := r) (o1 := .lst []) (o2 := .ins (G.cls c) dx (putF f (.ref r) vs)) hfp hr
          have qn : ∀ a, (fun a => fp i a ∨ a = r) a → fp i a ∨ H a = none := fun a h => h.imp id fun (e : a = r) => by rw [e]; exact hr
          have hkps : ∀ q ∈ ps, ∀ o, H q = some o → upd (upd H r (.lst [])) p (.ins (G.cls c) dx (putF f (.ref r) vs)) q = some o := fun q hq o ho => by
            have e1 : q ≠ p := fun e => n1 (by rw [← e]; exact hq)
            rw [upd_ne e1, upd_ne (hps q hq)]; exact ho
          have hrr : upd (upd H r (.lst [])) p (.ins (G.cls c) dx (putF f (.ref r) vs)) r = some (.lst []) := by rw [upd_ne (Ne.symm hpr), upd_same]
          refine h σ _ F _ (Stp.rew (i := i) (q' := fun a => fp i a ∨ a = r) kp dom2 qn) (en.rew (i := i) g1 kp dom2 qn (fun a h => ?_) (.sht upd_same ((a.mono (en.stqK kp) hkps).newF b hc.2.2 hrr) ?_ fun a => ?_)) (Pn.refl _ _)
          · rcases h with h | rfl
            · rcases List.mem_cons.mp ((z a).mp h) with rfl | h
              · exact ⟨_, upd_same, fun z => z⟩
              · obtain ⟨us, hu⟩ := OwP.at ‹_› a h
                exact ⟨_, hkps a h _ hu, fun z => z⟩
            · exact ⟨_, hrr, fun z => z⟩
          · refine List.nodup_cons.mpr ⟨fun h => ?_, List.nodup_append.mpr ⟨n2, by simp, fun a ha b hb e => ?_⟩⟩
            · rcases List.mem_append.mp h with h | h
              · exact n1 h
              · exact hpr (List.mem_singleton.mp h)
            · rw [List.mem_singleton] at hb
              exact hps a ha (e.trans hb)
          · try dsimp only
            rw [z]
            simp only [List.mem_cons, List.mem_append, List.not_mem_nil, or_false]
            exact or_assoc
        · exact h.elim
    · exact h.elim
/-- self.f.append(x), f a flat field, x a frozen slot -/
def sShA (cs : List String) (i : Nat) (f : Str) (j : Nat) : S := fun ρ => match ρ[i]?, ρ[j]? with
  | some (.ow (.sht c fs)), some (.fz d) => (match fs.lookup f with
    | some (.lst xs) => if c ∈ cs ∧ xs.length < 1000 then .nx (ρ.set i (.ow (.sht c (putI f (.lst (xs ++ [d])) fs)))) else .no
    | _ => .no)
  | _, _ => .no
theorem s_shA (o : Ok X G W) (k : KC G cs) (i j : Nat) {x y f : Str} {apos cpos pos npos fpos ypos : Pos} (hn : ∀ c ∈ cs, NoAttr G.K (G.cls c) f) (hN : X.N[i]? = some x := by rfl) (hM : X.N[j]? = some y := by rfl)
    (hv : Vis X.env.scope x := by first | exact Or.inl rfl | exact Or.inr (Or.inl rfl) | exact Or.inr (Or.inr rfl)) (hd : (x == ("__debug__" : Str)) = false := by decide) (hcd : (x == ("__classdict__" : Str)) = false := by decide)
    (hvy : Vis X.env.scope y := by first | exact Or.inl rfl | exact Or.inr (Or.inl rfl) | exact Or.inr (Or.inr rfl)) (hdy : (y == ("__debug__" : Str)) = false := by decide) (hcy : (y == ("__classdict__" : Str)) = false := by decide)
    (hfb : attributeBase (.Name x npos) f X.env (eval (.Name x npos) X.env) = eval (.Name x npos) X.env := by rfl)
    (hbase : attributeBase (.Attribute (.Name x npos) f fpos) "append" X.env (eval (.Attribute (.Name x npos) f fpos) X.env) = eval (.Attribute (.Name x npos) f fpos) X.env := by rfl)
    (hfew : ((backTo cpos (starEach [.Name y ypos] X.env)).all (fun x => !x.1) && (backToKw cpos (keywordEach [] X.env)).all (fun x => x.1.isSome)
      && decide (([.Name y ypos] : List Expr).length + ([] : List Keyword).length + (if ([] : List Keyword).isEmpty then 0 else 1) < 30)) = true := by rfl)
    (hline : (apos.endLine == cpos.line) = true := by rfl) (hs1 : starEach [.Name y ypos] X.env = [(false, eval (.Name y ypos) X.env)] := by rfl)
    (hs : swapsWith (.Call (.Attribute (.Attribute (.Name x npos) f fpos) "append" apos) [.Name y ypos] [] cpos) none pos.line X.env = pure false := by rfl) :
    PS X (.Expr (.Call (.Attribute (.Attribute (.Name x npos) f fpos) "append" apos) [.Name y ypos] [] cpos) pos) (tsOf G W pin (sShA cs i f j)) := by
  have hm : MtR X "list.append" rAppend := mt_append
  refine PS.imp (ps_expr (pe_bm PySem.F.plainAttrs_list PySem.F.slot_list_append PySem.F.type_list_append hm (pe_fld (pe_var hN hv hd hcd) hfb) (pa_cons (pe_var hM hvy hdy hcy) pa_nil hs1) hbase hfew hline hs1 rfl) hs) ?_
  rintro D σ H ⟨ρ, F, fp, en, h⟩
  unfold sShA at h
  split at h
  · rename_i c fs d hi hj
    split at h
    · rename_i xs hl
      split at h
      · rename_i hc
        obtain ⟨v, g1, g2⟩ := en.ow i _ hi
        obtain ⟨u, w1, w2⟩ := en.fz j _ hj
        cases g2 with
        | @sht p dx _ vs _ ps _ hp a nd z =>
          obtain ⟨n1, n2⟩ := List.nodup_cons.mp nd
          obtain ⟨l, us, h1, h2, h3, h4, h5, h6⟩ := a.app hl n2
          have hlen := h4.len
          have hfl : fp i l := (z l).mpr (List.mem_cons_of_mem _ h2)
          have hpl : p ≠ l := fun e => n1 (e ▸ h2)
          refine ⟨_, g1, p, _, dx, vs, .ref l, rfl, hp, by rw [o.K]; exact k.cls c hc.1, by rw [o.K]; exact hn c hc.1, h1, Or.inl ⟨rfl, us, SqL.of h3⟩, u, w1, l, us, u, rfl, rfl, h3, big_le (Nat.le_trans (by omega : us.length + 1 ≤ 1000) (by decide)), ?_⟩
          have kp := keep1 (H := H) (o1 := .lst (us ++ [u])) hfl
          have dm : ∀ a, upd H l (.lst (us ++ [u])) a = none → H a = none := dom1 (by rw [h3]; exact fun z => by cases z)
          have s := en.stqK kp
          have ko : ∀ q, q ≠ l → ∀ o, H q = some o → upd H l (.lst (us ++ [u])) q = some o := fun q hq o ho => by rw [upd_ne hq]; exact ho
          have qn : ∀ a, fp i a → fp i a ∨ H a = none := fun a h => Or.inl h
          refine h σ _ F _ (Stp.rew (i := i) (q' := fp i) kp dm qn) (en.rew (i := i) g1 kp dm qn (fun b hb => ?_) (.sht (ko p hpl _ hp) (h6 _ _ _ s upd_same (fun q _ hq => ko q hq) (FzA.snoc (h4.mono s) (w2.mono s)) (by rw [List.length_append, List.length_singleton]; exact Nat.le_trans (by omega : us.length + 1 ≤ 1000) (by decide))) nd z)) (Pn.refl _ _)
          rcases List.mem_cons.mp ((z b).mp hb) with rfl | hb
          · exact ⟨_, ko _ hpl _ hp, fun z => z⟩
          · by_cases e : b = l
            · subst e; exact ⟨_, upd_same, fun z => z⟩
            · obtain ⟨us2, hu⟩ := a.at b hb
              exact ⟨_, ko b e _ hu, fun z => z⟩
      · exact h.elim
    · exact h.elim
  · exact h.elim
/-- self.f.append([]), f a field of lists -/
def sShE (cs : List String) (i : Nat) (f : Str) : S := fun ρ => match ρ[i]? with
  | some (.ow (.sht c fs)) => (match fs.lookup f with
    | some (.lds ys) => if c ∈ cs ∧ ys.length < 1000 then .nx (ρ.set i (.ow (.sht c (putI f (.lds (ys ++ [.lst []])) fs)))) else .no
    | _ => .no)
  | _ => .no
theorem s_shE (o : Ok X G W) (k : KC G cs) (i : Nat) {x f : Str} {apos cpos pos npos fpos lpos : Pos} (hn : ∀ c ∈ cs, NoAttr G.K (G.cls c) f) (hN : X.N[i]? = some x := by rfl)
    (hv : Vis X.env.scope x := by first | exact Or.inl rfl | exact Or.inr (Or.inl rfl) | exact Or.inr (Or.inr rfl)) (hd : (x == ("__debug__" : Str)) = false := by decide) (hcd : (x == ("__classdict__" : Str)) = false := by decide)
    (hfb : attributeBase (.Name x npos) f X.env (eval (.Name x npos) X.env) = eval (.Name x npos) X.env := by rfl)
    (hbase : attributeBase (.Attribute (.Name x npos) f fpos) "append" X.env (eval (.Attribute (.Name x npos) f fpos) X.env) = eval (.Attribute (.Name x npos) f fpos) X.env := by rfl)
    (hfew : ((backTo cpos (starEach [.List [] lpos] X.env)).all (fun x => !x.1) && (backToKw cpos (keywordEach [] X.env)).all (fun x => x.1.isSome)
      && decide (([.List [] lpos] : List Expr).length + ([] : List Keyword).length + (if ([] : List Keyword).isEmpty then 0 else 1) < 30)) = true := by rfl)
    (hline : (apos.endLine == cpos.line) = true := by rfl) (hs1 : starEach [.List [] lpos] X.env = [(false, eval (.List [] lpos) X.env)] := by rfl)
    (hs : swapsWith (.Call (.Attribute (.Attribute (.Name x npos) f fpos) "append" apos) [.List [] lpos] [] cpos) none pos.line X.env = pure false := by rfl) :
    PS X (.Expr (.Call (.Attribute (.Attribute (.Name x npos) f fpos) "append" apos) [.List [] lpos] [] cpos) pos) (tsOf G W pin (sShE cs i f)) := by
  have hm : MtR X "list.append" rAppend := mt_append
  refine PS.imp (ps_expr (pe_bm PySem.F.plainAttrs_list PySem.F.slot_list_append PySem.F.type_list_append hm (pe_fld (pe_var hN hv hd hcd) hfb) (pa_cons (pe_lst pa_nil) pa_nil hs1) hbase hfew hline hs1 rfl) hs) ?_
  rintro D σ H ⟨ρ, F, fp, en, h⟩
  unfold sShE at h
  split at h
  · rename_i c fs hi
    split at h
    · rename_i ys hl
      split at h
      · rename_i hc
        obtain ⟨v, g1, g2⟩ := en.ow i _ hi
        cases g2 with
        | @sht p dx _ vs _ ps _ hp a nd z =>
          obtain ⟨n1, n2⟩ := List.nodup_cons.mp nd
          obtain ⟨m, rs, h1, h2, h3, hlen, h6⟩ := a.appN hl n2
          have hfm : fp i m := (z m).mpr (List.mem_cons_of_mem _ h2)
          have hpm : p ≠ m := fun e => n1 (e ▸ h2)
          refine ⟨_, g1, p, _, dx, vs, .ref m, rfl, hp, by rw [o.K]; exact k.cls c hc.1, by rw [o.K]; exact hn c hc.1, h1, Or.inl ⟨rfl, _, SqL.of h3⟩, Nat.zero_le _, fun r hr => ?_⟩
          have hmr : m ≠ r := fun e => by subst e; rw [hr] at h3; cases h3
          have hpr : p ≠ r := fun e => by subst e; rw [hr] at hp; cases hp
          have hrp : r ∉ ps := fun hq => by obtain ⟨us, hu⟩ := a.at r hq; rw [hr] at hu; cases hu
          refine ⟨m, rs.map V.ref, .ref r, rfl, rfl, by rw [upd_ne hmr]; exact h3, big_le (by rw [List.length_map, hlen]; exact Nat.le_trans (by omega : ys.length + 1 ≤ 1000) (by decide)), ?_⟩
          have kp := keep2 (H := H) (r := r) (o1 := .lst []) (o2 := .lst (rs.map V.ref ++ [.ref r])) hfm hr
          have s := en.stqK kp
          have ko : ∀ q, q ≠ m → ∀ o, H q = some o → upd (upd H r (.lst [])) m (.lst (rs.map V.ref ++ [.ref r])) q = some o := fun q hq o ho => by
            have e1 : q ≠ r := fun e => by rw [e, hr] at ho; cases ho
            rw [upd_ne hq, upd_ne e1]; exact ho
          have hrr : upd (upd H r (.lst [])) m (.lst (rs.map V.ref ++ [.ref r])) r = some (.lst []) := by rw [upd_ne (Ne.symm hmr), upd_same]
          obtain ⟨ps', q1, q2, q3⟩ := h6 _ r s upd_same hrr (fun q _ hq => ko q hq) hc.2 hrp
          have qn : ∀ a, (fun a => fp i a ∨ a = r) a → fp i a ∨ H a = none := fun a h => h.imp id fun (e : a = r) => by rw [e]; exact hr
          refine h σ _ F _ (Stp.rew (i := i) (q' := fun a => fp i a ∨ a = r) kp dom2 qn) (en.rew (i := i) g1 kp dom2 qn (fun b hb => ?_) (.sht (ko p hpm _ hp) q1 (List.nodup_cons.mpr ⟨fun h => ?_, q3⟩) fun b => ?_)) (Pn.refl _ _)
          · rcases hb with hb | rfl
            · rcases List.mem_cons.mp ((z b).mp hb) with rfl | hb
              · exact ⟨_, ko _ hpm _ hp, fun z => z⟩
              · by_cases e : b = m
                · subst e; exact ⟨_, upd_same, fun z => z⟩
                · obtain ⟨us2, hu⟩ := a.at b hb
                  exact ⟨_, ko b e _ hu, fun z => z⟩
            · exact ⟨_, hrr, fun z => z⟩
          · rcases (q2 p).mp h with h | h
            · exact n1 h
            · exact hpr h
          · try dsimp only
            rw [z, List.mem_cons, List.mem_cons, q2]
            exact or_assoc
      · exact h.elim
    · exact h.elim
  · exact h.elim
theorem atI_last {α : Type} {l : List α} {x : α} (h : l.getLast? = some x) : atI l (-1) = some x := by
  have hn : l ≠ [] := fun e => by subst e; cases h
  have hl : 0 < l.length := List.length_pos_iff.mpr hn
  unfold atI ixN
  rw [if_neg (by omega), if_pos (by omega)]
  show l[(-1 + (l.length : Int)).toNat]? = some x
  rw [show (-1 + (l.length : Int)).toNat = l.length - 1 from by omega]
  rw [List.getLast?_eq_getElem?] at h
  exact h
/-- self.f[-1].append(x) -/
def sShL (cs : List String) (i : Nat) (f : Str) (j : Nat) : S := fun ρ => match ρ[i]?, ρ[j]? with
  | some (.ow (.sht c fs)), some (.fz d) => (match fs.lookup f with
    | some (.lds ys) => (match ys.getLast? with
      | some (.lst xs) => if c ∈ cs ∧ xs.length < 1000 then .nx (ρ.set i (.ow (.sht c (putI f (.lds (ys.dropLast ++ [.lst (xs ++ [d])])) fs)))) else .no
      | _ => .no)
    | _ => .no)
  | _, _ => .no
theorem s_shL (o : Ok X G W) (k : KC G cs) (i j : Nat) {x y f : Str} {ie : Expr} {apos cpos pos npos fpos ypos spos : Pos} (hn : ∀ c ∈ cs, NoAttr G.K (G.cls c) f) (hie : PE X ie (tC (.int (-1)))) (hN : X.N[i]? = some x := by rfl) (hM : X.N[j]? = some y := by rfl)
    (hv : Vis X.env.scope x := by first | exact Or.inl rfl | exact Or.inr (Or.inl rfl) | exact Or.inr (Or.inr rfl)) (hd : (x == ("__debug__" : Str)) = false := by decide) (hcd : (x == ("__classdict__" : Str)) = false := by decide)
    (hvy : Vis X.env.scope y := by first | exact Or.inl rfl | exact Or.inr (Or.inl rfl) | exact Or.inr (Or.inr rfl)) (hdy : (y == ("__debug__" : Str)) = false := by decide) (hcy : (y == ("__classdict__" : Str)) = false := by decide)
    (hfb : attributeBase (.Name x npos) f X.env (eval (.Name x npos) X.env) = eval (.Name x npos) X.env := by rfl) (hpi : PlainIx ie := by exact fun _ _ => rfl)
    (hbase : attributeBase (.Subscript (.Attribute (.Name x npos) f fpos) ie spos) "append" X.env (eval (.Subscript (.Attribute (.Name x npos) f fpos) ie spos) X.env) = eval (.Subscript (.Attribute (.Name x npos) f fpos) ie spos) X.env := by rfl)
    (hfew : ((backTo cpos (starEach [.Name y ypos] X.env)).all (fun x => !x.1) && (backToKw cpos (keywordEach [] X.env)).all (fun x => x.1.isSome)
      && decide (([.Name y ypos] : List Expr).length + ([] : List Keyword).length + (if ([] : List Keyword).isEmpty then 0 else 1) < 30)) = true := by rfl)
    (hline : (apos.endLine == cpos.line) = true := by rfl) (hs1 : starEach [.Name y ypos] X.env = [(false, eval (.Name y ypos) X.env)] := by rfl)
    (hs : swapsWith (.Call (.Attribute (.Subscript (.Attribute (.Name x npos) f fpos) ie spos) "append" apos) [.Name y ypos] [] cpos) none pos.line X.env = pure false := by rfl) :
    PS X (.Expr (.Call (.Attribute (.Subscript (.Attribute (.Name x npos) f fpos) ie spos) "append" apos) [.Name y ypos] [] cpos) pos) (tsOf G W pin (sShL cs i f j)) := by
  have hm : MtR X "list.append" rAppend := mt_append
  refine PS.imp (ps_expr (pe_bm PySem.F.plainAttrs_list PySem.F.slot_list_append PySem.F.type_list_append hm (pe_ix ix_list (pe_fld (pe_var hN hv hd hcd) hfb) hie hpi) (pa_cons (pe_var hM hvy hdy hcy) pa_nil hs1) hbase hfew hline hs1 rfl) hs) ?_
  rintro D σ H ⟨ρ, F, fp, en, h⟩
  unfold sShL at h
  split at h
  · rename_i c fs d hi hj
    split at h
    · rename_i ys hl
      split at h
      · rename_i xs hx
        split at h
        · rename_i hc
          obtain ⟨v, g1, g2⟩ := en.ow i _ hi
          obtain ⟨u, w1, w2⟩ := en.fz j _ hj
          cases g2 with
          | @sht p dx _ vs _ ps _ hp a nd z =>
            obtain ⟨n1, n2⟩ := List.nodup_cons.mp nd
            obtain ⟨m, rs, r, us, h1, hm3, hr, h2, h3, h4, h5, h6⟩ := a.appL hl hx n2
            have hlen := h4.len
            have hfl : fp i r := (z r).mpr (List.mem_cons_of_mem _ h2)
            have hpl : p ≠ r := fun e => n1 (e ▸ h2)
            have hat : atI (rs.map V.ref) (-1) = some (V.ref r) := atI_last (by rw [List.getLast?_map, hr]; rfl)
            refine ⟨_, g1, p, _, dx, vs, .ref m, rfl, hp, by rw [o.K]; exact k.cls c hc.1, by rw [o.K]; exact hn c hc.1, h1, m, _, -1, .ref r, rfl, rfl, SqL.of hm3, hat, Or.inl ⟨rfl, us, SqL.of h3⟩, u, w1, r, us, u, rfl, rfl, h3, big_le (Nat.le_trans (by omega : us.length + 1 ≤ 1000) (by decide)), ?_⟩
            have kp := keep1 (H := H) (o1 := .lst (us ++ [u])) hfl
            have dm : ∀ a, upd H r (.lst (us ++ [u])) a = none → H a = none := dom1 (by rw [h3]; exact fun z => by cases z)
            have s := en.stqK kp
            have ko : ∀ q, q ≠ r → ∀ o, H q = some o → upd H r (.lst (us ++ [u])) q = some o := fun q hq o ho => by rw [upd_ne hq]; exact ho
            have qn : ∀ a, fp i a → fp i a ∨ H a = none := fun a h => Or.inl h
            refine h σ _ F _ (Stp.rew (i := i) (q' := fp i) kp dm qn) (en.rew (i := i) g1 kp dm qn (fun b hb => ?_) (.sht (ko p hpl _ hp) (h6 _ _ _ s upd_same (fun q _ hq => ko q hq) (FzA.snoc (h4.mono s) (w2.mono s)) (by rw [List.length_append, List.length_singleton]; exact Nat.le_trans (by omega : us.length + 1 ≤ 1000) (by decide))) nd z)) (Pn.refl _ _)
            rcases List.mem_cons.mp ((z b).mp hb) with rfl | hb
            · exact ⟨_, ko _ hpl _ hp, fun z => z⟩
            · by_cases e : b = r
              · subst e; exact ⟨_, upd_same, fun z => z⟩
              · obtain ⟨us2, hu⟩ := a.at b hb
                exact ⟨_, ko b e _ hu, fun z => z⟩
        · exact h.elim
      · exact h.elim
    · exact h.elim
  · exact h.elim
end
end MR
set_option maxRecDepth 100000
set_option maxHeartbeats 4000000
/-! MirShm: such an instance is made, no arguments. -/
namespace MR
open PySem L2 PyProof.Rows
def mkFS (c : String) (fn : Fn) (ρ : Env) : Rz IV := match fn [.ins c []] with
  | .ok .non [.sht c' fs] => if c' = c then .ok (.sht c fs) ρ else .no
  | _ => .no
section
variable {X : Cx} {G : Gx} {W : WX} {σ : L2.St} {H : Hp} {F : AP1} {fp : FPt} {ρ : Env}
theorem mk_spS {c : String} {fn : Fn} {Q : VK} (e : EnvR G F H σ ρ fp) (h : OcO G W σ H F fp (mkFS c fn ρ) Q) {x dx : Addr} (hx : H x = none) (hdx : H dx = none) (hne : dx ≠ x) :
    spOf G [true] fn [.ref x] (upd (upd H dx (.own x)) x (.ins (G.cls c) dx [])) (fun v H2 => v = .non ∧ Q (.ref x) H2) (fun cls d H => W cls d σ H) := by
  have hx1 : (upd H dx (.own x)) x = none := by rw [upd_ne (Ne.symm hne)]; exact hx
  have fr1 : Fr H F (upd H dx (.own x)) F := Fr.new hdx
  have fr2 : Fr (upd H dx (.own x)) F (upd (upd H dx (.own x)) x (.ins (G.cls c) dx [])) F := Fr.new hx1
  have fr : Fr H F (upd (upd H dx (.own x)) x (.ins (G.cls c) dx [])) F := fr1.trans fr2
  have e2 := e.fr fr
  have nF : ¬ F x := fun f => e.ft x f hx
  have nP : ¬ un fp x := fun ⟨i, q⟩ => e.tr i x q hx
  have ec : EnvR G F (upd (upd H dx (.own x)) x (.ins (G.cls c) dx [])) ([V.ref x].map some) (envOf [true] [.ins c []]) (fun j a => j = 0 ∧ a = x) := by
    refine ⟨fun j d z => ?_, fun j d z => ?_, fun i j a h1 h2 => by rw [h1.1, h2.1], fun j a h f => nF (by rw [← h.2]; exact f), fun j a h z => ?_, fun j a o h z => ?_, e2.ft, rfl⟩
    · cases j with
      | zero => cases z
      | succ j => cases z
    · cases j with
      | zero =>
        cases z
        exact ⟨.ref x, rfl, .ins upd_same .nil fun a => ⟨fun h => h.2, fun h => ⟨rfl, h⟩⟩⟩
      | succ j => cases z
    · rw [h.2, upd_same] at z; cases z
    · rw [h.2, upd_same] at z; cases z; exact fun z => z
  refine ⟨rfl, [.ins c []], F, _, rfl, ec, ?_⟩
  unfold mkFS at h
  have far : ∀ H' F' fpc' ρc, Stp (upd (upd H dx (.own x)) x (.ins (G.cls c) dx [])) F (un fun j a => j = 0 ∧ a = x) H' F' (un fpc') → EnvR G F' H' ([V.ref x].map some) ρc fpc' → EnvR G F' H' σ ρ fp ∧ Stp H F (un fp) H' F' (un fp) := by
    intro H' F' fpc' ρc s ec'
    refine ⟨e2.far s (fun a p ⟨j, q⟩ => nP (by rw [← q.2]; exact p)) (fun a ⟨j, q⟩ => Or.inr fun o z => ?_) (fun a f ⟨j, q⟩ => nF (by rw [← q.2]; exact f)) ec'.ft, ?_⟩
    · rw [q.2, upd_same] at z; cases z; exact fun z => z
    · refine ⟨fun a o z n => s.keep a o (fr.keep a o z) fun ⟨j, q⟩ => (by rw [q.2, hx] at z; cases z), s.frm, fun a f => ?_, fun a p => Or.inl p, fun a z => fr.dom a (s.dom a z)⟩
      rcases s.fnew a f with g | ⟨j, g⟩ | g
      · exact Or.inl g
      · exact Or.inr (Or.inr (by rw [g.2]; exact hx))
      · exact Or.inr (Or.inr (fr.dom a g))
  cases hf : fn [.ins c []] with
  | no => rw [hf] at h; exact h.elim
  | ex cl p outs => rw [hf] at h; exact h.elim
  | ok d outs =>
    rw [hf] at h
    dsimp only at h ⊢
    split at h
    · rename_i c' fs hh
      cases hh
      split at h
      · rename_i hc
        subst hc
        intro v H' F' fpc' s ec' r
        obtain ⟨a1, a2⟩ := far H' F' fpc' _ s ec'
        have hv : v = .non := by cases r; rfl
        refine ⟨hv, ?_⟩
        obtain ⟨w, w1, w2⟩ := ec'.ow 0 (.sht c' fs) rfl
        have w3 : w = .ref x := by cases w1; rfl
        subst w3
        have old : ∀ a, fpc' 0 a → H a = none := fun a p => by
          rcases s.pnew a ⟨0, p⟩ with ⟨j, q⟩ | q
          · rw [q.2]; exact hx
          · exact fr.dom a q
        exact h (.ref x) H' F' fp (fpc' 0) a2 a1 w2 ⟨fun a p => old a p, fun a p => ec'.tr 0 a p, fun a p => ec'.nf 0 a p, fun a p ⟨j, q⟩ => e.tr j a q (old a p), fun a o p => ec'.ni 0 a o p⟩
      · exact h.elim
    · exact h.elim
theorem o_makeS0 (o : Ok X G W) (c : String) {k : Nat} {f : Addr} {fd : FuncData} {ps : List Str} {fn : Fn} {x : Str} {p pos : Pos} (M : Mk X.K (G.cls c) f)
    (Fo : FnOk X.prog X.w X.K X.mg X.base (L2.CX X.prog X.w) k f fd ps (spOf G [true] fn)) (hr : Room (k + 1) X.A) (hg : Gl X x) (hm : X.mg x = some (.ref (G.cls c))) (hb : Binds X.K fd ps []) (hps : ps.length = 1) (hdb : (x == ("__debug__" : Str)) = false := by decide) :
    PE X (.Call (.Name x p) [] [] pos) (toOf G W (mkFS c fn)) := by
  refine ⟨fun pins s σ H Q I h => ?_⟩
  refine wpAny_Call_Name_kw (ld_glob I hg hm ?_ hdb)
  obtain ⟨ρ, F, fp, en, h⟩ := h
  refine PySem.W.callWith_K0 I.kIn M.kp ?_
  refine run_mk (CX := L2.CX X.prog X.w) (E := fun cls d H => W cls d σ H) (us := []) (full := fun x => [x]) (fullV := fun x => [x]) M Fo hr (fun s' x kin => ?_) (fun x => .cons rfl .nil) (passAt o.tk σ) I ?_
  · have b := hb s' [Value.ref x] kin (by rw [hps]; rfl)
    exact b
  · intro x dx hx hdx hne
    exact mk_spS en h hx hdx hne
/-! ### such an instance, frozen where it is last used -/
theorem EnvR.frzS {i : Nat} {d' : IV} {v : V} (e : EnvR G F H σ ρ fp) (hv : σ[i]? = some (some v)) (r : Fz G (fun a => F a ∨ fp i a) H v d') :
    EnvR G (fun a => F a ∨ fp i a) H σ (ρ.set i (.fz d')) (fun j a => j ≠ i ∧ fp j a) := by
  have s : Stq H F H (fun a => F a ∨ fp i a) := ⟨fun _ _ z _ => z, fun _ _ z _ => z, fun _ f => Or.inl f⟩
  refine ⟨fun j d2 z => ?_, fun j d2 z => ?_, fun j k a h1 h2 => e.dis j k a h1.2 h2.2, fun j a h f => ?_, fun j a h => e.tr j a h.2, fun j a o h => e.ni j a o h.2, fun a f => ?_, by rw [List.length_set]; exact e.len⟩
  · rcases get_set z with ⟨rfl, z1, hl⟩ | ⟨hj, z⟩
    · cases z1
      exact ⟨v, hv, r⟩
    · obtain ⟨w, e1, e2⟩ := e.fz j d2 z
      exact ⟨w, e1, e2.mono s⟩
  · rcases get_set z with ⟨rfl, z1, hl⟩ | ⟨hj, z⟩
    · cases z1
    · obtain ⟨w, e1, e2⟩ := e.ow j d2 z
      exact ⟨w, e1, (e2.mono s fun _ _ z _ => z).congr fun a => ⟨fun h => h.2, fun h => ⟨hj, h⟩⟩⟩
  · rcases f with f | f
    · exact e.nf j a h.2 f
    · exact h.1 (e.dis j i a h.2 f)
  · rcases f with f | f
    · exact e.ft a f
    · exact e.tr i a f
def iMvS (i : Nat) : E := fun ρ => match ρ[i]? with
  | some (.fz d) => .ok d ρ
  | some (.ow (.sht c ds)) => .ok (.ins c (rdF ds)) (ρ.set i (.fz (.ins c (rdF ds))))
  | _ => .no
theorem q_mvS {i : Nat} : ∀ σ H Q, teOf G W (iMvS i) σ H Q → tVar i σ H Q := by
  rintro σ H Q ⟨ρ, F, fp, e, h⟩
  unfold iMvS at h
  split at h
  · rename_i d hd
    obtain ⟨v, e1, e2⟩ := e.fz i d hd
    exact ⟨v, e1, oc_ok h e (Fr.refl _ _) e2⟩
  · rename_i c ds hd
    obtain ⟨v, e1, e2⟩ := e.ow i _ hd
    exact ⟨v, e1, h v H _ _ (Stp.frz H F fp) (e.frzS e1 e2.shtF) e2.shtF⟩
  · exact h.elim
theorem m_mvS (i : Nat) {x : Str} {pos : Pos} (hN : X.N[i]? = some x := by rfl) (hv : Vis X.env.scope x := by first | exact Or.inl rfl | exact Or.inr (Or.inl rfl) | exact Or.inr (Or.inr rfl)) (hd : (x == ("__debug__" : Str)) = false := by decide)
    (hcd : (x == ("__classdict__" : Str)) = false := by decide) : PE X (.Name x pos) (teOf G W (iMvS i)) := PE.imp (pe_var hN hv hd hcd) q_mvS
theorem pe_m1 {j p pos} : PE X (.UnaryOp .USub (.Constant (.int 1) j p) pos) (tC (.int (-1))) := PE.imp (pe_un un_neg pe_int) fun σ H Q q => ⟨1, rfl, q⟩
end
end MR
set_option maxRecDepth 100000
set_option maxHeartbeats 4000000
/-! MirRo: results that are the caller's own: lists, and tuples whose last item is a list. -/
namespace MR
open PySem L2 PyProof.Rows
/-- a result that is own (true), or frozen -/
abbrev EM := Env → Rz (Bool × IV)
def OcM (G : Gx) (W : WX) (σ : L2.St) (H : Hp) (F : AP1) (fp : FPt) (r : Rz (Bool × IV)) (Q : VK) : Prop := match r with
  | .ok (true, d) ρ' => ∀ v H' F' fp' q, Stp H F (un fp) H' F' (un fp') → EnvR G F' H' σ ρ' fp' → Own G F' H' v d q → New2 H (un fp) H' F' fp' q → Q v H'
  | .ok (false, d) ρ' => ∀ v H' F' fp', Stp H F (un fp) H' F' (un fp') → EnvR G F' H' σ ρ' fp' → Fz G F' H' v d → Q v H'
  | .ex c p ρ' => ∀ d H' F' fp', Stp H F (un fp) H' F' (un fp') → EnvR G F' H' σ ρ' fp' → ExD G F' H' d p → W (G.ecl c) d σ H'
  | .no => False
def tmOf (G : Gx) (W : WX) (m : EM) : TE := fun σ H Q => ∃ ρ F fp, EnvR G F H σ ρ fp ∧ OcM G W σ H F fp (m ρ) Q
section
variable {X : Cx} {G : Gx} {W : WX} {pin : List Nat} {σ : L2.St} {H H1 : Hp} {F F1 : AP1} {fp fp1 : FPt} {ρ : Env}
theorem OcM.step {r : Rz (Bool × IV)} {Q : VK} (s : Stp H F (un fp) H1 F1 (un fp1)) (h : OcM G W σ H F fp r Q) : OcM G W σ H1 F1 fp1 r Q := by
  cases r with
  | ok d ρ' =>
    obtain ⟨b, d⟩ := d
    cases b with
    | true => exact fun v H' F' fp' q t e r n => h v H' F' fp' q (s.trans t) e r (n.step s)
    | false => exact fun v H' F' fp' t e r => h v H' F' fp' (s.trans t) e r
  | ex c p ρ' => exact fun d H' F' fp' t e r => h d H' F' fp' (s.trans t) e r
  | no => exact h
/-- what comes first is frozen -/
theorem ocM_bind {α β : Type} {R : Gx → L2.St → AP1 → Hp → β → α → Prop} {m : Env → Rz α} {k : α → Env → Rz (Bool × IV)} {Q : VK} {P : β → Hp → Prop} (e : EnvR G F H σ ρ fp) (h : OcM G W σ H F fp ((m ρ).bind k) Q)
    (hk : ∀ x d ρ1 H1 F1 fp1, Stp H F (un fp) H1 F1 (un fp1) → EnvR G F1 H1 σ ρ1 fp1 → R G σ F1 H1 x d → OcM G W σ H1 F1 fp1 (k d ρ1) Q → P x H1) : tOf R G W m σ H P := by
  refine ⟨ρ, F, fp, e, ?_⟩
  cases hm : m ρ with
  | ok d ρ1 =>
    rw [hm] at h
    exact fun v H' F' fp' t e' r => hk v d ρ1 H' F' fp' t e' r (OcM.step t h)
  | ex c p ρ' => rw [hm] at h; exact h
  | no => rw [hm] at h; exact h
def mO (m : E) : EM := fun ρ => (m ρ).bind fun d ρ1 => .ok (true, d) ρ1
theorem q_mO {m : E} : ∀ σ H Q, tmOf G W (mO m) σ H Q → toOf G W m σ H Q := by
  rintro σ H Q ⟨ρ, F, fp, e, h⟩
  refine ⟨ρ, F, fp, e, ?_⟩
  unfold mO at h
  cases hm : m ρ with
  | ok d ρ1 =>
    rw [hm] at h
    exact fun v H' F' fp' q t e' r n => h v H' F' fp' q t e' r n.to2
  | ex c p ρ' => rw [hm] at h; exact h
  | no => rw [hm] at h; exact h
theorem x_O {e : Expr} {m : E} (h : PE X e (toOf G W m)) : PE X e (tmOf G W (mO m)) := PE.imp h q_mO
theorem EnvR.give {i : Nat} (e : EnvR G F H σ ρ fp) : EnvR G F H σ (ρ.set i .un) (fun j => if j = i then fun _ => False else fp j) := by
  have sub : ∀ j a, (if j = i then (fun _ => False : AP1) else fp j) a → j ≠ i ∧ fp j a := fun j a h => by
    by_cases hj : j = i
    · rw [if_pos hj] at h; exact h.elim
    · rw [if_neg hj] at h; exact ⟨hj, h⟩
  refine ⟨fun j d z => ?_, fun j d z => ?_, fun j k a h1 h2 => e.dis j k a (sub j a h1).2 (sub k a h2).2, fun j a h => e.nf j a (sub j a h).2, fun j a h => e.tr j a (sub j a h).2, fun j a o h => e.ni j a o (sub j a h).2, e.ft, by rw [List.length_set]; exact e.len⟩
  · rcases get_set z with ⟨_, z, _⟩ | ⟨hn, z⟩
    · cases z
    · exact e.fz j d z
  · rcases get_set z with ⟨_, z, _⟩ | ⟨hn, z⟩
    · cases z
    · obtain ⟨v, e1, e2⟩ := e.ow j d z
      exact ⟨v, e1, by rw [if_neg hn]; exact e2⟩
theorem Stp.give {P : AP1} {i : Nat} (s : Stp H F P H1 F1 (un fp1)) : Stp H F P H1 F1 (un fun j => if j = i then (fun _ => False : AP1) else fp1 j) :=
  ⟨s.keep, s.frm, s.fnew, fun a ⟨j, h⟩ => by
    have h' : (if j = i then (fun _ => False : AP1) else fp1 j) a := h
    by_cases hj : j = i
    · rw [if_pos hj] at h'; exact h'.elim
    · rw [if_neg hj] at h'; exact s.pnew a ⟨j, h'⟩, s.dom⟩
/-! ### statements -/
def sRetM (m : EM) : S := fun ρ => (m ρ).bindS fun d ρ1 => if d.1 = true then .ro d.2 ρ1 else .rt d.2 ρ1
theorem s_retM {e : Expr} {m : EM} {pos : Pos} (he : PE X e (tmOf G W m)) : PS X (.Return (some e) pos) (tsOf G W pin (sRetM m)) := by
  refine PS.imp (ps_ret he) ?_
  rintro D σ H ⟨ρ, F, fp, e, h⟩
  refine ⟨ρ, F, fp, e, ?_⟩
  unfold sRetM at h
  cases hm : m ρ with
  | ok d ρ1 =>
    obtain ⟨b, d⟩ := d
    rw [hm] at h
    cases b with
    | true => exact fun v H' F' fp' q t e' r n => h v σ H' F' fp' q t e' (Pn.refl _ _) r n
    | false => exact fun v H' F' fp' t e' r => h v σ H' F' fp' t e' (Pn.refl _ _) r
  | ex c p ρ' => rw [hm] at h; exact fun d H' F' fp' t e' r => h d σ H' F' fp' t e' (Pn.refl _ _) r
  | no => rw [hm] at h; exact h
def sSetM (i : Nat) (m : EM) : S := fun ρ => (m ρ).bindS fun d ρ1 => .nx (ρ1.set i (if d.1 = true then .ow d.2 else .fz d.2))
theorem Stp.setOw2 {P : AP1} {i : Nat} {q : AP1} (s : Stp H F P H1 F1 (un fp1)) (n : ∀ a, q a → P a ∨ H a = none) : Stp H F P H1 F1 (un fun j => if j = i then q else fp1 j) :=
  ⟨s.keep, s.frm, s.fnew, fun a ⟨j, h⟩ => by
    have h' : (if j = i then q else fp1 j) a := h
    by_cases hj : j = i
    · rw [if_pos hj] at h'; exact n a h'
    · rw [if_neg hj] at h'; exact s.pnew a ⟨j, h'⟩, s.dom⟩
theorem EnvR.setOw2 {i : Nat} {v : V} {d : IV} {q : AP1} {P : AP1} {H0 : Hp} (e : EnvR G F H σ ρ fp) (r : Own G F H v d q) (n : New2 H0 P H F fp q) : EnvR G F H (σ.set i (some v)) (ρ.set i (.ow d)) (fun j => if j = i then q else fp j) := by
  have n1 : New1 (fun _ => none) H F fp q := ⟨fun _ _ => rfl, n.tr, n.nf, n.np, n.ni⟩
  exact e.setOw r n1
theorem s_setM (i : Nat) {x : Str} {e : Expr} {m : EM} {pos' pos : Pos} (hN : X.N.Nodup) (he : PE X e (tmOf G W m)) (hi : X.N[i]? = some x := by rfl) (hx : Loc X.env.scope x := by first | exact Or.inl rfl | exact Or.inr rfl) (hp : i ∉ pin := by decide)
    (hs : swapsWith e (some (.Name x pos')) pos.line X.env = pure false := by rfl) (hf : X.fn x = true ∨ X.env.scope.names.lookup x = some .local := by first | exact .inl rfl | exact .inr rfl) : PS X (.Assign [.Name x pos'] e pos) (tsOf G W pin (sSetM i m)) := by
  refine PS.imp (ps_set hN hi hx he hs hf) ?_
  rintro D σ H ⟨ρ, F, fp, e, h⟩
  refine ⟨ρ, F, fp, e, ?_⟩
  have pn : ∀ v : V, Pn pin σ (σ.set i (some v)) := fun v => (SetOnly.set i σ (some v)).pn fun j m z => hp (by rw [List.mem_singleton] at z; rw [← z]; exact m)
  unfold sSetM at h
  cases hm : m ρ with
  | ok d ρ1 =>
    obtain ⟨b, d⟩ := d
    rw [hm] at h
    cases b with
    | true => exact fun v H' F' fp' q t e' r n => h _ H' F' _ (t.setOw2 n.old) (e'.setOw2 r n) (pn v)
    | false => exact fun v H' F' fp' t e' r => h _ H' F' fp' t (e'.setFz r) (pn v)
  | ex c p ρ' => rw [hm] at h; exact fun d H' F' fp' t e' r => h d σ H' F' fp' t e' (Pn.refl _ _) r
  | no => rw [hm] at h; exact h
end
/-! ### defs -/
inductive RfM where
  | ok (o : Bool) (v : IV) (outs : List IV) | ex (c : String) (p : List (Str × IV)) (outs : List IV) | no
abbrev FnO := List IV → RfM
def fnOfO (n : Nat) (ks : List Bool) (body : S) : FnO := fun ds => match body (envOf ks ds ++ List.replicate (n - ks.length) .un) with
  | .ro d ρ => match outsOf ks ρ with
    | some outs => .ok true d outs
    | none => .no
  | .rt d ρ => match outsOf ks ρ with
    | some outs => .ok false d outs
    | none => .no
  | .nx ρ => match outsOf ks ρ with
    | some outs => .ok false .non outs
    | none => .no
  | .ex c p ρ => match outsOf ks ρ with
    | some outs => .ex c p outs
    | none => .no
  | _ => .no
def spOfM (G : Gx) (ks : List Bool) (f : FnO) : Sp := fun vs H Q E => vs.length = ks.length ∧ ∃ ds F fp, ds.length = ks.length ∧ EnvR G F H (vs.map some) (envOf ks ds) fp ∧ (match f ds with
  | .ok true d outs => ∀ v H' F' fp' q, Stp H F (un fp) H' F' (un fp') → EnvR G F' H' (vs.map some) (envOut ks outs) fp' → Own G F' H' v d q → New2 H (un fp) H' F' fp' q → Q v H'
  | .ok false d outs => ∀ v H' F' fp', Stp H F (un fp) H' F' (un fp') → EnvR G F' H' (vs.map some) (envOut ks outs) fp' → Fz G F' H' v d → Q v H'
  | .ex c p outs => ∀ d H' F' fp', Stp H F (un fp) H' F' (un fp') → EnvR G F' H' (vs.map some) (envOut ks outs) fp' → ExD G F' H' d p → E (G.ecl c) d H'
  | .no => False)
section
variable {G : Gx} {F : AP1} {H : Hp}
theorem fn_bodyM {vs : List V} {Q : VK} {E : XK} {ks : List Bool} {body : S} {N : List Str} (hks : ks.length ≤ N.length) (h : spOfM G ks (fnOfO N.length ks body) vs H Q E) :
    tsOf G (fun cls d _ H => E cls d H) (pinOf ks 0) body { nx := fun _ H' => Q .non H', rt := Q } (L2.start N vs) H := by
  obtain ⟨hv, ds, F, fp, hd, e, h⟩ := h
  refine ⟨_, F, fp, e.start hv, ?_⟩
  have pinS : ∀ σ' : L2.St, Pn (pinOf ks 0) (L2.start N vs) σ' → ∀ (j : Nat), ks[j]? = some true → σ'[j]? = (vs.map some)[j]? := fun σ' p j k => by
    have hj : j < ks.length := (List.getElem?_eq_some_iff.mp k).1
    rw [p.2 j (pinOf_mem.mpr ⟨j, by omega, k⟩)]
    unfold L2.start
    rw [List.getElem?_append_left (by rw [List.length_map, hv]; exact hj)]
  unfold fnOfO at h
  cases hb : body (envOf ks ds ++ List.replicate (N.length - ks.length) Sl.un) with
  | nx ρ =>
    rw [hb] at h
    dsimp only at h
    cases ho : outsOf ks ρ with
    | none => rw [ho] at h; exact h.elim
    | some outs =>
      rw [ho] at h
      exact fun σ' H' F' fp' s e' p => h .non H' F' fp' s (e'.outs (N := N) ho hv (pinS σ' p)) .non
  | rt d ρ =>
    rw [hb] at h
    dsimp only at h
    cases ho : outsOf ks ρ with
    | none => rw [ho] at h; exact h.elim
    | some outs =>
      rw [ho] at h
      exact fun v σ' H' F' fp' s e' p r => h v H' F' fp' s (e'.outs (N := N) ho hv (pinS σ' p)) r
  | ro d ρ =>
    rw [hb] at h
    dsimp only at h
    cases ho : outsOf ks ρ with
    | none => rw [ho] at h; exact h.elim
    | some outs =>
      rw [ho] at h
      exact fun v σ' H' F' fp' q s e' p r n => h v H' F' fp' q s (e'.outs (N := N) ho hv (pinS σ' p)) r n
  | ex c p ρ =>
    rw [hb] at h
    dsimp only at h
    cases ho : outsOf ks ρ with
    | none => rw [ho] at h; exact h.elim
    | some outs =>
      rw [ho] at h
      exact fun d σ' H' F' fp' s e' p r => h d H' F' fp' s (e'.outs (N := N) ho hv (pinS σ' p)) r
  | bk ρ => rw [hb] at h; exact h.elim
  | ct ρ => rw [hb] at h; exact h.elim
  | no => rw [hb] at h; exact h.elim
end
/-- a result that is frozen at once -/
def frzD : IV → Option IV
  | .tpl ds xs => some (.tup (ds ++ [.lst xs]))
  | d => if canFz d = true then some d else none
theorem Own.frz {G : Gx} {F : AP1} {H : Hp} {v : V} {d d' : IV} {q : AP1} (h : Own G F H v d q) (hd : frzD d = some d') : Fz G (fun a => F a ∨ q a) H v d' := by
  cases h with
  | tpl h a z hl b y k =>
    cases hd
    have s : Stq H F H (fun a => F a ∨ q a) := ⟨fun _ _ e _ => e, fun _ _ e _ => e, fun _ f => Or.inl f⟩
    exact .tup h (FzA.snoc (a.mono s) (.lst (Or.inr ((k _).mpr rfl)) hl (b.mono s) y)) (by rw [List.length_append]; exact z)
  | lst h a z k => cases hd; exact (Own.lst h a z k).freeze rfl
  | dic h a z k => cases hd; exact (Own.dic h a z k).freeze rfl
  | ins h a k => cases hd; exact (Own.ins h a k).freeze rfl
  | drw h1 h2 f h3 n1 z1 z2 k => cases hd
  | prs h z k => cases hd
  | lds h a nd np z k => cases hd
  | dnk g h a z k => cases hd
  | tab h y t c k => cases hd
  | sht h a nd k => cases hd
/-- own objects that are new become frozen -/
theorem frz_fr {H0 H : Hp} {F0 F : AP1} {fp0 fp : FPt} {q : AP1} {P : AP1} (s : Stp H0 F0 P H F (un fp)) (n : New2 H0 P H F fp q) : Stp H0 F0 P H (fun a => F a ∨ q a) (un fp) :=
  ⟨s.keep, fun a f => Or.inl (s.frm a f), fun a f => f.elim (s.fnew a) fun z => (n.old a z).elim (fun p => Or.inr (Or.inl p)) fun e => Or.inr (Or.inr e), s.pnew, s.dom⟩
theorem EnvR.frzQ {G : Gx} {H0 H : Hp} {F : AP1} {σ : L2.St} {ρ : Env} {fp : FPt} {q P : AP1} (e : EnvR G F H σ ρ fp) (n : New2 H0 P H F fp q) : EnvR G (fun a => F a ∨ q a) H σ ρ fp := by
  have s : Stq H F H (fun a => F a ∨ q a) := ⟨fun _ _ e _ => e, fun _ _ e _ => e, fun _ f => Or.inl f⟩
  refine ⟨fun i d z => ?_, fun i d z => ?_, e.dis, fun i a p f => ?_, e.tr, e.ni, fun a f => ?_, e.len⟩
  · obtain ⟨v, e1, e2⟩ := e.fz i d z
    exact ⟨v, e1, e2.mono s⟩
  · obtain ⟨v, e1, e2⟩ := e.ow i d z
    exact ⟨v, e1, e2.mono s fun _ _ h _ => h⟩
  · rcases f with f | f
    · exact e.nf i a p f
    · exact n.np a f ⟨i, p⟩
  · rcases f with f | f
    · exact e.ft a f
    · exact n.tr a f
/-- the def whose result is frozen -/
def frzF (f : FnO) : Fn := fun ds => match f ds with
  | .ok true d outs => (match frzD d with
    | some d' => .ok d' outs
    | none => .no)
  | .ok false d outs => .ok d outs
  | .ex c p outs => .ex c p outs
  | .no => .no
theorem sp_frz {G : Gx} {ks : List Bool} {f : FnO} {vs : List V} {H : Hp} {Q : VK} {E : XK} (h : spOf G ks (frzF f) vs H Q E) : spOfM G ks f vs H Q E := by
  obtain ⟨h1, ds, F, fp, h2, e, h⟩ := h
  refine ⟨h1, ds, F, fp, h2, e, ?_⟩
  unfold frzF at h
  cases hf : f ds with
  | ok o d outs =>
    rw [hf] at h
    cases o with
    | true =>
      dsimp only at h ⊢
      cases hd : frzD d with
      | none => rw [hd] at h; exact h.elim
      | some d' =>
        rw [hd] at h
        exact fun v H' F' fp' q s e' r n => h v H' _ fp' (frz_fr (fp0 := fun _ _ => False) s n) (e'.frzQ n) (r.frz hd)
    | false => exact h
  | ex c p outs => rw [hf] at h; exact h
  | no => rw [hf] at h; exact h
section
variable {P : Program} {w : World} {K : Frag} {mg : Str → Option Value} {base : Heap}
structure FnMO (P : Program) (w : World) (K : Frag) (mg : Str → Option Value) (base : Heap) (G : Gx) (k : Nat) (x : Str) (ks : List Bool) (fn : FnO) : Prop where
  ex : ∃ (f : Addr) (fd : FuncData) (ps : List Str), mg x = some (.ref f) ∧ PySem.W.keepIn K (.ref f) = true ∧ Binds K fd ps [] ∧ FnOk P w K mg base (L2.CX P w) k f fd ps (spOfM G ks fn)
theorem fnOk_imp {k : Nat} {f : Addr} {fd : FuncData} {ps : List Str} {sp sp' : Sp} (F : FnOk P w K mg base (L2.CX P w) k f fd ps sp) (im : ∀ vs H Q E, sp' vs H Q E → sp vs H Q E) : FnOk P w K mg base (L2.CX P w) k f fd ps sp' :=
  ⟨fun vs H Q E z => F.len vs H Q E (im _ _ _ _ z), fun A outer s H as us vs Q E hr he hb hv z => F.run A outer s H as us vs Q E hr he hb hv (im _ _ _ _ z)⟩
theorem FnMO.frz {G : Gx} {k : Nat} {x : Str} {ks : List Bool} {fn : FnO} (h : FnMO P w K mg base G k x ks fn) : FnM P w K mg base G k x ks (frzF fn) := by
  obtain ⟨f, fd, ps, h1, h2, h3, h4⟩ := h.ex
  exact ⟨f, fd, ps, h1, h2, h3, fnOk_imp h4 fun vs H Q E z => sp_frz z⟩
theorem fn_okDO {d : DefM} {fd : FuncData} {N ps : List Str} {k : Nat} {G : Gx} {ks : List Bool} {body : S} (F : FunM K d fd) (S : FnScope N ps (defScope d.st)) (hks : ks.length = ps.length) (hN : ks.length ≤ N.length)
    (hbody : ∀ (cdv : Value) (A : Around) (outer : List PySem.Env) (s : Shared) (H : Hp) (E : XK), Room k (A.deeper (envOfC d.qual (defScope d.st) s.heap.objs.size (d.adr K) cdv)) →
      PSs (cxOf (L2.CX P w) P w K mg base N d.qual (defScope d.st) (d.adr K) cdv A outer s H E) (defBody d.st) (tsOf G (fun cls d _ H => E cls d H) (pinOf ks 0) body)) : FnOk P w K mg base (L2.CX P w) (k + 1) (d.adr K) fd ps (spOfM G ks (fnOfO N.length ks body)) :=
  F.ok S (fun vs H Q E h => by rw [← hks]; exact h.1) fun cdv A outer s H vs Q E hr h => ⟨_, hbody cdv A outer s H E hr, fn_bodyM hN h⟩
end
/-! ### calls -/
def callM (ks : List Bool) (fn : FnO) (as : List Av) (ρ : Env) : Rz (Bool × IV) := match gather ks as ρ with
  | none => .no
  | some ds => if (slots as).Nodup then (match fn ds with
    | .ok o d outs => (match scatter ks as outs ρ with
      | some ρ2 => .ok (o, d) ρ2
      | none => .no)
    | .ex c p outs => (match scatter ks as outs ρ with
      | some ρ2 => .ex c p ρ2
      | none => .no)
    | .no => .no) else .no
def mCall (ks : List Bool) (fn : FnO) (J : EAv) : EM := fun ρ => (J ρ).bind fun as ρ1 => callM ks fn as ρ1
section
variable {X : Cx} {G : Gx} {W : WX} {σ : L2.St} {H : Hp} {F : AP1} {fp : FPt} {ρ : Env}
theorem callM_sp {ks : List Bool} {fn : FnO} {as : List Av} {vs : List V} {Q : VK} (e : EnvR G F H σ ρ fp) (ra : RAs G σ F H vs as) (h : OcM G W σ H F fp (callM ks fn as ρ) Q) : spOfM G ks fn vs H Q (fun cls d H => W cls d σ H) := by
  unfold callM at h
  cases hg : gather ks as ρ with
  | none => rw [hg] at h; exact h.elim
  | some ds =>
    rw [hg] at h
    dsimp only at h
    by_cases nd : (slots as).Nodup
    · rw [if_pos nd] at h
      obtain ⟨l1, l2, _⟩ := gather_get hg
      have ec := call_env e ra hg nd
      refine ⟨by rw [ra.len, l1], ds, F, _, l2, ec, ?_⟩
      cases hf : fn ds with
      | ok o d outs =>
        rw [hf] at h
        dsimp only at h
        cases hs : scatter ks as outs ρ with
        | none => rw [hs] at h; exact h.elim
        | some ρ2 =>
          rw [hs] at h
          cases o with
          | true =>
            intro v H' F' fpc' q s e' r n
            obtain ⟨b1, b2⟩ := call_back e ra ec nd s e' hs
            refine h v H' F' _ q b2 b1 r ⟨fun a z => ?_, n.tr, n.nf, fun a z => ?_, n.ni⟩
            · rcases n.old a z with ⟨j, i, _, p⟩ | p
              · exact Or.inl ⟨i, p⟩
              · exact Or.inr p
            · rintro ⟨i, p⟩
              rcases p with ⟨j, p1, p2⟩ | ⟨p1, p2⟩
              · exact n.np a z ⟨j, p2⟩
              · rcases n.old a z with ⟨j, i', g1, g2⟩ | g
                · have := e.dis i i' a p2 g2
                  subst this
                  exact p1 j g1
                · exact e.tr i a p2 g
          | false =>
            intro v H' F' fpc' s e' r
            obtain ⟨b1, b2⟩ := call_back e ra ec nd s e' hs
            exact h v H' F' _ b2 b1 r
      | ex c p outs =>
        rw [hf] at h
        dsimp only at h
        cases hs : scatter ks as outs ρ with
        | none => rw [hs] at h; exact h.elim
        | some ρ2 =>
          rw [hs] at h
          intro v H' F' fpc' s e' r
          obtain ⟨b1, b2⟩ := call_back e ra ec nd s e' hs
          exact h v H' F' _ b2 b1 r
      | no => rw [hf] at h; exact h.elim
    · rw [if_neg nd] at h; exact h.elim
end
end MR
set_option maxRecDepth 100000
set_option maxHeartbeats 4000000
/-! MirRoz: a def without parameters whose result stays the caller's own. -/
namespace MR
open PySem PySem.Spec PyProof.Rows L2
section
variable {X : Cx} {G : Gx} {W : WX}
theorem x_callM0 (o : Ok X G W) {k : Nat} {x : Str} {fn : FnO} {p pos : Pos} (Fo : FnMO X.prog X.w X.K X.mg X.base G k x [] fn) (hr : Room k X.A) (hg : Gl X x := by rfl) (hdb : (x == ("__debug__" : Str)) = false := by decide) : PE X (.Call (.Name x p) [] [] pos) (tmOf G W (mCall [] fn jNil)) := by
  obtain ⟨f, fd, ps, h1, h2, h3, h4⟩ := Fo.ex
  refine ⟨fun pins s σ H Q I h => ?_⟩
  obtain ⟨ρ, F, fp, e, h⟩ := h
  have h' := ocM_bind (R := RAs) e h fun vs as ρ1 H1 F1 fp1 s1 e1 r1 h1 => callM_sp e1 r1 h1
  obtain ⟨ρ2, F2, fp2, en, h''⟩ := h'
  have h5 : spOfM G [] fn [] H Q (WE W σ) := h'' [] H F2 fp2 (Stp.refl _ _ _) en .nil
  refine wpAny_Call_Name_kw (ld_glob I hg h1 ?_ hdb)
  exact PySem.W.callWith_K0 I.kIn h2 (run_fnS (E := fun _ => WE W σ) h4 hr h3 (passAt o.tk σ) I .nil h5)
end
end MR
set_option maxRecDepth 100000
set_option maxHeartbeats 0
namespace MR
open PySem L2 PyProof.Rows
namespace K89
def b__law_bad_heads : S := (sSeq (sSetO 0 (iLst (iCons (iC (.str "most: value\n")) (iCons (iC (.str "round\nmost: value\n")) (iCons (iC (.str "round 1/2\n")) (iCons (iC (.str "round 1/2 sure sure\n")) (iCons (iC (.str "round 2/4 sure\n")) iNil))))))) (sSeq (sSetO 0 (iBinV oCat (vS 0) (vE (iLst (iCons (iC (.str "\n")) (iCons (iC (.str "round 1/2 true\n")) (iCons (iC (.str "Round 1/2 sure\n")) (iCons (iC (.str " round 1/2 sure\n")) (iCons (iC (.str "round  1/2 sure\n")) iNil))))))))) (sSeq (sApp 0 (iC (.str "round 1 sure\n"))) (sSeq (sSetO 0 (iBinV oCat (vS 0) (vE (iLst (iCons (iC (.str "round 0/1 sure\n")) (iCons (iC (.str "round 1/2 sure")) (iCons (iC (.str "sure 1/2 round\n")) (iCons (iC (.str "round 1/2 sure \n")) iNil)))))))) (sSeq (sSetO 1 (iBinV oCat (vE (iLcO 0 (tgN 2) iYes (iTup (iCons (iVar 2) (iCons (iC (.int 0)) iNil))) [2])) (vE (iLst (iCons (iTup (iCons (iC (.str "round 1/2 sure\n")) (iCons (iC (.int 1)) iNil))) (iCons (iTup (iCons (iC (.str "round 0 sure\nmost: value")) (iCons (iC (.int 1)) iNil))) iNil)))))) (sSeq (sApp 1 (iTup (iCons (iC (.str "round 1/2 sure\nmore 1/2: mark\n")) (iCons (iC (.int 2)) iNil)))) (sRetM (mO (iBinV oCat (vS 1) (vE (iLst (iCons (iTup (iCons (iC (.str "round 0 sure\nmore 2/3: mark\nround 0 sure\n")) (iCons (iC (.int 3)) iNil))) iNil))))))))))))
def fnO__law_bad_heads : FnO := fnOfO 3 [] b__law_bad_heads
def fn__law_bad_heads : Fn := frzF fnO__law_bad_heads
def b__law_bad_rules : S := (sSeq (sSet 0 (iLst (iCons (iC (.str "most value")) (iCons (iC (.str "most:value")) (iCons (iC (.str "most : value")) (iCons (iC (.str "most:  value")) (iCons (iC (.str "most: value settle")) (iCons (iC (.str "most: value value")) iNil)))))))) (sSeq (sSet 0 (iBin oAdd4 (iVar 0) (iLst (iCons (iC (.str "most:")) (iCons (iC (.str "more: value")) (iCons (iC (.str "more 2/4: value")) (iCons (iC (.str "more 1: value")) (iCons (iC (.str "given: value")) (iCons (iC (.str "given 2: value")) iNil))))))))) (sSeq (sSet 0 (iBin oAdd4 (iVar 0) (iLst (iCons (iC (.str "given 01: value")) (iCons (iC (.str "most 1/2: value")) (iCons (iC (.str "least: mark")) (iCons (iC (.str "more 1/3: mark")) (iCons (iC (.str "more 1/2: mark settle")) iNil)))))))) (sSeq (sSet 0 (iBin oAdd4 (iVar 0) (iLst (iCons (iC (.str "alone: values")) (iCons (iC (.str ": value")) (iCons (iC (.str "most: most: value")) (iCons (iC (.str "value: most")) (iCons (iC (.str "most: value ")) (iCons (iC (.str " most: value")) iNil))))))))) (sRet (iBin oAdd4 (iVar 0) (iLst (iCons (iC (.str "Most: value")) (iCons (iC (.str "")) (iCons (iC (.str "most: ")) (iCons (iC (.str "round")) iNil)))))))))))
def fn__law_bad_rules : Fn := fnOf 1 [] b__law_bad_rules
def b_can_be_first : S := (sSeq (sIf (iOrT (iNotT (iTest (iCallJ (fIsi KCS) (jCons (iVar 0) (jCons (iC (.cl "Round")) jNil))))) (iOrT (iCmp oNe (iCallJ fLen (jCons (iFld KCS (vE (iVar 0)) "own_rules") jNil)) (iC (.int 1))) (iCmp oNe (iBin oIt (iBin oIt (iFld KCS (vE (iVar 0)) "own_rules") (iC (.int 0))) (iC (.int 1))) (iC cv_MARK)))) (sRet (iC (.bl false))) sNx) (sSeq (sSet 1 (iBin oIt (iBin oIt (iFld KCS (vE (iVar 0)) "own_rules") (iC (.int 0))) (iC (.int 0)))) (sRet (iAnd (iBin oEq (iBin oIt (iVar 1) (iC (.int 0))) (iC (.str "more"))) (iBin (oIn false) (iBin oIt (iVar 1) (iC (.int 1))) (iC cv_MARK_SHARES))))))
def fn_can_be_first : Fn := fnOf 2 [false] b_can_be_first
def b_can_be_last : S := (sRet (iAnd (iCallJ (fIsi KCS) (jCons (iVar 0) (jCons (iC (.cl "Round")) jNil))) (iNot (iCallJ fAny (jCons (iLc (iSeq (iFld KCS (vE (iVar 0)) "own_rules")) (tgT ((tgN 1) :: ((tgN 2) :: []))) iYes (iBin (oIn false) (iC (.str "mark")) (iVar 2)) [1, 2]) jNil)))))
def fn_can_be_last : Fn := fnOf 3 [false] b_can_be_last
def b_is_list : S := (sRet (iIsiT KCS (vE (iVar 0)) (iCons (iC (.ty "list")) (iCons (iC (.ty "tuple")) iNil))))
def fn_is_list : Fn := fnOf 1 [false] b_is_list
def b_Program : S := (sSeq (sIf (iOrT (iNotT (iTest (iCallF [false] fn_is_list (jCons (iVar 1) jNil)))) (iOrT (iNotT (iChainT oLe oLe (iC (.int 1)) (iCallJ fLen (jCons (iVar 1) jNil)) (iC (.int 2)))) (iNotT (iTest (iCallJ fAll (jCons (iLc (iSeq (iVar 1)) (tgN 2) iYes (iCallJ (fIsi KCS) (jCons (iVar 2) (jCons (iC (.cl "Round")) jNil))) [2]) jNil)))))) (sRaiseE "BadProgram" "at" (iC .non)) sNx) (sSeq (sFor (iOn r1Of (iCons (iCallJ fLen (jCons (iVar 1) jNil)) iNil)) (tgN 3) (sSeq (sSet 4 (iBin oEq (iVar 3) (iBin oSub (iCallJ fLen (jCons (iVar 1) jNil)) (iC (.int 1))))) (sIf (iOrT (iAndT (iTest (iVar 4)) (iNotT (iTest (iCallF [false] fn_can_be_last (jCons (iBin oIt (iVar 1) (iVar 3)) jNil))))) (iAndT (iNotT (iTest (iVar 4))) (iNotT (iTest (iCallF [false] fn_can_be_first (jCons (iBin oIt (iVar 1) (iVar 3)) jNil)))))) (sRaiseE "BadProgram" "at" (iVar 3)) sNx))) (sFldS KCS 0 "own_rounds" (iCallJ fTup (jCons (iVar 1) jNil)))))
def fn_Program : Fn := fnOf 5 [true, false] b_Program
def b_is_deed : S := (sSeq (sIf (iOrT (iNotT (iTest (iCallJ (fIsi KCS) (jCons (iVar 0) (jCons (iC (.ty "tuple")) jNil))))) (iOrT (iCmp oEq (iCallJ fLen (jCons (iVar 0) jNil)) (iC (.int 0))) (iNotT (iTest (iCallJ fAll (jCons (iLc (iSeq (iVar 0)) (tgN 1) iYes (iCallJ (fIsi KCS) (jCons (iVar 1) (jCons (iC (.ty "str")) jNil))) [1]) jNil)))))) (sRet (iC (.bl false))) sNx) (sRet (iBin oEq (iVar 0) (iCallJ fTup (jCons (iLc (iSeq (iC cv_WORDS)) (tgN 1) (iCmp (oIn false) (iVar 1) (iVar 0)) (iVar 1) [1]) jNil)))))
def fn_is_deed : Fn := fnOf 2 [false] b_is_deed
def b_is_pair : S := (sRet (iAnd (iCallJ (fIsi KCS) (jCons (iVar 0) (jCons (iC (.ty "tuple")) jNil))) (iBin oEq (iCallJ fLen (jCons (iVar 0) jNil)) (iC (.int 2)))))
def fn_is_pair : Fn := fnOf 1 [false] b_is_pair
def b_is_number : S := (sRet (iAnd (iCallJ (fIsi KCS) (jCons (iVar 0) (jCons (iC (.ty "int")) jNil))) (iNot (iCallJ (fIsi KCS) (jCons (iVar 0) (jCons (iC (.ty "bool")) jNil))))))
def fn_is_number : Fn := fnOf 1 [false] b_is_number
def b_is_share : S := (sRet (iAnd (iCallF [false] fn_is_pair (jCons (iVar 0) jNil)) (iAnd (iCallJ fAll (jCons (iLc (iSeq (iVar 0)) (tgN 1) iYes (iCallF [false] fn_is_number (jCons (iVar 1) jNil)) [1]) jNil)) (iBin (oIn false) (iVar 0) (iC cv_SHARES)))))
def fn_is_share : Fn := fnOf 2 [false] b_is_share
def b_is_value : S := (sRet (iAnd (iCallF [false] fn_is_number (jCons (iVar 0) jNil)) (iBin (oIn false) (iVar 0) (iTup (iCons (iC (.int 0)) (iCons (iC (.int 1)) iNil))))))
def fn_is_value : Fn := fnOf 1 [false] b_is_value
def b_is_test : S := (sSeq (sIf (iOrT (iNotT (iTest (iCallJ (fIsi KCS) (jCons (iVar 0) (jCons (iC (.ty "tuple")) jNil))))) (iOrT (iCmp oEq (iCallJ fLen (jCons (iVar 0) jNil)) (iC (.int 0))) (iNotT (iTest (iCallJ (fIsi KCS) (jCons (iBin oIt (iVar 0) (iC (.int 0))) (jCons (iC (.ty "str")) jNil))))))) (sRet (iC (.bl false))) sNx) (sSeq (sIf (iCmp (oIn false) (iBin oIt (iVar 0) (iC (.int 0))) (iTup (iCons (iC (.str "more")) (iCons (iC (.str "given")) iNil)))) (sRet (iAnd (iBin oEq (iCallJ fLen (jCons (iVar 0) jNil)) (iC (.int 2))) (iIf (iCmp oEq (iBin oIt (iVar 0) (iC (.int 0))) (iC (.str "more"))) (iCallF [false] fn_is_share (jCons (iBin oIt (iVar 0) (iC (.int 1))) jNil)) (iCallF [false] fn_is_value (jCons (iBin oIt (iVar 0) (iC (.int 1))) jNil))))) sNx) (sRet (iAnd (iBin oEq (iCallJ fLen (jCons (iVar 0) jNil)) (iC (.int 1))) (iBin (oIn false) (iBin oIt (iVar 0) (iC (.int 0))) (iTup (iCons (iC (.str "most")) (iCons (iC (.str "least")) (iCons (iC (.str "alone")) iNil)))))))))
def fn_is_test : Fn := fnOf 1 [false] b_is_test
def b_is_rule : S := (sRet (iAnd (iCallF [false] fn_is_pair (jCons (iVar 0) jNil)) (iAnd (iCallF [false] fn_is_test (jCons (iBin oIt (iVar 0) (iC (.int 0))) jNil)) (iCallF [false] fn_is_deed (jCons (iBin oIt (iVar 0) (iC (.int 1))) jNil)))))
def fn_is_rule : Fn := fnOf 1 [false] b_is_rule
def b_Round : S := (sSeq (sIf (iNotT (iTest (iCallF [false] fn_is_share (jCons (iVar 1) jNil)))) (sRaiseE "BadRound" "part" (iC (.str "asks"))) sNx) (sSeq (sIf (iOrT (iNotT (iTest (iCallF [false] fn_is_list (jCons (iVar 2) jNil)))) (iOrT (iNotT (iChainT oLe oLe (iC (.int 1)) (iCallJ fLen (jCons (iVar 2) jNil)) (iC cv_MOST_RULES))) (iNotT (iTest (iCallJ fAll (jCons (iLc (iSeq (iVar 2)) (tgN 4) iYes (iCallF [false] fn_is_rule (jCons (iVar 4) jNil)) [4]) jNil)))))) (sRaiseE "BadRound" "part" (iC (.str "rules"))) sNx) (sSeq (sIf (iNotT (iTest (iCallJ (fIsi KCS) (jCons (iVar 3) (jCons (iC (.ty "bool")) jNil))))) (sRaiseE "BadRound" "part" (iC (.str "sure"))) sNx) (sSeq (sFldS KCS 0 "own_asks" (iVar 1)) (sSeq (sFldS KCS 0 "own_rules" (iCallJ fTup (jCons (iVar 2) jNil))) (sFldS KCS 0 "own_sure" (iVar 3)))))))
def fn_Round : Fn := fnOf 5 [true, false, false, false] b_Round
def b__law_good : S := (sSeq (sSet 0 (iLst (iCons (iTup (iCons (iTup (iCons (iC (.str "more")) (iCons (iTup (iCons (iC (.int 2)) (iCons (iC (.int 3)) iNil))) iNil))) (iCons (iTup (iCons (iC (.str "settle")) (iCons (iC (.str "value")) iNil))) iNil))) (iCons (iTup (iCons (iTup (iCons (iC (.str "most")) iNil)) (iCons (iTup (iCons (iC (.str "value")) iNil)) iNil))) (iCons (iTup (iCons (iTup (iCons (iC (.str "given")) (iCons (iC (.int 1)) iNil))) (iCons (iTup (iCons (iC (.str "settle")) iNil)) iNil))) iNil))))) (sSeq (sSet 1 (iC (.str "round 2/3 unsure\nmore 2/3: settle value\nmost: value\ngiven 1: settle\n"))) (sSeq (sSetO 2 (iLst (iCons (iTup (iCons (iVar 1) (iCons (iMake "Program" fn_Program [] (iCons (iLst (iCons (iMake "Round" fn_Round [.bl false] (iCons (iTup (iCons (iC (.int 2)) (iCons (iC (.int 3)) iNil))) (iCons (iVar 0) iNil))) iNil)) iNil)) iNil))) iNil))) (sSeq (sPar2 3 false (iMakeK "Round" fn_Round (iCons (iTup (iCons (iC (.int 1)) (iCons (iC (.int 2)) iNil))) (iCons (iLst (iCons (iTup (iCons (iTup (iCons (iC (.str "more")) (iCons (iTup (iCons (iC (.int 1)) (iCons (iC (.int 2)) iNil))) iNil))) (iCons (iTup (iCons (iC (.str "mark")) iNil)) iNil))) iNil)) iNil)) (iCons (iC (.bl true)) iNil)) 4 false (iMake "Round" fn_Round [.bl false] (iCons (iTup (iCons (iC (.int 0)) (iCons (iC (.int 1)) iNil))) (iCons (iLst (iCons (iTup (iCons (iTup (iCons (iC (.str "alone")) iNil)) (iCons (iTup (iCons (iC (.str "settle")) iNil)) iNil))) iNil)) iNil)))) (sSeq (sApp 2 (iTup (iCons (iC (.str "round 1/2 sure\nmore 1/2: mark\nround 0 unsure\nalone: settle\n")) (iCons (iMake "Program" fn_Program [] (iCons (iLst (iCons (iVar 3) (iCons (iVar 4) iNil))) iNil)) iNil)))) (sSeq (sSet 4 (iMakeK "Round" fn_Round (iCons (iTup (iCons (iC (.int 1)) (iCons (iC (.int 3)) iNil))) (iCons (iLst (iCons (iTup (iCons (iTup (iCons (iC (.str "least")) iNil)) (iCons (iTup (iCons (iC (.str "value")) iNil)) iNil))) (iCons (iTup (iCons (iTup (iCons (iC (.str "given")) (iCons (iC (.int 0)) iNil))) (iCons (iTup (iCons (iC (.str "settle")) (iCons (iC (.str "value")) iNil))) iNil))) iNil))) iNil)) (iCons (iC (.bl true)) iNil))) (sSeq (sApp 2 (iTup (iCons (iC (.str "round 1/3 sure\nleast: value\ngiven 0: settle value\n")) (iCons (iMake "Program" fn_Program [] (iCons (iLst (iCons (iVar 4) iNil)) iNil)) iNil)))) (sRet (iMv 2)))))))))
def fn__law_good : Fn := fnOf 5 [] b__law_good
abbrev fn__law_mixed : Fn := mixF
abbrev fn__law_take : Fn := takeF
def b__law_pick : S := (sRet (iBin oIt (iVar 1) (iCallF [true, false] fn__law_take (jSlot 0 (jCons (iCallJ fLen (jCons (iVar 1) jNil)) jNil)))))
def fn__law_pick : Fn := fnOf 2 [true, false] b__law_pick
def b_need_program : S := (sIf (iNotT (iTest (iCallJ (fIsi KCS) (jCons (iVar 0) (jCons (iC (.cl "Program")) jNil))))) (sRaiseE "BadProgram" "at" (iC .non)) sNx)
def fn_need_program : Fn := fnOf 1 [false] b_need_program
def b_share_text : S := (sRet (iIf (iCmp oEq (iVar 0) (iTup (iCons (iC (.int 0)) (iCons (iC (.int 1)) iNil)))) (iC (.str "0")) (iJs [(iFmt (iBin oIt (iVar 0) (iC (.int 0)))), (iC (.str "/")), (iFmt (iBin oIt (iVar 0) (iC (.int 1))))] Str.empty)))
def fn_share_text : Fn := fnOf 1 [false] b_share_text
def b_round_text : S := (sRet (iJs [(iC (.str "round ")), (iFmt (iCallF [false] fn_share_text (jCons (iProp "Round" (vE (iVar 0)) "own_asks") jNil))), (iC (.str " ")), (iFmt (iBx "sure" "unsure" (iProp "Round" (vE (iVar 0)) "own_sure")))] Str.empty))
def fn_round_text : Fn := fnOf 1 [false] b_round_text
def b_rule_text : S := (sSeq (sAsg (tgT ((tgN 1) :: ((tgN 2) :: []))) (iVar 0)) (sSeq (sSet 3 (iLst (iCons (iBin oIt (iVar 1) (iC (.int 0))) (iStar (iLc (iSeq (iSl fSl4 (vE (iVar 1)) (pSome (iC (.int 1))) pNone)) (tgN 4) iYes (iIf (iCmp oEq (iBin oIt (iVar 1) (iC (.int 0))) (iC (.str "more"))) (iCallF [false] fn_share_text (jCons (iVar 4) jNil)) (iCallJ fStrI (jCons (iVar 4) jNil))) [4]) iNil)))) (sRet (iBin oAdd4 (iBin oAdd4 (iJoin (iC (.str " ")) (iVar 3)) (iC (.str ": "))) (iJoin (iC (.str " ")) (iVar 2))))))
def fn_rule_text : Fn := fnOf 5 [false] b_rule_text
def b_program_lines : S := (sSeq (sSetO 1 (iLst iNil)) (sSeq (sFor (iSeq (iProp "Program" (vE (iVar 0)) "own_rounds")) (tgN 2) (sExt 1 (iLst (iCons (iCallF [false] fn_round_text (jCons (iVar 2) jNil)) (iStar (iLc (iSeq (iProp "Round" (vE (iVar 2)) "own_rules")) (tgN 3) iYes (iCallF [false] fn_rule_text (jCons (iVar 3) jNil)) [3]) iNil))))) (sRet (iMv 1))))
def fn_program_lines : Fn := fnOf 4 [false] b_program_lines
def b_program_text : S := (sSeq (sDrop (iCallF [false] fn_need_program (jCons (iVar 0) jNil))) (sRet (iJoin (iC (.str "")) (iLc (iSeq (iCallF [false] fn_program_lines (jCons (iVar 0) jNil))) (tgN 1) iYes (iBin oAdd4 (iVar 1) (iC (.str "\n"))) [1]))))
def fn_program_text : Fn := fnOf 2 [false] b_program_text
def b_Sheet : S := (sSeq (sShN KCS 0 "heads" false) (sShN KCS 0 "rows" true))
def fn_Sheet : Fn := fnOf 1 [true] b_Sheet
def b_share_told : S := (sSeq (sSet 1 (iLc (iSeq (iC cv_SHARES)) (tgN 2) (iCmp oEq (iCallF [false] fn_share_text (jCons (iVar 2) jNil)) (iVar 0)) (iVar 2) [2])) (sRet (iIf (iCmp oGt (iCallJ fLen (jCons (iVar 1) jNil)) (iC (.int 0))) (iBin oIt (iVar 1) (iC (.int 0))) (iC .non))))
def fn_share_told : Fn := fnOf 3 [false] b_share_told
def b_round_told : S := (sSeq (sSet 1 (iSplit (iVar 0) (iC (.str " ")))) (sSeq (sIf (iOrT (iCmp oNe (iCallJ fLen (jCons (iVar 1) jNil)) (iC (.int 3))) (iOrT (iCmp oNe (iBin oIt (iVar 1) (iC (.int 0))) (iC (.str "round"))) (iOrT (iCmp oIs (iCallF [false] fn_share_told (jCons (iBin oIt (iVar 1) (iC (.int 1))) jNil)) (iC .non)) (iTest (iVv true "sure" "unsure" (iBin oIt (iVar 1) (iC (.int 2)))))))) (sRet (iC .non)) sNx) (sRet (iTup (iCons (iCallF [false] fn_share_told (jCons (iBin oIt (iVar 1) (iC (.int 1))) jNil)) (iCons (iBin oEq (iBin oIt (iVar 1) (iC (.int 2))) (iBx "sure" "unsure" (iC (.bl true)))) iNil))))))
def fn_round_told : Fn := fnOf 2 [false] b_round_told
def b_test_told : S := (sSeq (sIf (iCmp (oIn false) (iVar 0) (iTup (iCons (iLst (iCons (iC (.str "most")) iNil)) (iCons (iLst (iCons (iC (.str "least")) iNil)) (iCons (iLst (iCons (iC (.str "alone")) iNil)) iNil))))) (sRet (iTup (iCons (iBin oIt (iVar 0) (iC (.int 0))) iNil))) sNx) (sSeq (sIf (iCmp (oIn false) (iVar 0) (iTup (iCons (iLst (iCons (iC (.str "given")) (iCons (iC (.str "0")) iNil))) (iCons (iLst (iCons (iC (.str "given")) (iCons (iC (.str "1")) iNil))) iNil)))) (sRet (iTup (iCons (iC (.str "given")) (iCons (iCallJ fIntS (jCons (iBin oIt (iVar 0) (iC (.int 1))) jNil)) iNil)))) sNx) (sSeq (sIf (iAndT (iCmp oEq (iCallJ fLen (jCons (iVar 0) jNil)) (iC (.int 2))) (iAndT (iCmp oEq (iBin oIt (iVar 0) (iC (.int 0))) (iC (.str "more"))) (iCmp oIsnt (iCallF [false] fn_share_told (jCons (iBin oIt (iVar 0) (iC (.int 1))) jNil)) (iC .non)))) (sRet (iTup (iCons (iC (.str "more")) (iCons (iCallF [false] fn_share_told (jCons (iBin oIt (iVar 0) (iC (.int 1))) jNil)) iNil)))) sNx) (sRet (iC .non)))))
def fn_test_told : Fn := fnOf 1 [false] b_test_told
def b_rule_told : S := (sSeq (sSet 1 (iSplit (iVar 0) (iC (.str ": ")))) (sSeq (sIf (iCmp oNe (iCallJ fLen (jCons (iVar 1) jNil)) (iC (.int 2))) (sRet (iC .non)) sNx) (sSeq (sAsg (tgT ((tgN 2) :: ((tgN 3) :: []))) (iTup (iCons (iCallF [false] fn_test_told (jCons (iSplit (iBin oIt (iVar 1) (iC (.int 0))) (iC (.str " "))) jNil)) (iCons (iCallJ fTup (jCons (iSplit (iBin oIt (iVar 1) (iC (.int 1))) (iC (.str " "))) jNil)) iNil)))) (sSeq (sIf (iOrT (iCmp oIs (iVar 2) (iC .non)) (iCmp oNe (iVar 3) (iCallJ fTup (jCons (iLc (iSeq (iC cv_WORDS)) (tgN 4) (iCmp (oIn false) (iVar 4) (iVar 3)) (iVar 4) [4]) jNil)))) (sRet (iC .non)) sNx) (sRet (iTup (iCons (iVar 2) (iCons (iVar 3) iNil))))))))
def fn_rule_told : Fn := fnOf 5 [false] b_rule_told
def b_Sheetis_marking : S := (sRet (iAnd (iBorS 0 (iBin oGt (iCallJ fLen (jCons (iFld KCS (vE (iVar 0)) "rows") jNil)) (iC (.int 0)))) (iAnd (iBorS 0 (iBin oNe (iBin oIt (iFld KCS (vE (iVar 0)) "rows") (iC (.int 0))) (iLst iNil))) (iBorS 0 (iBin oEq (iBin oIt (iBin oIt (iBin oIt (iFld KCS (vE (iVar 0)) "rows") (iC (.int 0))) (iC (.int 0))) (iC (.int 1))) (iTup (iCons (iC (.str "mark")) iNil)))))))
def fn_Sheetis_marking : Fn := fnOf 1 [true] b_Sheetis_marking
def b_Sheetcan_take : S := (sSeq (sSet 2 (iMake "Round" fn_Round [.bl false] (iCons (iTup (iCons (iC (.int 0)) (iCons (iC (.int 1)) iNil))) (iCons (iLst (iCons (iVar 1) iNil)) iNil)))) (sSeq (sIf (iAndT (iBorST 0 (iCmp oEq (iCallJ fLen (jCons (iFld KCS (vE (iVar 0)) "heads") jNil)) (iC (.int 1)))) (iTest (iCallF [false] fn_can_be_first (jCons (iVar 2) jNil)))) (sRet (iBorS 0 (iBin oEq (iBin oIt (iFld KCS (vE (iVar 0)) "rows") (iC (.int 0))) (iLst iNil)))) sNx) (sSeq (sIf (iOrT (iNotT (iTest (iCallF [false] fn_can_be_last (jCons (iVar 2) jNil)))) (iBorST 0 (iCmp oEq (iCallJ fLen (jCons (iBin oIt (iFld KCS (vE (iVar 0)) "rows") (iNeg (iC (.int 1)))) jNil)) (iC cv_MOST_RULES)))) (sRet (iC (.bl false))) sNx) (sRet (iOr (iBorS 0 (iBin oEq (iCallJ fLen (jCons (iFld KCS (vE (iVar 0)) "heads") jNil)) (iC (.int 2)))) (iNot (iMethS "Sheet" "is_marking" 0 [true] fn_Sheetis_marking jNil)))))))
def fn_Sheetcan_take : Fn := fnOf 3 [true, false] b_Sheetcan_take
def b_Sheettakes : S := (sSeq (sSet 2 (iCallF [false] fn_round_told (jCons (iVar 1) jNil))) (sSeq (sIf (iCmp oIsnt (iVar 2) (iC .non)) (sSeq (sIf (iOrT (iBorST 0 (iCmp oEq (iCallJ fLen (jCons (iFld KCS (vE (iVar 0)) "heads") jNil)) (iC (.int 2)))) (iAndT (iBorST 0 (iCmp oEq (iCallJ fLen (jCons (iFld KCS (vE (iVar 0)) "heads") jNil)) (iC (.int 1)))) (iNotT (iTest (iMethS "Sheet" "is_marking" 0 [true] fn_Sheetis_marking jNil))))) (sRet (iC (.bl false))) sNx) (sSeq (sShA KCS 0 "heads" 2) (sSeq (sShE KCS 0 "rows") (sRet (iC (.bl true)))))) sNx) (sSeq (sSet 3 (iCallF [false] fn_rule_told (jCons (iVar 1) jNil))) (sSeq (sIf (iOrT (iCmp oIs (iVar 3) (iC .non)) (iOrT (iBorST 0 (iCmp oEq (iCallJ fLen (jCons (iFld KCS (vE (iVar 0)) "heads") jNil)) (iC (.int 0)))) (iNotT (iTest (iMethS "Sheet" "can_take" 0 [true, false] fn_Sheetcan_take (jCons (iVar 3) jNil)))))) (sRet (iC (.bl false))) sNx) (sSeq (sShL KCS 0 "rows" 3) (sRet (iC (.bl true))))))))
def fn_Sheettakes : Fn := fnOf 4 [true, false] b_Sheettakes
def b_Sheetis_whole : S := (sSeq (sIf (iOrT (iBorST 0 (iCmp oEq (iCallJ fLen (jCons (iFld KCS (vE (iVar 0)) "heads") jNil)) (iC (.int 0)))) (iBorST 0 (iCmp oEq (iBin oIt (iFld KCS (vE (iVar 0)) "rows") (iNeg (iC (.int 1)))) (iLst iNil)))) (sRet (iC (.bl false))) sNx) (sRet (iOr (iBorS 0 (iBin oEq (iCallJ fLen (jCons (iFld KCS (vE (iVar 0)) "heads") jNil)) (iC (.int 2)))) (iNot (iMethS "Sheet" "is_marking" 0 [true] fn_Sheetis_marking jNil)))))
def fn_Sheetis_whole : Fn := fnOf 1 [true] b_Sheetis_whole
def b_read_program : S := (sSeq (sIf (iOrT (iNotT (iTest (iCallJ (fIsi KCS) (jCons (iVar 0) (jCons (iC (.ty "str")) jNil))))) (iCmp oEq (iVar 0) (iC (.str "")))) (sRaiseE "BadText" "at" (iC (.int 0))) sNx) (sSeq (sPar2 1 false (iSplit (iVar 0) (iC (.str "\n"))) 2 true (mkFS "Sheet" fn_Sheet)) (sSeq (sFor (iOn enumI (iCons (iSl fSl4 (vE (iVar 1)) pNone (pSome (iNeg (iC (.int 1))))) iNil)) (tgT ((tgN 3) :: ((tgN 4) :: []))) (sIf (iNotT (iTest (iMethS "Sheet" "takes" 2 [true, false] fn_Sheettakes (jCons (iVar 4) jNil)))) (sRaiseE "BadText" "at" (iVar 3)) sNx)) (sSeq (sIf (iOrT (iCmp oNe (iBin oIt (iVar 1) (iNeg (iC (.int 1)))) (iC (.str ""))) (iNotT (iTest (iMethS "Sheet" "is_whole" 2 [true] fn_Sheetis_whole jNil)))) (sRaiseE "BadText" "at" (iBin oSub (iCallJ fLen (jCons (iVar 1) jNil)) (iC (.int 1)))) sNx) (sRet (iMake "Program" fn_Program [] (iCons (iLc (iOn zipI (iCons (iFld KCS (vE (iMvS 2)) "heads") (iCons (iFld KCS (vE (iMvS 2)) "rows") iNil))) (tgT ((tgN 5) :: ((tgN 6) :: []))) iYes (iMakeK "Round" fn_Round (iCons (iBin oIt (iVar 5) (iC (.int 0))) (iCons (iVar 6) iNil)) (iCons (iBin oIt (iVar 5) (iC (.int 1))) iNil)) [5, 6]) iNil)))))))
def fn_read_program : Fn := fnOf 7 [false] b_read_program
def b_Round__eq__ : S := (sSeq (sIf (iOrT (iNotT (iTest (iCallJ (fIsi KCS) (jCons (iVar 1) (jCons (iC (.cl "Round")) jNil))))) (iCmp oNe (iFld KCS (vE (iVar 0)) "own_asks") (iFld KCS (vE (iVar 1)) "own_asks"))) (sRet (iC (.bl false))) sNx) (sRet (iAnd (iBin oEq (iFld KCS (vE (iVar 0)) "own_rules") (iFld KCS (vE (iVar 1)) "own_rules")) (iBin oEq (iFld KCS (vE (iVar 0)) "own_sure") (iFld KCS (vE (iVar 1)) "own_sure")))))
def fn_Round__eq__ : Fn := fnOf 2 [false, false] b_Round__eq__
def eqRounds : EQf := tupQ (rfQ KCS (insQ "Round" fn_Round__eq__))
def b_Program__eq__ : S := (sRet (iAnd (iCallJ (fIsi KCS) (jCons (iVar 1) (jCons (iC (.cl "Program")) jNil))) (iBin (oM eqRounds) (iFld KCS (vE (iVar 0)) "own_rounds") (iFld KCS (vE (iVar 1)) "own_rounds"))))
def fn_Program__eq__ : Fn := fnOf 2 [false, false] b_Program__eq__
def neProgram : EQf := insN "Program" fn_Program__eq__
def b_law : S := (sSeq (sSetO 1 (iBeg (iVar 0))) (sSeq (sFor (iSeq (iCallF [] fn__law_good jNil)) (tgT ((tgN 2) :: ((tgN 3) :: []))) (sIf (iOrT (iCmp (oM neProgram) (iCallF [false] fn_read_program (jCons (iVar 2) jNil)) (iVar 3)) (iCmp oNe (iCallF [false] fn_program_text (jCons (iVar 3) jNil)) (iVar 2))) (sRet (iC (.bl false))) sNx)) (sSeq (sSetM 4 (mCall [] fnO__law_bad_heads jNil)) (sSeq (sFor (iSeq (iCallF [] fn__law_bad_rules jNil)) (tgN 5) (sSeq (sSetO 4 (iBinV oCat (vS 4) (vE (iLst (iCons (iTup (iCons (iBin oAdd4 (iBin oAdd4 (iC (.str "round 1/2 sure\n")) (iVar 5)) (iC (.str "\n"))) (iCons (iC (.int 1)) iNil))) (iCons (iTup (iCons (iBin oAdd4 (iBin oAdd4 (iC (.str "round 0 sure\nmost: value\n")) (iVar 5)) (iC (.str "\n"))) (iCons (iC (.int 2)) iNil))) iNil)))))) (sApp 4 (iTup (iCons (iBin oAdd4 (iBin oAdd4 (iC (.str "round 1/2 sure\nmore 1/2: mark\nround 0 sure\n")) (iVar 5)) (iC (.str "\nleast: value\n"))) (iCons (iC (.int 3)) iNil)))))) (sSeq (sSet 6 (iC (.str "round 1/2 sure\nmore 1/2: mark\n"))) (sSeq (sSetO 4 (iBinV oCat (vS 4) (vE (iLst (iCons (iTup (iCons (iBin oAdd4 (iVar 6) (iC (.str "most: value\n"))) (iCons (iC (.int 2)) iNil))) (iCons (iTup (iCons (iBin oAdd4 (iVar 6) (iC (.str "more 1/2: mark\n"))) (iCons (iC (.int 2)) iNil))) iNil)))))) (sSeq (sApp 4 (iTup (iCons (iBin oAdd4 (iVar 6) (iC (.str "round 0 sure\nmore 1/2: mark\n"))) (iCons (iC (.int 3)) iNil)))) (sSeq (sSetO 4 (iBinV oCat (vS 4) (vE (iLst (iCons (iTup (iCons (iC (.str "round 1/2 sure\nmost: value\nround 1/2 sure\n")) (iCons (iC (.int 2)) iNil))) (iCons (iTup (iCons (iC (.str "round 1/2 sure\nround 1/2 sure\n")) (iCons (iC (.int 1)) iNil))) iNil)))))) (sSeq (sApp 4 (iTup (iCons (iC (.str "round 1/2 sure\nmost: value\nmore 1/2: mark\n")) (iCons (iC (.int 2)) iNil)))) (sSeq (sApp 4 (iTup (iCons (iBin oAdd4 (iVar 6) (iC (.str "round 0 sure\nmost: value\nround 0 sure\n"))) (iCons (iC (.int 4)) iNil)))) (sSeq (sApp 4 (iTup (iCons (iC (.str "round 0 sure\nmost: value\nleast: value\nalone: value\ngiven 0: value\n")) (iCons (iC (.int 4)) iNil)))) (sSeq (sSetO 4 (iBinV oCat (vS 4) (vE (iLst (iCons (iTup (iCons (iBin oAdd4 (iVar 6) (iC (.str "round 0 sure\nmost: value\nleast: value\nalone: value\ngiven 0: value\n"))) (iCons (iC (.int 6)) iNil))) iNil))))) (sSeq (sFor (iSeq (iMv 4)) (tgT ((tgN 2) :: ((tgN 7) :: []))) (sSeq (sSet 8 (iLam 10 0 (fun c => decide (c ∈ ECS)) some (iCallF [false] fn_read_program (jCons (iVar 2) jNil)))) (sIf (iOrT (iNotT (iTest (iCallJ (fIsX ECS) (jCons (iVar 8) (jCons (iC (.cl "BadText")) jNil))))) (iCmp oNe (iRepr 10 (iFldX ECS (vE (iVar 8)) "at")) (iRepr 10 (iVar 7)))) (sRet (iC (.bl false))) sNx))) (sSeq (sFor (iSeq (iLst (iCons (iC .non) (iCons (iC (.str "")) (iCons (iC (.int 5)) (iCons (iC (.bl true)) (iCons (iLst iNil) (iCons (iTup iNil) (iCons (fun ρ => .ok (.dic []) ρ) (iCons (iLst (iCons (iC (.str "round 0 sure\nmost: value\n")) iNil)) (iCons (iCallF [true, false] fn__law_pick (jSlot 1 (jCons (iLst (iCons (iC (.int 0)) (iCons (iTup (iCons (iC (.int 0)) (iCons (iC (.int 1)) iNil))) (iCons (iNeg (iC (.int 1))) iNil)))) jNil))) iNil))))))))))) (tgN 9) (sSeq (sSet 8 (iLam 10 0 (fun c => decide (c ∈ ECS)) some (iCallK 1 fn_read_program [0] iNil (iCons (iVar 9) iNil)))) (sIf (iOrT (iNotT (iTest (iCallJ (fIsX ECS) (jCons (iVar 8) (jCons (iC (.cl "BadText")) jNil))))) (iCmp oNe (iRepr 10 (iFldX ECS (vE (iVar 8)) "at")) (iC (.str "0")))) (sRet (iC (.bl false))) sNx))) (sRet (iC (.bl true)))))))))))))))))
def fn_law : Fn := fnT 11 1 b_law
end K89
end MR
set_option maxRecDepth 100000
set_option maxHeartbeats 0
namespace MR
open PySem L2 PyProof.Rows
namespace K89
abbrev NMS : List Str := ["law"]
abbrev gx (K : Frag) (cl : Option Frm := none) : Gx := gxL K NMS cl none true
structure Sx (P : Program) (w : World) (K : Frag) (mg : Str → Option Value) (base : Heap) (cl : Option Frm) : Prop where
  kc : KC (gx K cl) KCS
  fr_abs : mg "abs" = none
  fr_all : mg "all" = none
  fr_any : mg "any" = none
  fr_bool : mg "bool" = none
  fr_enumerate : mg "enumerate" = none
  fr_int : mg "int" = none
  fr_isinstance : mg "isinstance" = none
  fr_len : mg "len" = none
  fr_list : mg "list" = none
  fr_range : mg "range" = none
  fr_repr : mg "repr" = none
  fr_str : mg "str" = none
  fr_super : mg "super" = none
  fr_tuple : mg "tuple" = none
  fr_zip : mg "zip" = none
  gc_Round : mg "Round" = some (.ref ((gx K cl).cls "Round"))
  gc_Program : mg "Program" = some (.ref ((gx K cl).cls "Program"))
  gc_Sheet : mg "Sheet" = some (.ref ((gx K cl).cls "Sheet"))
  gc_HandError : mg "HandError" = some (.ref ((gx K cl).cls "HandError"))
  gc_BadRound : mg "BadRound" = some (.ref ((gx K cl).cls "BadRound"))
  gc_BadProgram : mg "BadProgram" = some (.ref ((gx K cl).cls "BadProgram"))
  gc_BadText : mg "BadText" = some (.ref ((gx K cl).cls "BadText"))
  gv_MARK : GV (gx K cl) mg "MARK" cv_MARK
  gv_MARK_SHARES : GV (gx K cl) mg "MARK_SHARES" cv_MARK_SHARES
  gv_MOST_RULES : GV (gx K cl) mg "MOST_RULES" cv_MOST_RULES
  gv_SHARES : GV (gx K cl) mg "SHARES" cv_SHARES
  gv_WORDS : GV (gx K cl) mg "WORDS" cv_WORDS
  bv_SURE : BV K mg "SURE" "sure" "unsure"
  na_at : ∀ c ∈ KCS, NoAttr (gx K cl).K ((gx K cl).cls c) "at"
  na_heads : ∀ c ∈ KCS, NoAttr (gx K cl).K ((gx K cl).cls c) "heads"
  na_own_asks : ∀ c ∈ KCS, NoAttr (gx K cl).K ((gx K cl).cls c) "own_asks"
  na_own_rounds : ∀ c ∈ KCS, NoAttr (gx K cl).K ((gx K cl).cls c) "own_rounds"
  na_own_rules : ∀ c ∈ KCS, NoAttr (gx K cl).K ((gx K cl).cls c) "own_rules"
  na_own_sure : ∀ c ∈ KCS, NoAttr (gx K cl).K ((gx K cl).cls c) "own_sure"
  na_part : ∀ c ∈ KCS, NoAttr (gx K cl).K ((gx K cl).cls c) "part"
  na_rows : ∀ c ∈ KCS, NoAttr (gx K cl).K ((gx K cl).cls c) "rows"
  ne_Round : PySem.W.findIn K (.ref ((gx K cl).cls "Round")) "__ne__" = some (some (.builtin "object.__ne__"))
  ne_Program : PySem.W.findIn K (.ref ((gx K cl).cls "Program")) "__ne__" = some (some (.builtin "object.__ne__"))
  er : ErC (gx K cl) ECS
  nt : ∀ nm ∈ (["law"] : List Str), K.lookup (He.cT K (nm, none)).2 = none
  ne_at : ∀ c ∈ ECS, NoAttr (gx K cl).K ((gx K cl).cls c) "at"
  ne_part : ∀ c ∈ ECS, NoAttr (gx K cl).K ((gx K cl).cls c) "part"
  su_BadProgram : SupC P K ((gx K cl).cls "BadProgram") "at"
  su_BadRound : SupC P K ((gx K cl).cls "BadRound") "part"
  su_BadText : SupC P K ((gx K cl).cls "BadText") "at"
  ny : K.lookup sysModules = none
  nd : ((ctOf K NMS).map (·.2)).Nodup
  pr_Round_asks : PropM P w K mg base (gx K cl) "Round" "asks" "own_asks"
  pr_Round_rules : PropM P w K mg base (gx K cl) "Round" "rules" "own_rules"
  pr_Round_sure : PropM P w K mg base (gx K cl) "Round" "sure" "own_sure"
  pr_Program_rounds : PropM P w K mg base (gx K cl) "Program" "rounds" "own_rounds"
section
variable {P : Program} {w : World} {K : Frag} {mg : Str → Option Value} {base : Heap} {cl : Option Frm}
theorem sc_self {st : Stmt} (h1 : (defScope st).kind = .function := by rfl) (h2 : (defScope st).isCoroutine = false := by rfl) (h3 : (defScope st).isGenerator = false := by rfl) (h4 : ∀ x ∈ (["self"] : List Str), (defScope st).names.lookup x = some .local ∨ (defScope st).names.lookup x = some .cell := by decide +kernel) (h5 : ∀ y ∈ (defScope st).names, y.2 ≠ .free := by decide +kernel) : FnScope ["self"] ["self"] (defScope st) := ⟨h1, h2, h3, by decide +kernel, rfl, h4, h5⟩
theorem sx_of (hP : P = prog) (Y : Sy faL fnL exL K mg) : Sx P w K mg base cl := by
  have e := Y.ex_
  unfold exL at e
  obtain ⟨e_kc, e⟩ := He.ba e
  obtain ⟨e_na_at, e⟩ := He.ba e
  obtain ⟨e_na_heads, e⟩ := He.ba e
  obtain ⟨e_na_own_asks, e⟩ := He.ba e
  obtain ⟨e_na_own_rounds, e⟩ := He.ba e
  obtain ⟨e_na_own_rules, e⟩ := He.ba e
  obtain ⟨e_na_own_sure, e⟩ := He.ba e
  obtain ⟨e_na_part, e⟩ := He.ba e
  obtain ⟨e_na_rows, e⟩ := He.ba e
  obtain ⟨e_gv_MARK, e⟩ := He.ba e
  obtain ⟨e_gv_MARK_SHARES, e⟩ := He.ba e
  obtain ⟨e_gv_MOST_RULES, e⟩ := He.ba e
  obtain ⟨e_gv_SHARES, e⟩ := He.ba e
  obtain ⟨e_gv_WORDS, e⟩ := He.ba e
  obtain ⟨e_bv_SURE, e⟩ := He.ba e
  obtain ⟨e_pr_Round_asks, e⟩ := He.ba e
  obtain ⟨e_pr_Round_rules, e⟩ := He.ba e
  obtain ⟨e_pr_Round_sure, e⟩ := He.ba e
  obtain ⟨e_pr_Program_rounds, e⟩ := He.ba e
  obtain ⟨e_ne_Round, e⟩ := He.ba e
  obtain ⟨e_ne_Program, e⟩ := He.ba e
  obtain ⟨e_er, e⟩ := He.ba e
  obtain ⟨e_nt, e⟩ := He.ba e
  obtain ⟨e_ne_at, e⟩ := He.ba e
  obtain ⟨e_ne_part, e⟩ := He.ba e
  obtain ⟨e_su_BadProgram, e⟩ := He.ba e
  obtain ⟨e_su_BadRound, e⟩ := He.ba e
  obtain ⟨e_su_BadText, e⟩ := He.ba e
  obtain ⟨e_ny, e⟩ := He.ba e
  have e_nd := e
  have kc : KC (gx K cl) KCS := kc_of (by decide +kernel) e_kc
  have na_at : ∀ c ∈ KCS, NoAttr (gx K cl).K ((gx K cl).cls c) "at" := naB_ok e_na_at
  have na_heads : ∀ c ∈ KCS, NoAttr (gx K cl).K ((gx K cl).cls c) "heads" := naB_ok e_na_heads
  have na_own_asks : ∀ c ∈ KCS, NoAttr (gx K cl).K ((gx K cl).cls c) "own_asks" := naB_ok e_na_own_asks
  have na_own_rounds : ∀ c ∈ KCS, NoAttr (gx K cl).K ((gx K cl).cls c) "own_rounds" := naB_ok e_na_own_rounds
  have na_own_rules : ∀ c ∈ KCS, NoAttr (gx K cl).K ((gx K cl).cls c) "own_rules" := naB_ok e_na_own_rules
  have na_own_sure : ∀ c ∈ KCS, NoAttr (gx K cl).K ((gx K cl).cls c) "own_sure" := naB_ok e_na_own_sure
  have na_part : ∀ c ∈ KCS, NoAttr (gx K cl).K ((gx K cl).cls c) "part" := naB_ok e_na_part
  have na_rows : ∀ c ∈ KCS, NoAttr (gx K cl).K ((gx K cl).cls c) "rows" := naB_ok e_na_rows
  have pr_Round_asks : PropM P w K mg base (gx K cl) "Round" "asks" "own_asks" := by
    obtain ⟨fd, F⟩ := Y.def_ 40 (d := dm_Round_asks) rfl
    exact prop_of (kc.cls _ (by decide)) e_pr_Round_asks (na_own_asks _ (by decide)) F rfl rfl sc_self rfl rfl (fun _ _ _ _ _ _ us hl => match us, hl with | [_], _ => rfl)
  have pr_Round_rules : PropM P w K mg base (gx K cl) "Round" "rules" "own_rules" := by
    obtain ⟨fd, F⟩ := Y.def_ 41 (d := dm_Round_rules) rfl
    exact prop_of (kc.cls _ (by decide)) e_pr_Round_rules (na_own_rules _ (by decide)) F rfl rfl sc_self rfl rfl (fun _ _ _ _ _ _ us hl => match us, hl with | [_], _ => rfl)
  have pr_Round_sure : PropM P w K mg base (gx K cl) "Round" "sure" "own_sure" := by
    obtain ⟨fd, F⟩ := Y.def_ 42 (d := dm_Round_sure) rfl
    exact prop_of (kc.cls _ (by decide)) e_pr_Round_sure (na_own_sure _ (by decide)) F rfl rfl sc_self rfl rfl (fun _ _ _ _ _ _ us hl => match us, hl with | [_], _ => rfl)
  have pr_Program_rounds : PropM P w K mg base (gx K cl) "Program" "rounds" "own_rounds" := by
    obtain ⟨fd, F⟩ := Y.def_ 43 (d := dm_Program_rounds) rfl
    exact prop_of (kc.cls _ (by decide)) e_pr_Program_rounds (na_own_rounds _ (by decide)) F rfl rfl sc_self rfl rfl (fun _ _ _ _ _ _ us hl => match us, hl with | [_], _ => rfl)
  have ne_at : ∀ c ∈ ECS, NoAttr (gx K cl).K ((gx K cl).cls c) "at" := naB_ok e_ne_at
  have ne_part : ∀ c ∈ ECS, NoAttr (gx K cl).K ((gx K cl).cls c) "part" := naB_ok e_ne_part
  have su_BadProgram : SupC P K ((gx K cl).cls "BadProgram") "at" := by
    subst hP
    exact supC_of (d := dm_BadProgram_ini) e_su_BadProgram rfl rfl (Y.defC 44 (d := dm_BadProgram_ini) rfl) (by kernel_rfl) rfl rfl rfl (fun _ _ _ _ _ _ _ _ _ _ => BindsTo.of_eq rfl) (fun _ _ _ _ _ _ _ _ _ _ => BindsTo.of_eq rfl) (by kernel_rfl) (by kernel_rfl) (by kernel_rfl) (by kernel_rfl) (by decide) (by decide +kernel) rfl rfl rfl (by decide) rfl
  have su_BadRound : SupC P K ((gx K cl).cls "BadRound") "part" := by
    subst hP
    exact supC_of (d := dm_BadRound_ini) e_su_BadRound rfl rfl (Y.defC 45 (d := dm_BadRound_ini) rfl) (by kernel_rfl) rfl rfl rfl (fun _ _ _ _ _ _ _ _ _ _ => BindsTo.of_eq rfl) (fun _ _ _ _ _ _ _ _ _ _ => BindsTo.of_eq rfl) (by kernel_rfl) (by kernel_rfl) (by kernel_rfl) (by kernel_rfl) (by decide) (by decide +kernel) rfl rfl rfl (by decide) rfl
  have su_BadText : SupC P K ((gx K cl).cls "BadText") "at" := by
    subst hP
    exact supC_of (d := dm_BadText_ini) e_su_BadText rfl rfl (Y.defC 46 (d := dm_BadText_ini) rfl) (by kernel_rfl) rfl rfl rfl (fun _ _ _ _ _ _ _ _ _ _ => BindsTo.of_eq rfl) (fun _ _ _ _ _ _ _ _ _ _ => BindsTo.of_eq rfl) (by kernel_rfl) (by kernel_rfl) (by kernel_rfl) (by kernel_rfl) (by decide) (by decide +kernel) rfl rfl rfl (by decide) rfl
  exact ⟨kc, (Y.free 37), (Y.free 38), (Y.free 39), (Y.free 40), (Y.free 41), (Y.free 42), (Y.free 43), (Y.free 44), (Y.free 45), (Y.free 46), (Y.free 47), (Y.free 48), (Y.free 49), (Y.free 50), (Y.free 51), (Y.glo 30), (Y.glo 31), (Y.glo 32), (Y.glo 33), (Y.glo 34), (Y.glo 35), (Y.glo 36), (gv_of Y.ns e_gv_MARK), (gv_of Y.ns e_gv_MARK_SHARES), (gv_of Y.ns e_gv_MOST_RULES), (gv_of Y.ns e_gv_SHARES), (gv_of Y.ns e_gv_WORDS), (bv_of Y.ns e_bv_SURE), na_at, na_heads, na_own_asks, na_own_rounds, na_own_rules, na_own_sure, na_part, na_rows, (of_decide_eq_true e_ne_Round), (of_decide_eq_true e_ne_Program), (erC_of (by decide +kernel) e_er), (fun nm hm => Option.isNone_iff_eq_none.mp (List.all_eq_true.mp e_nt nm hm)), ne_at, ne_part, su_BadProgram, su_BadRound, su_BadText, (Option.isNone_iff_eq_none.mp e_ny), (of_decide_eq_true e_nd), pr_Round_asks, pr_Round_rules, pr_Round_sure, pr_Program_rounds⟩
theorem sc__law_bad_heads : FnScope ["_law_some", "_law_found", "_law_page"] [] (defScope (top 44)) := ⟨rfl, rfl, rfl, by decide +kernel, rfl, by decide +kernel, by decide +kernel⟩
theorem kO__law_bad_heads (Y : Sy faL fnL exL K mg) (S : Sx P w K mg base cl) : FnMO P w K mg base (gx K cl) 1 "_law_bad_heads" [] fnO__law_bad_heads := by
  obtain ⟨fd, F⟩ := Y.def_ 0 (d := dm__law_bad_heads) rfl
  have sc := sc__law_bad_heads
  have bi : Binds K fd [] [] := FunD.bindsN F (fun _ _ _ _ _ _ us hl => match us, hl with | [], _ => rfl)
  have hF : FnOk P w K mg base (L2.CX P w) 1 (dm__law_bad_heads.adr K) fd [] (spOfM (gx K cl) [] (fnOfO 3 [] b__law_bad_heads)) := by
    refine fn_okDO (N := ["_law_some", "_law_found", "_law_page"]) (d := dm__law_bad_heads) (k := 0) (ks := []) (body := b__law_bad_heads) F sc rfl (by decide) fun cdv A outer s H E hr => ?_
    have o : Ok (cxOf (L2.CX P w) P w K mg base ["_law_some", "_law_found", "_law_page"] dm__law_bad_heads.qual (defScope dm__law_bad_heads.st) (dm__law_bad_heads.adr K) cdv A outer s H E) (gx K cl) (fun cls d _ H => E cls d H) := ok_of hr rfl
    have hpa : PassesOwn (model P w) _ _ _ := passes_of (X := cxOf (L2.CX P w) P w K mg base ["_law_some", "_law_found", "_law_page"] dm__law_bad_heads.qual (defScope dm__law_bad_heads.st) (dm__law_bad_heads.adr K) cdv A outer s H E) rfl
    exact (b_cons (s_setO 0 sc.nd (o_lst (a_cons m_str (a_cons m_str (a_cons m_str (a_cons m_str (a_cons m_str a_nil)))))))
      (b_cons (s_setO 0 sc.nd (o_cat (v_s 0) (v_e (m_lst (a_cons m_str (a_cons m_str (a_cons m_str (a_cons m_str (a_cons m_str a_nil)))))))))
      (b_cons (s_app o 0 m_str)
      (b_cons (s_setO 0 sc.nd (o_cat (v_s 0) (v_e (m_lst (a_cons m_str (a_cons m_str (a_cons m_str (a_cons m_str a_nil))))))))
      (b_cons (s_setO 1 sc.nd (o_cat (v_e (m_lcO o 0 (own := [("_law_page", 2)]) sc.nd (show BlkOk ["_law_some", "_law_found", "_law_page"] (defScope dm__law_bad_heads.st) _ _ from ⟨rfl, by decide +kernel, by decide +kernel, by decide +kernel, by decide +kernel⟩) (fun s H C cl fp => (g_name 2 sc.nd)) (fun s H C cl fp => ts_nil) (fun s H C cl fp => (m_tup (a_cons (m_var 2) (a_cons m_int a_nil)))))) (v_e (m_lst (a_cons (m_tup (a_cons m_str (a_cons m_int a_nil))) (a_cons (m_tup (a_cons m_str (a_cons m_int a_nil))) a_nil))))))
      (b_cons (s_app o 1 (m_tup (a_cons m_str (a_cons m_int a_nil))))
      (b_one (s_retM (x_O (o_cat (v_s 1) (v_e (m_lst (a_cons (m_tup (a_cons m_str (a_cons m_int a_nil))) a_nil)))))))))))))
  exact ⟨_, fd, [], Y.glo 0, F.kp, bi, hF⟩
theorem k__law_bad_heads (Y : Sy faL fnL exL K mg) (S : Sx P w K mg base cl) : FnM P w K mg base (gx K cl) 1 "_law_bad_heads" [] fn__law_bad_heads := (kO__law_bad_heads Y S).frz
theorem sc__law_bad_rules : FnScope ["_law_some"] [] (defScope (top 45)) := ⟨rfl, rfl, rfl, by decide +kernel, rfl, by decide +kernel, by decide +kernel⟩
theorem k__law_bad_rules (Y : Sy faL fnL exL K mg) (S : Sx P w K mg base cl) : FnM P w K mg base (gx K cl) 1 "_law_bad_rules" [] fn__law_bad_rules := by
  obtain ⟨fd, F⟩ := Y.def_ 1 (d := dm__law_bad_rules) rfl
  have sc := sc__law_bad_rules
  have bi : Binds K fd [] [] := FunD.bindsN F (fun _ _ _ _ _ _ us hl => match us, hl with | [], _ => rfl)
  have hF : FnOk P w K mg base (L2.CX P w) 1 (dm__law_bad_rules.adr K) fd [] (spOf (gx K cl) [] (fnOf 1 [] b__law_bad_rules)) := by
    refine fn_okD (N := ["_law_some"]) (d := dm__law_bad_rules) (k := 0) (ks := []) (body := b__law_bad_rules) F sc rfl (by decide) fun cdv A outer s H E hr => ?_
    have o : Ok (cxOf (L2.CX P w) P w K mg base ["_law_some"] dm__law_bad_rules.qual (defScope dm__law_bad_rules.st) (dm__law_bad_rules.adr K) cdv A outer s H E) (gx K cl) (fun cls d _ H => E cls d H) := ok_of hr rfl
    have hpa : PassesOwn (model P w) _ _ _ := passes_of (X := cxOf (L2.CX P w) P w K mg base ["_law_some"] dm__law_bad_rules.qual (defScope dm__law_bad_rules.st) (dm__law_bad_rules.adr K) cdv A outer s H E) rfl
    exact (b_cons (s_set 0 sc.nd (m_lst (a_cons m_str (a_cons m_str (a_cons m_str (a_cons m_str (a_cons m_str (a_cons m_str a_nil))))))))
      (b_cons (s_set 0 sc.nd (m_add4 o (m_var 0) (m_lst (a_cons m_str (a_cons m_str (a_cons m_str (a_cons m_str (a_cons m_str (a_cons m_str a_nil)))))))))
      (b_cons (s_set 0 sc.nd (m_add4 o (m_var 0) (m_lst (a_cons m_str (a_cons m_str (a_cons m_str (a_cons m_str (a_cons m_str a_nil))))))))
      (b_cons (s_set 0 sc.nd (m_add4 o (m_var 0) (m_lst (a_cons m_str (a_cons m_str (a_cons m_str (a_cons m_str (a_cons m_str (a_cons m_str a_nil)))))))))
      (b_one (s_ret (m_add4 o (m_var 0) (m_lst (a_cons m_str (a_cons m_str (a_cons m_str (a_cons m_str a_nil))))))))))))
  exact ⟨_, fd, [], Y.glo 1, F.kp, bi, hF⟩
theorem sc__law_begun : FnScope ["_law_script", "_law_large", "_law_grain"] ["_law_script"] (defScope (top 38)) := ⟨rfl, rfl, rfl, by decide +kernel, rfl, by decide +kernel, by decide +kernel⟩
theorem k__law_begun (Y : Sy faL fnL exL K mg) (S : Sx P w K mg base cl) : BegM P w K mg base (gx K cl) 1 "_law_begun" := by
  obtain ⟨fd, F⟩ := Y.def_ 2 (d := dm__law_begun) rfl
  have sc := sc__law_begun
  have bi : Binds K fd ["_law_script"] [] := FunD.bindsN F (fun _ _ _ _ _ _ us hl => match us, hl with | [_], _ => rfl)
  refine ⟨_, fd, ["_law_script"], Y.glo 2, F.kp, bi, beg_okD (N := ["_law_script", "_law_large", "_law_grain"]) (d := dm__law_begun) (k := 0) F sc rfl rfl fun cdv A outer s H E hr => ?_⟩
  have o : Ok (cxOf (L2.CX P w) P w K mg base ["_law_script", "_law_large", "_law_grain"] dm__law_begun.qual (defScope dm__law_begun.st) (dm__law_begun.adr K) cdv A outer s H E) (gx K cl) (fun cls d _ H => E cls d H) := ok_of hr rfl
  have hpa : PassesOwn (model P w) _ _ _ := passes_of (X := cxOf (L2.CX P w) P w K mg base ["_law_script", "_law_large", "_law_grain"] dm__law_begun.qual (defScope dm__law_begun.st) (dm__law_begun.adr K) cdv A outer s H E) rfl
  exact pss_cons (s_setLcO o 1 (own := [("_law_grain", 2)]) sc.nd (i_seq o (m_var 0)) (show BlkOk ["_law_script", "_law_large", "_law_grain"] (defScope dm__law_begun.st) _ _ from ⟨rfl, by decide +kernel, by decide +kernel, by decide +kernel, by decide +kernel⟩) (fun s H C cl fp => (g_name 2 sc.nd)) (fun s H C cl fp => (ts_one (n_ge (m_abs rfl (S.fr_abs) (j_cons (m_var 2) j_nil)) (m_pow m_int m_int)))) (fun s H C cl fp => (m_sub (m_abs rfl (S.fr_abs) (j_cons (m_var 2) j_nil)) (m_pow m_int m_int)))) (pss_one (ps_ret (pe_disp (pps_cons pe_str (pv 1) (pps_cons pe_str pe_int (pps_cons pe_str (o_lc o (own := [("_law_grain", 2)]) sc.nd (i_seq o (m_var 0)) (show BlkOk ["_law_script", "_law_large", "_law_grain"] (defScope dm__law_begun.st) _ _ from ⟨rfl, by decide +kernel, by decide +kernel, by decide +kernel, by decide +kernel⟩) (fun s H C cl fp => (g_name 2 sc.nd)) (fun s H C cl fp => ts_nil) (fun s H C cl fp => (m_abs rfl (S.fr_abs) (j_cons (m_var 2) j_nil)))) (pps_cons pe_str pe_int pps_nil)))) rfl rfl (fun z => by cases z) (by decide))))
theorem sc__law_caught : FnScope ["_law_work", "_law_caught_here", "_law_error"] ["_law_work"] (defScope (top 42)) := ⟨rfl, rfl, rfl, by decide +kernel, rfl, by decide +kernel, by decide +kernel⟩
theorem k__law_caught (Y : Sy faL fnL exL K mg) (S : Sx P w K mg base cl) : WrkM P w K mg base (gx K cl) (.ref ((gx K cl).cls "HandError")) 1 "_law_caught" some := by
  obtain ⟨fd, F⟩ := Y.def_ 3 (d := dm__law_caught) rfl
  have sc := sc__law_caught
  have bi : Binds K fd ["_law_work"] [] := FunD.bindsN F (fun _ _ _ _ _ _ us hl => match us, hl with | [_], _ => rfl)
  exact ⟨_, fd, ["_law_work"], Y.glo 3, F.kp, bi, rfl, cat_ok F sc rfl rfl rfl rfl rfl rfl S.gc_HandError⟩
theorem sc_can_be_first : FnScope ["part", "test"] ["part"] (defScope (top 21)) := ⟨rfl, rfl, rfl, by decide +kernel, rfl, by decide +kernel, by decide +kernel⟩
theorem k_can_be_first (Y : Sy faL fnL exL K mg) (S : Sx P w K mg base cl) : FnM P w K mg base (gx K cl) 1 "can_be_first" [false] fn_can_be_first := by
  obtain ⟨fd, F⟩ := Y.def_ 4 (d := dm_can_be_first) rfl
  have sc := sc_can_be_first
  have bi : Binds K fd ["part"] [] := FunD.bindsN F (fun _ _ _ _ _ _ us hl => match us, hl with | [_], _ => rfl)
  have hF : FnOk P w K mg base (L2.CX P w) 1 (dm_can_be_first.adr K) fd ["part"] (spOf (gx K cl) [false] (fnOf 2 [false] b_can_be_first)) := by
    refine fn_okD (N := ["part", "test"]) (d := dm_can_be_first) (k := 0) (ks := [false]) (body := b_can_be_first) F sc rfl (by decide) fun cdv A outer s H E hr => ?_
    have o : Ok (cxOf (L2.CX P w) P w K mg base ["part", "test"] dm_can_be_first.qual (defScope dm_can_be_first.st) (dm_can_be_first.adr K) cdv A outer s H E) (gx K cl) (fun cls d _ H => E cls d H) := ok_of hr rfl
    have hpa : PassesOwn (model P w) _ _ _ := passes_of (X := cxOf (L2.CX P w) P w K mg base ["part", "test"] dm_can_be_first.qual (defScope dm_can_be_first.st) (dm_can_be_first.adr K) cdv A outer s H E) rfl
    exact (b_cons (s_if (n_w (w_or (n_not (n_truth o (m_isi o S.kc rfl (S.fr_isinstance) (j_cons (m_var 0) (j_cons (m_cls rfl S.gc_Round) j_nil))))) (w_or (n_ne o (m_len o rfl (S.fr_len) (j_cons (m_fld o S.kc S.na_own_rules (v_e (m_var 0))) j_nil)) m_int) (w_or1 (n_ne o (m_it o (m_it o (m_fld o S.kc S.na_own_rules (v_e (m_var 0))) m_int) m_int) (m_gv S.gv_MARK)))))) (b_one (s_ret m_bl)) b_nil)
      (b_cons (s_set 1 sc.nd (m_it o (m_it o (m_fld o S.kc S.na_own_rules (v_e (m_var 0))) m_int) m_int))
      (b_one (s_ret (m_and o (m_eq o (m_it o (m_var 1) m_int) m_str) (m_one (m_in o (m_it o (m_var 1) m_int) (m_gv S.gv_MARK_SHARES))))))))
  exact ⟨_, fd, ["part"], Y.glo 4, F.kp, bi, hF⟩
theorem sc_can_be_last : FnScope ["part", "test", "deed"] ["part"] (defScope (top 20)) := ⟨rfl, rfl, rfl, by decide +kernel, rfl, by decide +kernel, by decide +kernel⟩
theorem k_can_be_last (Y : Sy faL fnL exL K mg) (S : Sx P w K mg base cl) : FnM P w K mg base (gx K cl) 1 "can_be_last" [false] fn_can_be_last := by
  obtain ⟨fd, F⟩ := Y.def_ 5 (d := dm_can_be_last) rfl
  have sc := sc_can_be_last
  have bi : Binds K fd ["part"] [] := FunD.bindsN F (fun _ _ _ _ _ _ us hl => match us, hl with | [_], _ => rfl)
  have hF : FnOk P w K mg base (L2.CX P w) 1 (dm_can_be_last.adr K) fd ["part"] (spOf (gx K cl) [false] (fnOf 3 [false] b_can_be_last)) := by
    refine fn_okD (N := ["part", "test", "deed"]) (d := dm_can_be_last) (k := 0) (ks := [false]) (body := b_can_be_last) F sc rfl (by decide) fun cdv A outer s H E hr => ?_
    have o : Ok (cxOf (L2.CX P w) P w K mg base ["part", "test", "deed"] dm_can_be_last.qual (defScope dm_can_be_last.st) (dm_can_be_last.adr K) cdv A outer s H E) (gx K cl) (fun cls d _ H => E cls d H) := ok_of hr rfl
    have hpa : PassesOwn (model P w) _ _ _ := passes_of (X := cxOf (L2.CX P w) P w K mg base ["part", "test", "deed"] dm_can_be_last.qual (defScope dm_can_be_last.st) (dm_can_be_last.adr K) cdv A outer s H E) rfl
    exact (b_one (s_ret (m_and o (m_isi o S.kc rfl (S.fr_isinstance) (j_cons (m_var 0) (j_cons (m_cls rfl S.gc_Round) j_nil))) (m_one (m_not o (m_any o rfl (S.fr_any) (j_cons (m_frz (o_lc o (own := [("test", 1), ("deed", 2)]) sc.nd (i_seq o (m_fld o S.kc S.na_own_rules (v_e (m_var 0)))) (show BlkOk ["part", "test", "deed"] (defScope dm_can_be_last.st) _ _ from ⟨rfl, by decide +kernel, by decide +kernel, by decide +kernel, by decide +kernel⟩) (fun s H C cl fp => (g_tup (Ok.blk o) (gs_cons (g_name 1 sc.nd) (gs_cons (g_name 2 sc.nd) gs_nil)))) (fun s H C cl fp => ts_nil) (fun s H C cl fp => (m_in (Ok.blk o) m_str (m_var 2)))) (iLc_fz _ _ _ _ _)) j_nil)))))))
  exact ⟨_, fd, ["part"], Y.glo 5, F.kp, bi, hF⟩
theorem sc_is_list : FnScope ["thing"] ["thing"] (defScope (top 12)) := ⟨rfl, rfl, rfl, by decide +kernel, rfl, by decide +kernel, by decide +kernel⟩
theorem k_is_list (Y : Sy faL fnL exL K mg) (S : Sx P w K mg base cl) : FnM P w K mg base (gx K cl) 1 "is_list" [false] fn_is_list := by
  obtain ⟨fd, F⟩ := Y.def_ 6 (d := dm_is_list) rfl
  have sc := sc_is_list
  have bi : Binds K fd ["thing"] [] := FunD.bindsN F (fun _ _ _ _ _ _ us hl => match us, hl with | [_], _ => rfl)
  have hF : FnOk P w K mg base (L2.CX P w) 1 (dm_is_list.adr K) fd ["thing"] (spOf (gx K cl) [false] (fnOf 1 [false] b_is_list)) := by
    refine fn_okD (N := ["thing"]) (d := dm_is_list) (k := 0) (ks := [false]) (body := b_is_list) F sc rfl (by decide) fun cdv A outer s H E hr => ?_
    have o : Ok (cxOf (L2.CX P w) P w K mg base ["thing"] dm_is_list.qual (defScope dm_is_list.st) (dm_is_list.adr K) cdv A outer s H E) (gx K cl) (fun cls d _ H => E cls d H) := ok_of hr rfl
    have hpa : PassesOwn (model P w) _ _ _ := passes_of (X := cxOf (L2.CX P w) P w K mg base ["thing"] dm_is_list.qual (defScope dm_is_list.st) (dm_is_list.adr K) cdv A outer s H E) rfl
    exact (b_one (s_ret (m_isiT o S.kc rfl (S.fr_isinstance) (v_e (m_var 0)) (a_cons (m_ty rfl (S.fr_list) rfl) (a_cons (m_ty rfl (S.fr_tuple) rfl) a_nil)))))
  exact ⟨_, fd, ["thing"], Y.glo 6, F.kp, bi, hF⟩
theorem sc_Program : FnScope ["self", "rounds", "part", "at", "is_last"] ["self", "rounds"] (defScope (mth 22 0)) := ⟨rfl, rfl, rfl, by decide +kernel, rfl, by decide +kernel, by decide +kernel⟩
theorem k_Program (Y : Sy faL fnL exL K mg) (S : Sx P w K mg base cl) : ∃ f fd, MkM P w K mg base (gx K cl) 3 "Program" "Program" 1 fn_Program f fd ["self", "rounds"] ∧ Binds K fd ["self", "rounds"] [] := by
  obtain ⟨fd, F⟩ := Y.def_ 7 (d := dm_Program) rfl
  have sc := sc_Program
  have F_can_be_first := k_can_be_first (P := P) (w := w) (base := base) Y S
  have F_can_be_last := k_can_be_last (P := P) (w := w) (base := base) Y S
  have F_is_list := k_is_list (P := P) (w := w) (base := base) Y S
  have bi : Binds K fd ["self", "rounds"] [] := FunD.bindsN F (fun _ _ _ _ _ _ us hl => match us, hl with | [_, _], _ => rfl)
  have hF : FnOk P w K mg base (L2.CX P w) 3 (dm_Program.adr K) fd ["self", "rounds"] (spOf (gx K cl) [true, false] (fnOf 5 [true, false] b_Program)) := by
    refine fn_okD (N := ["self", "rounds", "part", "at", "is_last"]) (d := dm_Program) (k := 2) (ks := [true, false]) (body := b_Program) F sc rfl (by decide) fun cdv A outer s H E hr => ?_
    have o : Ok (cxOf (L2.CX P w) P w K mg base ["self", "rounds", "part", "at", "is_last"] dm_Program.qual (defScope dm_Program.st) (dm_Program.adr K) cdv A outer s H E) (gx K cl) (fun cls d _ H => E cls d H) := ok_of hr rfl
    have hpa : PassesOwn (model P w) _ _ _ := passes_of (X := cxOf (L2.CX P w) P w K mg base ["self", "rounds", "part", "at", "is_last"] dm_Program.qual (defScope dm_Program.st) (dm_Program.adr K) cdv A outer s H E) rfl
    exact (b_cons (s_if (n_w (w_or (n_not (n_truth o (m_callM o F_is_list (hr.mono (by decide)) (j_cons (m_var 1) j_nil)))) (w_or (n_not (n_chain op_le op_le (of_I fun _ _ _ _ => .bl _) (of_I fun _ _ _ _ => .bl _) m_int (m_len o rfl (S.fr_len) (j_cons (m_var 1) j_nil)) m_int)) (w_or1 (n_not (n_truth o (m_all o rfl (S.fr_all) (j_cons (m_frz (o_lc o (own := [("part", 2)]) sc.nd (i_seq o (m_var 1)) (show BlkOk ["self", "rounds", "part", "at", "is_last"] (defScope dm_Program.st) _ _ from ⟨rfl, by decide +kernel, by decide +kernel, by decide +kernel, by decide +kernel⟩) (fun s H C cl fp => (g_name 2 sc.nd)) (fun s H C cl fp => ts_nil) (fun s H C cl fp => (m_isi (Ok.blk o) S.kc rfl (S.fr_isinstance) (j_cons (m_var 2) (j_cons (m_cls rfl S.gc_Round) j_nil))))) (iLc_fz _ _ _ _ _)) j_nil)))))))) (b_one (s_raiseE o S.er S.su_BadProgram (hr.mono (by decide)) (S.fr_super) S.gc_BadProgram m_non)) b_nil)
      (b_cons (s_for o hpa (i_rng1 rfl (S.fr_range) (a_cons (m_len o rfl (S.fr_len) (j_cons (m_var 1) j_nil)) a_nil)) (g_name 3 sc.nd) (b_cons (s_set 4 sc.nd (m_eq o (m_var 3) (m_sub (m_len o rfl (S.fr_len) (j_cons (m_var 1) j_nil)) m_int)))
      (b_one (s_if (n_w (w_or (n_w (w_and (n_truth o (m_var 4)) (w_and1 (n_not (n_truth o (m_callM o F_can_be_last (hr.mono (by decide)) (j_cons (m_it o (m_var 1) (m_var 3)) j_nil))))))) (w_or1 (n_w (w_and (n_not (n_truth o (m_var 4))) (w_and1 (n_not (n_truth o (m_callM o F_can_be_first (hr.mono (by decide)) (j_cons (m_it o (m_var 1) (m_var 3)) j_nil)))))))))) (b_one (s_raiseE o S.er S.su_BadProgram (hr.mono (by decide)) (S.fr_super) S.gc_BadProgram (m_var 3))) b_nil))))
      (b_one (s_fld o S.kc 0 S.na_own_rounds (m_tuple o rfl (S.fr_tuple) (j_cons (m_var 1) j_nil))))))
  exact ⟨_, fd, ⟨Y.glo 31, He.mkr_ok (Y.fact 53 (f := .mkr "Program")), hF, rfl⟩, bi⟩
theorem sc_is_deed : FnScope ["thing", "word"] ["thing"] (defScope (top 17)) := ⟨rfl, rfl, rfl, by decide +kernel, rfl, by decide +kernel, by decide +kernel⟩
theorem k_is_deed (Y : Sy faL fnL exL K mg) (S : Sx P w K mg base cl) : FnM P w K mg base (gx K cl) 1 "is_deed" [false] fn_is_deed := by
  obtain ⟨fd, F⟩ := Y.def_ 8 (d := dm_is_deed) rfl
  have sc := sc_is_deed
  have bi : Binds K fd ["thing"] [] := FunD.bindsN F (fun _ _ _ _ _ _ us hl => match us, hl with | [_], _ => rfl)
  have hF : FnOk P w K mg base (L2.CX P w) 1 (dm_is_deed.adr K) fd ["thing"] (spOf (gx K cl) [false] (fnOf 2 [false] b_is_deed)) := by
    refine fn_okD (N := ["thing", "word"]) (d := dm_is_deed) (k := 0) (ks := [false]) (body := b_is_deed) F sc rfl (by decide) fun cdv A outer s H E hr => ?_
    have o : Ok (cxOf (L2.CX P w) P w K mg base ["thing", "word"] dm_is_deed.qual (defScope dm_is_deed.st) (dm_is_deed.adr K) cdv A outer s H E) (gx K cl) (fun cls d _ H => E cls d H) := ok_of hr rfl
    have hpa : PassesOwn (model P w) _ _ _ := passes_of (X := cxOf (L2.CX P w) P w K mg base ["thing", "word"] dm_is_deed.qual (defScope dm_is_deed.st) (dm_is_deed.adr K) cdv A outer s H E) rfl
    exact (b_cons (s_if (n_w (w_or (n_not (n_truth o (m_isi o S.kc rfl (S.fr_isinstance) (j_cons (m_var 0) (j_cons (m_ty rfl (S.fr_tuple) rfl) j_nil))))) (w_or (n_eq o (m_len o rfl (S.fr_len) (j_cons (m_var 0) j_nil)) m_int) (w_or1 (n_not (n_truth o (m_all o rfl (S.fr_all) (j_cons (m_frz (o_lc o (own := [("word", 1)]) sc.nd (i_seq o (m_var 0)) (show BlkOk ["thing", "word"] (defScope dm_is_deed.st) _ _ from ⟨rfl, by decide +kernel, by decide +kernel, by decide +kernel, by decide +kernel⟩) (fun s H C cl fp => (g_name 1 sc.nd)) (fun s H C cl fp => ts_nil) (fun s H C cl fp => (m_isi (Ok.blk o) S.kc rfl (S.fr_isinstance) (j_cons (m_var 1) (j_cons (m_ty rfl (S.fr_str) rfl) j_nil))))) (iLc_fz _ _ _ _ _)) j_nil)))))))) (b_one (s_ret m_bl)) b_nil)
      (b_one (s_ret (m_eq o (m_var 0) (m_tuple o rfl (S.fr_tuple) (j_cons (m_frz (o_lc o (own := [("word", 1)]) sc.nd (i_seq o (m_gv S.gv_WORDS)) (show BlkOk ["thing", "word"] (defScope dm_is_deed.st) _ _ from ⟨rfl, by decide +kernel, by decide +kernel, by decide +kernel, by decide +kernel⟩) (fun s H C cl fp => (g_name 1 sc.nd)) (fun s H C cl fp => (ts_one (n_in (Ok.blk o) (m_var 1) (m_var 0)))) (fun s H C cl fp => (m_var 1))) (iLc_fz _ _ _ _ _)) j_nil))))))
  exact ⟨_, fd, ["thing"], Y.glo 7, F.kp, bi, hF⟩
theorem sc_is_pair : FnScope ["thing"] ["thing"] (defScope (top 13)) := ⟨rfl, rfl, rfl, by decide +kernel, rfl, by decide +kernel, by decide +kernel⟩
theorem k_is_pair (Y : Sy faL fnL exL K mg) (S : Sx P w K mg base cl) : FnM P w K mg base (gx K cl) 1 "is_pair" [false] fn_is_pair := by
  obtain ⟨fd, F⟩ := Y.def_ 9 (d := dm_is_pair) rfl
  have sc := sc_is_pair
  have bi : Binds K fd ["thing"] [] := FunD.bindsN F (fun _ _ _ _ _ _ us hl => match us, hl with | [_], _ => rfl)
  have hF : FnOk P w K mg base (L2.CX P w) 1 (dm_is_pair.adr K) fd ["thing"] (spOf (gx K cl) [false] (fnOf 1 [false] b_is_pair)) := by
    refine fn_okD (N := ["thing"]) (d := dm_is_pair) (k := 0) (ks := [false]) (body := b_is_pair) F sc rfl (by decide) fun cdv A outer s H E hr => ?_
    have o : Ok (cxOf (L2.CX P w) P w K mg base ["thing"] dm_is_pair.qual (defScope dm_is_pair.st) (dm_is_pair.adr K) cdv A outer s H E) (gx K cl) (fun cls d _ H => E cls d H) := ok_of hr rfl
    have hpa : PassesOwn (model P w) _ _ _ := passes_of (X := cxOf (L2.CX P w) P w K mg base ["thing"] dm_is_pair.qual (defScope dm_is_pair.st) (dm_is_pair.adr K) cdv A outer s H E) rfl
    exact (b_one (s_ret (m_and o (m_isi o S.kc rfl (S.fr_isinstance) (j_cons (m_var 0) (j_cons (m_ty rfl (S.fr_tuple) rfl) j_nil))) (m_one (m_eq o (m_len o rfl (S.fr_len) (j_cons (m_var 0) j_nil)) m_int)))))
  exact ⟨_, fd, ["thing"], Y.glo 8, F.kp, bi, hF⟩
theorem sc_is_number : FnScope ["thing"] ["thing"] (defScope (top 11)) := ⟨rfl, rfl, rfl, by decide +kernel, rfl, by decide +kernel, by decide +kernel⟩
theorem k_is_number (Y : Sy faL fnL exL K mg) (S : Sx P w K mg base cl) : FnM P w K mg base (gx K cl) 1 "is_number" [false] fn_is_number := by
  obtain ⟨fd, F⟩ := Y.def_ 10 (d := dm_is_number) rfl
  have sc := sc_is_number
  have bi : Binds K fd ["thing"] [] := FunD.bindsN F (fun _ _ _ _ _ _ us hl => match us, hl with | [_], _ => rfl)
  have hF : FnOk P w K mg base (L2.CX P w) 1 (dm_is_number.adr K) fd ["thing"] (spOf (gx K cl) [false] (fnOf 1 [false] b_is_number)) := by
    refine fn_okD (N := ["thing"]) (d := dm_is_number) (k := 0) (ks := [false]) (body := b_is_number) F sc rfl (by decide) fun cdv A outer s H E hr => ?_
    have o : Ok (cxOf (L2.CX P w) P w K mg base ["thing"] dm_is_number.qual (defScope dm_is_number.st) (dm_is_number.adr K) cdv A outer s H E) (gx K cl) (fun cls d _ H => E cls d H) := ok_of hr rfl
    have hpa : PassesOwn (model P w) _ _ _ := passes_of (X := cxOf (L2.CX P w) P w K mg base ["thing"] dm_is_number.qual (defScope dm_is_number.st) (dm_is_number.adr K) cdv A outer s H E) rfl
    exact (b_one (s_ret (m_and o (m_isi o S.kc rfl (S.fr_isinstance) (j_cons (m_var 0) (j_cons (m_ty rfl (S.fr_int) rfl) j_nil))) (m_one (m_not o (m_isi o S.kc rfl (S.fr_isinstance) (j_cons (m_var 0) (j_cons (m_ty rfl (S.fr_bool) rfl) j_nil))))))))
  exact ⟨_, fd, ["thing"], Y.glo 9, F.kp, bi, hF⟩
theorem sc_is_share : FnScope ["thing", "part"] ["thing"] (defScope (top 15)) := ⟨rfl, rfl, rfl, by decide +kernel, rfl, by decide +kernel, by decide +kernel⟩
theorem k_is_share (Y : Sy faL fnL exL K mg) (S : Sx P w K mg base cl) : FnM P w K mg base (gx K cl) 2 "is_share" [false] fn_is_share := by
  obtain ⟨fd, F⟩ := Y.def_ 11 (d := dm_is_share) rfl
  have sc := sc_is_share
  have F_is_number := k_is_number (P := P) (w := w) (base := base) Y S
  have F_is_pair := k_is_pair (P := P) (w := w) (base := base) Y S
  have bi : Binds K fd ["thing"] [] := FunD.bindsN F (fun _ _ _ _ _ _ us hl => match us, hl with | [_], _ => rfl)
  have hF : FnOk P w K mg base (L2.CX P w) 2 (dm_is_share.adr K) fd ["thing"] (spOf (gx K cl) [false] (fnOf 2 [false] b_is_share)) := by
    refine fn_okD (N := ["thing", "part"]) (d := dm_is_share) (k := 1) (ks := [false]) (body := b_is_share) F sc rfl (by decide) fun cdv A outer s H E hr => ?_
    have o : Ok (cxOf (L2.CX P w) P w K mg base ["thing", "part"] dm_is_share.qual (defScope dm_is_share.st) (dm_is_share.adr K) cdv A outer s H E) (gx K cl) (fun cls d _ H => E cls d H) := ok_of hr rfl
    have hpa : PassesOwn (model P w) _ _ _ := passes_of (X := cxOf (L2.CX P w) P w K mg base ["thing", "part"] dm_is_share.qual (defScope dm_is_share.st) (dm_is_share.adr K) cdv A outer s H E) rfl
    exact (b_one (s_ret (m_and o (m_callM o F_is_pair (hr.mono (by decide)) (j_cons (m_var 0) j_nil)) (m_and o (m_all o rfl (S.fr_all) (j_cons (m_frz (o_lc o (own := [("part", 1)]) sc.nd (i_seq o (m_var 0)) (show BlkOk ["thing", "part"] (defScope dm_is_share.st) _ _ from ⟨rfl, by decide +kernel, by decide +kernel, by decide +kernel, by decide +kernel⟩) (fun s H C cl fp => (g_name 1 sc.nd)) (fun s H C cl fp => ts_nil) (fun s H C cl fp => (m_callM (Ok.blk o) F_is_number (hr.mono (by decide)) (j_cons (m_var 1) j_nil)))) (iLc_fz _ _ _ _ _)) j_nil)) (m_one (m_in o (m_var 0) (m_gv S.gv_SHARES)))))))
  exact ⟨_, fd, ["thing"], Y.glo 10, F.kp, bi, hF⟩
theorem sc_is_value : FnScope ["thing"] ["thing"] (defScope (top 14)) := ⟨rfl, rfl, rfl, by decide +kernel, rfl, by decide +kernel, by decide +kernel⟩
theorem k_is_value (Y : Sy faL fnL exL K mg) (S : Sx P w K mg base cl) : FnM P w K mg base (gx K cl) 2 "is_value" [false] fn_is_value := by
  obtain ⟨fd, F⟩ := Y.def_ 12 (d := dm_is_value) rfl
  have sc := sc_is_value
  have F_is_number := k_is_number (P := P) (w := w) (base := base) Y S
  have bi : Binds K fd ["thing"] [] := FunD.bindsN F (fun _ _ _ _ _ _ us hl => match us, hl with | [_], _ => rfl)
  have hF : FnOk P w K mg base (L2.CX P w) 2 (dm_is_value.adr K) fd ["thing"] (spOf (gx K cl) [false] (fnOf 1 [false] b_is_value)) := by
    refine fn_okD (N := ["thing"]) (d := dm_is_value) (k := 1) (ks := [false]) (body := b_is_value) F sc rfl (by decide) fun cdv A outer s H E hr => ?_
    have o : Ok (cxOf (L2.CX P w) P w K mg base ["thing"] dm_is_value.qual (defScope dm_is_value.st) (dm_is_value.adr K) cdv A outer s H E) (gx K cl) (fun cls d _ H => E cls d H) := ok_of hr rfl
    have hpa : PassesOwn (model P w) _ _ _ := passes_of (X := cxOf (L2.CX P w) P w K mg base ["thing"] dm_is_value.qual (defScope dm_is_value.st) (dm_is_value.adr K) cdv A outer s H E) rfl
    exact (b_one (s_ret (m_and o (m_callM o F_is_number (hr.mono (by decide)) (j_cons (m_var 0) j_nil)) (m_one (m_in o (m_var 0) (m_tup (a_cons m_int (a_cons m_int a_nil))))))))
  exact ⟨_, fd, ["thing"], Y.glo 11, F.kp, bi, hF⟩
theorem sc_is_test : FnScope ["thing"] ["thing"] (defScope (top 16)) := ⟨rfl, rfl, rfl, by decide +kernel, rfl, by decide +kernel, by decide +kernel⟩
theorem k_is_test (Y : Sy faL fnL exL K mg) (S : Sx P w K mg base cl) : FnM P w K mg base (gx K cl) 3 "is_test" [false] fn_is_test := by
  obtain ⟨fd, F⟩ := Y.def_ 13 (d := dm_is_test) rfl
  have sc := sc_is_test
  have F_is_share := k_is_share (P := P) (w := w) (base := base) Y S
  have F_is_value := k_is_value (P := P) (w := w) (base := base) Y S
  have bi : Binds K fd ["thing"] [] := FunD.bindsN F (fun _ _ _ _ _ _ us hl => match us, hl with | [_], _ => rfl)
  have hF : FnOk P w K mg base (L2.CX P w) 3 (dm_is_test.adr K) fd ["thing"] (spOf (gx K cl) [false] (fnOf 1 [false] b_is_test)) := by
    refine fn_okD (N := ["thing"]) (d := dm_is_test) (k := 2) (ks := [false]) (body := b_is_test) F sc rfl (by decide) fun cdv A outer s H E hr => ?_
    have o : Ok (cxOf (L2.CX P w) P w K mg base ["thing"] dm_is_test.qual (defScope dm_is_test.st) (dm_is_test.adr K) cdv A outer s H E) (gx K cl) (fun cls d _ H => E cls d H) := ok_of hr rfl
    have hpa : PassesOwn (model P w) _ _ _ := passes_of (X := cxOf (L2.CX P w) P w K mg base ["thing"] dm_is_test.qual (defScope dm_is_test.st) (dm_is_test.adr K) cdv A outer s H E) rfl
    exact (b_cons (s_if (n_w (w_or (n_not (n_truth o (m_isi o S.kc rfl (S.fr_isinstance) (j_cons (m_var 0) (j_cons (m_ty rfl (S.fr_tuple) rfl) j_nil))))) (w_or (n_eq o (m_len o rfl (S.fr_len) (j_cons (m_var 0) j_nil)) m_int) (w_or1 (n_not (n_truth o (m_isi o S.kc rfl (S.fr_isinstance) (j_cons (m_it o (m_var 0) m_int) (j_cons (m_ty rfl (S.fr_str) rfl) j_nil))))))))) (b_one (s_ret m_bl)) b_nil)
      (b_cons (s_if (n_in o (m_it o (m_var 0) m_int) (m_tup (a_cons m_str (a_cons m_str a_nil)))) (b_one (s_ret (m_and o (m_eq o (m_len o rfl (S.fr_len) (j_cons (m_var 0) j_nil)) m_int) (m_one (m_if (n_eq o (m_it o (m_var 0) m_int) m_str) (m_callM o F_is_share (hr.mono (by decide)) (j_cons (m_it o (m_var 0) m_int) j_nil)) (m_callM o F_is_value (hr.mono (by decide)) (j_cons (m_it o (m_var 0) m_int) j_nil))))))) b_nil)
      (b_one (s_ret (m_and o (m_eq o (m_len o rfl (S.fr_len) (j_cons (m_var 0) j_nil)) m_int) (m_one (m_in o (m_it o (m_var 0) m_int) (m_tup (a_cons m_str (a_cons m_str (a_cons m_str a_nil)))))))))))
  exact ⟨_, fd, ["thing"], Y.glo 12, F.kp, bi, hF⟩
theorem sc_is_rule : FnScope ["thing"] ["thing"] (defScope (top 18)) := ⟨rfl, rfl, rfl, by decide +kernel, rfl, by decide +kernel, by decide +kernel⟩
theorem k_is_rule (Y : Sy faL fnL exL K mg) (S : Sx P w K mg base cl) : FnM P w K mg base (gx K cl) 4 "is_rule" [false] fn_is_rule := by
  obtain ⟨fd, F⟩ := Y.def_ 14 (d := dm_is_rule) rfl
  have sc := sc_is_rule
  have F_is_deed := k_is_deed (P := P) (w := w) (base := base) Y S
  have F_is_pair := k_is_pair (P := P) (w := w) (base := base) Y S
  have F_is_test := k_is_test (P := P) (w := w) (base := base) Y S
  have bi : Binds K fd ["thing"] [] := FunD.bindsN F (fun _ _ _ _ _ _ us hl => match us, hl with | [_], _ => rfl)
  have hF : FnOk P w K mg base (L2.CX P w) 4 (dm_is_rule.adr K) fd ["thing"] (spOf (gx K cl) [false] (fnOf 1 [false] b_is_rule)) := by
    refine fn_okD (N := ["thing"]) (d := dm_is_rule) (k := 3) (ks := [false]) (body := b_is_rule) F sc rfl (by decide) fun cdv A outer s H E hr => ?_
    have o : Ok (cxOf (L2.CX P w) P w K mg base ["thing"] dm_is_rule.qual (defScope dm_is_rule.st) (dm_is_rule.adr K) cdv A outer s H E) (gx K cl) (fun cls d _ H => E cls d H) := ok_of hr rfl
    have hpa : PassesOwn (model P w) _ _ _ := passes_of (X := cxOf (L2.CX P w) P w K mg base ["thing"] dm_is_rule.qual (defScope dm_is_rule.st) (dm_is_rule.adr K) cdv A outer s H E) rfl
    exact (b_one (s_ret (m_and o (m_callM o F_is_pair (hr.mono (by decide)) (j_cons (m_var 0) j_nil)) (m_and o (m_callM o F_is_test (hr.mono (by decide)) (j_cons (m_it o (m_var 0) m_int) j_nil)) (m_one (m_callM o F_is_deed (hr.mono (by decide)) (j_cons (m_it o (m_var 0) m_int) j_nil)))))))
  exact ⟨_, fd, ["thing"], Y.glo 13, F.kp, bi, hF⟩
theorem sc_Round : FnScope ["self", "asks", "rules", "sure", "rule"] ["self", "asks", "rules", "sure"] (defScope (mth 19 0)) := ⟨rfl, rfl, rfl, by decide +kernel, rfl, by decide +kernel, by decide +kernel⟩
theorem k_Round (Y : Sy faL fnL exL K mg) (S : Sx P w K mg base cl) : ∃ f fd, MkM P w K mg base (gx K cl) 5 "Round" "Round" 3 fn_Round f fd ["self", "asks", "rules", "sure"] ∧ KBn K fd ["self", "asks", "rules", "sure"] 3 ["sure"] (fun us ws => us ++ ws) (fun vs zs => vs ++ zs) ∧ DfB K fd ["self", "asks", "rules", "sure"] [.bl false] := by
  obtain ⟨fd, F⟩ := Y.def_ 15 (d := dm_Round) rfl
  have sc := sc_Round
  have F_is_list := k_is_list (P := P) (w := w) (base := base) Y S
  have F_is_rule := k_is_rule (P := P) (w := w) (base := base) Y S
  have F_is_share := k_is_share (P := P) (w := w) (base := base) Y S
  have bi : KBn K fd ["self", "asks", "rules", "sure"] 3 ["sure"] (fun us ws => us ++ ws) (fun vs zs => vs ++ zs) := by
    obtain ⟨mv, h⟩ := FunD.kbinds0 F 3 ["sure"] [] (ps := ["self", "asks", "rules", "sure"]) (fun us mz ws => us ++ ws) (fun z => by cases z) (fun q hq => by cases hq) (fun r1 _ r2 => r1.append r2) (fun D doc pm an cdv ct us mv ws h1 h2 h3 => match us, mv, ws, h1, h2, h3 with | [_, _, _], [], [_], _, _, _ => rfl)
    exact h
  have df : DfB K fd ["self", "asks", "rules", "sure"] [.bl false] := by
    obtain ⟨ds, h1, h2⟩ := FunD.binds0 (ps := ["self", "asks", "rules", "sure"]) F 3 (fun z => by cases z) rfl (fun D doc pm an cdv ct us ks h1 h2 => match us, ks, h1, h2 with | [_, _, _], [_], _, _ => ⟨_, _, _, _, _, _, rfl, rfl, rfl⟩)
    exact ⟨ds, h2, h1⟩
  have hF : FnOk P w K mg base (L2.CX P w) 5 (dm_Round.adr K) fd ["self", "asks", "rules", "sure"] (spOf (gx K cl) [true, false, false, false] (fnOf 5 [true, false, false, false] b_Round)) := by
    refine fn_okD (N := ["self", "asks", "rules", "sure", "rule"]) (d := dm_Round) (k := 4) (ks := [true, false, false, false]) (body := b_Round) F sc rfl (by decide) fun cdv A outer s H E hr => ?_
    have o : Ok (cxOf (L2.CX P w) P w K mg base ["self", "asks", "rules", "sure", "rule"] dm_Round.qual (defScope dm_Round.st) (dm_Round.adr K) cdv A outer s H E) (gx K cl) (fun cls d _ H => E cls d H) := ok_of hr rfl
    have hpa : PassesOwn (model P w) _ _ _ := passes_of (X := cxOf (L2.CX P w) P w K mg base ["self", "asks", "rules", "sure", "rule"] dm_Round.qual (defScope dm_Round.st) (dm_Round.adr K) cdv A outer s H E) rfl
    exact (b_cons (s_if (n_not (n_truth o (m_callM o F_is_share (hr.mono (by decide)) (j_cons (m_var 1) j_nil)))) (b_one (s_raiseE o S.er S.su_BadRound (hr.mono (by decide)) (S.fr_super) S.gc_BadRound m_str)) b_nil)
      (b_cons (s_if (n_w (w_or (n_not (n_truth o (m_callM o F_is_list (hr.mono (by decide)) (j_cons (m_var 2) j_nil)))) (w_or (n_not (n_chain op_le op_le (of_I fun _ _ _ _ => .bl _) (of_I fun _ _ _ _ => .bl _) m_int (m_len o rfl (S.fr_len) (j_cons (m_var 2) j_nil)) (m_gv S.gv_MOST_RULES))) (w_or1 (n_not (n_truth o (m_all o rfl (S.fr_all) (j_cons (m_frz (o_lc o (own := [("rule", 4)]) sc.nd (i_seq o (m_var 2)) (show BlkOk ["self", "asks", "rules", "sure", "rule"] (defScope dm_Round.st) _ _ from ⟨rfl, by decide +kernel, by decide +kernel, by decide +kernel, by decide +kernel⟩) (fun s H C cl fp => (g_name 4 sc.nd)) (fun s H C cl fp => ts_nil) (fun s H C cl fp => (m_callM (Ok.blk o) F_is_rule (hr.mono (by decide)) (j_cons (m_var 4) j_nil)))) (iLc_fz _ _ _ _ _)) j_nil)))))))) (b_one (s_raiseE o S.er S.su_BadRound (hr.mono (by decide)) (S.fr_super) S.gc_BadRound m_str)) b_nil)
      (b_cons (s_if (n_not (n_truth o (m_isi o S.kc rfl (S.fr_isinstance) (j_cons (m_var 3) (j_cons (m_ty rfl (S.fr_bool) rfl) j_nil))))) (b_one (s_raiseE o S.er S.su_BadRound (hr.mono (by decide)) (S.fr_super) S.gc_BadRound m_str)) b_nil)
      (b_cons (s_fld o S.kc 0 S.na_own_asks (m_var 1))
      (b_cons (s_fld o S.kc 0 S.na_own_rules (m_tuple o rfl (S.fr_tuple) (j_cons (m_var 2) j_nil)))
      (b_one (s_fld o S.kc 0 S.na_own_sure (m_var 3))))))))
  exact ⟨_, fd, ⟨Y.glo 30, He.mkr_ok (Y.fact 52 (f := .mkr "Round")), hF, rfl⟩, bi, df⟩
theorem sc__law_good : FnScope ["_law_rows", "_law_page", "_law_found", "_law_first", "_law_last"] [] (defScope (top 43)) := ⟨rfl, rfl, rfl, by decide +kernel, rfl, by decide +kernel, by decide +kernel⟩
theorem k__law_good (Y : Sy faL fnL exL K mg) (S : Sx P w K mg base cl) : FnM P w K mg base (gx K cl) 7 "_law_good" [] fn__law_good := by
  obtain ⟨fd, F⟩ := Y.def_ 16 (d := dm__law_good) rfl
  have sc := sc__law_good
  obtain ⟨f_Program, fd_Program, M_Program, B_Program⟩ := k_Program (P := P) (w := w) (base := base) Y S
  obtain ⟨f_Round, fd_Round, M_Round, B_Round, D_Round⟩ := k_Round (P := P) (w := w) (base := base) Y S
  have bi : Binds K fd [] [] := FunD.bindsN F (fun _ _ _ _ _ _ us hl => match us, hl with | [], _ => rfl)
  have hF : FnOk P w K mg base (L2.CX P w) 7 (dm__law_good.adr K) fd [] (spOf (gx K cl) [] (fnOf 5 [] b__law_good)) := by
    refine fn_okD (N := ["_law_rows", "_law_page", "_law_found", "_law_first", "_law_last"]) (d := dm__law_good) (k := 6) (ks := []) (body := b__law_good) F sc rfl (by decide) fun cdv A outer s H E hr => ?_
    have o : Ok (cxOf (L2.CX P w) P w K mg base ["_law_rows", "_law_page", "_law_found", "_law_first", "_law_last"] dm__law_good.qual (defScope dm__law_good.st) (dm__law_good.adr K) cdv A outer s H E) (gx K cl) (fun cls d _ H => E cls d H) := ok_of hr rfl
    have hpa : PassesOwn (model P w) _ _ _ := passes_of (X := cxOf (L2.CX P w) P w K mg base ["_law_rows", "_law_page", "_law_found", "_law_first", "_law_last"] dm__law_good.qual (defScope dm__law_good.st) (dm__law_good.adr K) cdv A outer s H E) rfl
    exact (b_cons (s_set 0 sc.nd (m_lst (a_cons (m_tup (a_cons (m_tup (a_cons m_str (a_cons (m_tup (a_cons m_int (a_cons m_int a_nil))) a_nil))) (a_cons (m_tup (a_cons m_str (a_cons m_str a_nil))) a_nil))) (a_cons (m_tup (a_cons (m_tup (a_cons m_str a_nil)) (a_cons (m_tup (a_cons m_str a_nil)) a_nil))) (a_cons (m_tup (a_cons (m_tup (a_cons m_str (a_cons m_int a_nil))) (a_cons (m_tup (a_cons m_str a_nil)) a_nil))) a_nil)))))
      (b_cons (s_set 1 sc.nd m_str)
      (b_cons (s_setO 2 sc.nd (o_lst (a_cons (m_tup (a_cons (m_var 1) (a_cons (m_makeM o M_Program B_Program (hr.mono (by decide)) (a_cons (m_lst (a_cons (m_makeMD o M_Round D_Round (fun _ _ => (.cons (.bl false) .nil)) (hr.mono (by decide)) (a_cons (m_tup (a_cons m_int (a_cons m_int a_nil))) (a_cons (m_var 0) a_nil)) (l_cons (l_cons l_nil))) a_nil)) a_nil) (l_cons l_nil)) a_nil))) a_nil)))
      (b_cons (s_par2 o 3 4 sc.nd (k_f (m_makeKM o (n := 2) (m := 1) M_Round (hr.mono (by decide)) B_Round (a_cons (m_tup (a_cons m_int (a_cons m_int a_nil))) (a_cons (m_lst (a_cons (m_tup (a_cons (m_tup (a_cons m_str (a_cons (m_tup (a_cons m_int (a_cons m_int a_nil))) a_nil))) (a_cons (m_tup (a_cons m_str a_nil)) a_nil))) a_nil)) a_nil)) (l_cons (l_cons l_nil)) (k_cons m_bl k_nil) (l_cons l_nil))) (k_f (m_makeMD o M_Round D_Round (fun _ _ => (.cons (.bl false) .nil)) (hr.mono (by decide)) (a_cons (m_tup (a_cons m_int (a_cons m_int a_nil))) (a_cons (m_lst (a_cons (m_tup (a_cons (m_tup (a_cons m_str a_nil)) (a_cons (m_tup (a_cons m_str a_nil)) a_nil))) a_nil)) a_nil)) (l_cons (l_cons l_nil)))))
      (b_cons (s_app o 2 (m_tup (a_cons m_str (a_cons (m_makeM o M_Program B_Program (hr.mono (by decide)) (a_cons (m_lst (a_cons (m_var 3) (a_cons (m_var 4) a_nil))) a_nil) (l_cons l_nil)) a_nil))))
      (b_cons (s_set 4 sc.nd (m_makeKM o (n := 2) (m := 1) M_Round (hr.mono (by decide)) B_Round (a_cons (m_tup (a_cons m_int (a_cons m_int a_nil))) (a_cons (m_lst (a_cons (m_tup (a_cons (m_tup (a_cons m_str a_nil)) (a_cons (m_tup (a_cons m_str a_nil)) a_nil))) (a_cons (m_tup (a_cons (m_tup (a_cons m_str (a_cons m_int a_nil))) (a_cons (m_tup (a_cons m_str (a_cons m_str a_nil))) a_nil))) a_nil))) a_nil)) (l_cons (l_cons l_nil)) (k_cons m_bl k_nil) (l_cons l_nil)))
      (b_cons (s_app o 2 (m_tup (a_cons m_str (a_cons (m_makeM o M_Program B_Program (hr.mono (by decide)) (a_cons (m_lst (a_cons (m_var 4) a_nil)) a_nil) (l_cons l_nil)) a_nil))))
      (b_one (s_ret (m_mv 2))))))))))
  exact ⟨_, fd, [], Y.glo 14, F.kp, bi, hF⟩
theorem sc__law_mixed : FnScope ["_law_draw", "_law_turn", "_law_found", "_law_prime", "_law_blend", "_law_grain"] ["_law_draw"] (defScope (top 39)) := ⟨rfl, rfl, rfl, by decide +kernel, rfl, by decide +kernel, by decide +kernel⟩
theorem k__law_mixed (Y : Sy faL fnL exL K mg) (S : Sx P w K mg base cl) : FnM P w K mg base (gx K cl) 1 "_law_mixed" [true] fn__law_mixed := by
  obtain ⟨fd, F⟩ := Y.def_ 17 (d := dm__law_mixed) rfl
  have sc := sc__law_mixed
  have bi : Binds K fd ["_law_draw"] [] := FunD.bindsN F (fun _ _ _ _ _ _ us hl => match us, hl with | [_], _ => rfl)
  have hF : FnOk P w K mg base (L2.CX P w) 1 (dm__law_mixed.adr K) fd ["_law_draw"] (spOf (gx K cl) [true] (fnOf 6 [true] mixB)) := by
    refine fn_okD (N := ["_law_draw", "_law_turn", "_law_found", "_law_prime", "_law_blend", "_law_grain"]) (d := dm__law_mixed) (k := 0) (ks := [true]) (body := mixB) F sc rfl (by decide) fun cdv A outer s H E hr => ?_
    have o : Ok (cxOf (L2.CX P w) P w K mg base ["_law_draw", "_law_turn", "_law_found", "_law_prime", "_law_blend", "_law_grain"] dm__law_mixed.qual (defScope dm__law_mixed.st) (dm__law_mixed.adr K) cdv A outer s H E) (gx K cl) (fun cls d _ H => E cls d H) := ok_of hr rfl
    have hpa : PassesOwn (model P w) _ _ _ := passes_of (X := cxOf (L2.CX P w) P w K mg base ["_law_draw", "_law_turn", "_law_found", "_law_prime", "_law_blend", "_law_grain"] dm__law_mixed.qual (defScope dm__law_mixed.st) (dm__law_mixed.adr K) cdv A outer s H E) rfl
    exact (b_cons (s_drTurn o 0 (m_plus o (m_drTurn o 0) m_int))
      (b_cons (s_par2 o 1 2 sc.nd (k_f (m_intC rfl (S.fr_int) (j_cons (m_drTurn o 0) j_nil))) (k_f m_int))
      (b_cons (s_for o hpa (i_seq o (m_lst (a_cons m_int (a_cons m_int (a_cons m_int a_nil))))) (g_name 3 sc.nd) (b_cons (s_set 4 sc.nd (m_mod (m_plus o (m_mul (m_var 1) m_int) (m_div (m_var 3) m_int)) (m_var 3)))
      (b_cons (s_for o hpa (i_seq o (m_drCells o 0)) (g_name 5 sc.nd) (b_one (s_set 4 sc.nd (m_mod (m_plus o (m_mul (m_var 4) m_int) (m_intC rfl (S.fr_int) (j_cons (m_var 5) j_nil))) (m_var 3)))))
      (b_one (s_set 2 sc.nd (m_plus o (m_mul (m_var 2) m_int) (m_mod (m_pow (m_var 4) m_int) (m_var 3))))))))
      (b_one (s_ret (m_var 2))))))
  exact FnM.imp ⟨_, fd, ["_law_draw"], Y.glo 15, F.kp, bi, hF⟩ mixB_ok
theorem sc__law_take : FnScope ["_law_draw", "_law_amount", "_law_found"] ["_law_draw", "_law_amount"] (defScope (top 40)) := ⟨rfl, rfl, rfl, by decide +kernel, rfl, by decide +kernel, by decide +kernel⟩
theorem k__law_take (Y : Sy faL fnL exL K mg) (S : Sx P w K mg base cl) : FnM P w K mg base (gx K cl) 2 "_law_take" [true, false] fn__law_take := by
  obtain ⟨fd, F⟩ := Y.def_ 18 (d := dm__law_take) rfl
  have sc := sc__law_take
  have F__law_mixed := k__law_mixed (P := P) (w := w) (base := base) Y S
  have bi : Binds K fd ["_law_draw", "_law_amount"] [] := FunD.bindsN F (fun _ _ _ _ _ _ us hl => match us, hl with | [_, _], _ => rfl)
  have hF : FnOk P w K mg base (L2.CX P w) 2 (dm__law_take.adr K) fd ["_law_draw", "_law_amount"] (spOf (gx K cl) [true, false] (fnOf 3 [true, false] takeB)) := by
    refine fn_okD (N := ["_law_draw", "_law_amount", "_law_found"]) (d := dm__law_take) (k := 1) (ks := [true, false]) (body := takeB) F sc rfl (by decide) fun cdv A outer s H E hr => ?_
    have o : Ok (cxOf (L2.CX P w) P w K mg base ["_law_draw", "_law_amount", "_law_found"] dm__law_take.qual (defScope dm__law_take.st) (dm__law_take.adr K) cdv A outer s H E) (gx K cl) (fun cls d _ H => E cls d H) := ok_of hr rfl
    have hpa : PassesOwn (model P w) _ _ _ := passes_of (X := cxOf (L2.CX P w) P w K mg base ["_law_draw", "_law_amount", "_law_found"] dm__law_take.qual (defScope dm__law_take.st) (dm__law_take.adr K) cdv A outer s H E) rfl
    exact (b_cons (s_if (n_eq o (m_drRest o 0) m_int) (b_one (s_drRest o 0 (m_if (n_drLg o 0) (m_drPop o 0) (m_callM o F__law_mixed (hr.mono (by decide)) (j_slot 0 j_nil))))) b_nil)
      (b_cons (s_set 2 sc.nd (m_mod (m_intC rfl (S.fr_int) (j_cons (m_drRest o 0) j_nil)) (m_var 1)))
      (b_cons (s_drRest o 0 (m_div (m_intC rfl (S.fr_int) (j_cons (m_drRest o 0) j_nil)) (m_var 1)))
      (b_one (s_ret (m_var 2))))))
  exact FnM.imp ⟨_, fd, ["_law_draw", "_law_amount"], Y.glo 16, F.kp, bi, hF⟩ takeB_ok
theorem sc__law_pick : FnScope ["_law_draw", "_law_some"] ["_law_draw", "_law_some"] (defScope (top 41)) := ⟨rfl, rfl, rfl, by decide +kernel, rfl, by decide +kernel, by decide +kernel⟩
theorem k__law_pick (Y : Sy faL fnL exL K mg) (S : Sx P w K mg base cl) : FnM P w K mg base (gx K cl) 3 "_law_pick" [true, false] fn__law_pick := by
  obtain ⟨fd, F⟩ := Y.def_ 19 (d := dm__law_pick) rfl
  have sc := sc__law_pick
  have F__law_take := k__law_take (P := P) (w := w) (base := base) Y S
  have bi : Binds K fd ["_law_draw", "_law_some"] [] := FunD.bindsN F (fun _ _ _ _ _ _ us hl => match us, hl with | [_, _], _ => rfl)
  have hF : FnOk P w K mg base (L2.CX P w) 3 (dm__law_pick.adr K) fd ["_law_draw", "_law_some"] (spOf (gx K cl) [true, false] (fnOf 2 [true, false] b__law_pick)) := by
    refine fn_okD (N := ["_law_draw", "_law_some"]) (d := dm__law_pick) (k := 2) (ks := [true, false]) (body := b__law_pick) F sc rfl (by decide) fun cdv A outer s H E hr => ?_
    have o : Ok (cxOf (L2.CX P w) P w K mg base ["_law_draw", "_law_some"] dm__law_pick.qual (defScope dm__law_pick.st) (dm__law_pick.adr K) cdv A outer s H E) (gx K cl) (fun cls d _ H => E cls d H) := ok_of hr rfl
    have hpa : PassesOwn (model P w) _ _ _ := passes_of (X := cxOf (L2.CX P w) P w K mg base ["_law_draw", "_law_some"] dm__law_pick.qual (defScope dm__law_pick.st) (dm__law_pick.adr K) cdv A outer s H E) rfl
    exact (b_one (s_ret (m_it o (m_var 1) (m_callM o F__law_take (hr.mono (by decide)) (j_slot 0 (j_cons (m_len o rfl (S.fr_len) (j_cons (m_var 1) j_nil)) j_nil))))))
  exact ⟨_, fd, ["_law_draw", "_law_some"], Y.glo 17, F.kp, bi, hF⟩
theorem sc_need_program : FnScope ["program"] ["program"] (defScope (top 23)) := ⟨rfl, rfl, rfl, by decide +kernel, rfl, by decide +kernel, by decide +kernel⟩
theorem k_need_program (Y : Sy faL fnL exL K mg) (S : Sx P w K mg base cl) : FnM P w K mg base (gx K cl) 3 "need_program" [false] fn_need_program := by
  obtain ⟨fd, F⟩ := Y.def_ 20 (d := dm_need_program) rfl
  have sc := sc_need_program
  have bi : Binds K fd ["program"] [] := FunD.bindsN F (fun _ _ _ _ _ _ us hl => match us, hl with | [_], _ => rfl)
  have hF : FnOk P w K mg base (L2.CX P w) 3 (dm_need_program.adr K) fd ["program"] (spOf (gx K cl) [false] (fnOf 1 [false] b_need_program)) := by
    refine fn_okD (N := ["program"]) (d := dm_need_program) (k := 2) (ks := [false]) (body := b_need_program) F sc rfl (by decide) fun cdv A outer s H E hr => ?_
    have o : Ok (cxOf (L2.CX P w) P w K mg base ["program"] dm_need_program.qual (defScope dm_need_program.st) (dm_need_program.adr K) cdv A outer s H E) (gx K cl) (fun cls d _ H => E cls d H) := ok_of hr rfl
    have hpa : PassesOwn (model P w) _ _ _ := passes_of (X := cxOf (L2.CX P w) P w K mg base ["program"] dm_need_program.qual (defScope dm_need_program.st) (dm_need_program.adr K) cdv A outer s H E) rfl
    exact (b_one (s_if (n_not (n_truth o (m_isi o S.kc rfl (S.fr_isinstance) (j_cons (m_var 0) (j_cons (m_cls rfl S.gc_Program) j_nil))))) (b_one (s_raiseE o S.er S.su_BadProgram (hr.mono (by decide)) (S.fr_super) S.gc_BadProgram m_non)) b_nil))
  exact ⟨_, fd, ["program"], Y.glo 18, F.kp, bi, hF⟩
theorem sc_share_text : FnScope ["share"] ["share"] (defScope (top 26)) := ⟨rfl, rfl, rfl, by decide +kernel, rfl, by decide +kernel, by decide +kernel⟩
theorem k_share_text (Y : Sy faL fnL exL K mg) (S : Sx P w K mg base cl) : FnM P w K mg base (gx K cl) 1 "share_text" [false] fn_share_text := by
  obtain ⟨fd, F⟩ := Y.def_ 21 (d := dm_share_text) rfl
  have sc := sc_share_text
  have bi : Binds K fd ["share"] [] := FunD.bindsN F (fun _ _ _ _ _ _ us hl => match us, hl with | [_], _ => rfl)
  have hF : FnOk P w K mg base (L2.CX P w) 1 (dm_share_text.adr K) fd ["share"] (spOf (gx K cl) [false] (fnOf 1 [false] b_share_text)) := by
    refine fn_okD (N := ["share"]) (d := dm_share_text) (k := 0) (ks := [false]) (body := b_share_text) F sc rfl (by decide) fun cdv A outer s H E hr => ?_
    have o : Ok (cxOf (L2.CX P w) P w K mg base ["share"] dm_share_text.qual (defScope dm_share_text.st) (dm_share_text.adr K) cdv A outer s H E) (gx K cl) (fun cls d _ H => E cls d H) := ok_of hr rfl
    have hpa : PassesOwn (model P w) _ _ _ := passes_of (X := cxOf (L2.CX P w) P w K mg base ["share"] dm_share_text.qual (defScope dm_share_text.st) (dm_share_text.adr K) cdv A outer s H E) rfl
    exact (b_one (s_ret (m_if (n_eq o (m_var 0) (m_tup (a_cons m_int (a_cons m_int a_nil)))) m_str (m_joined (pj_cons (m_fmt (m_it o (m_var 0) m_int)) (pj_cons m_str (pj_cons (m_fmt (m_it o (m_var 0) m_int)) pj_nil)))))))
  exact ⟨_, fd, ["share"], Y.glo 19, F.kp, bi, hF⟩
theorem sc_round_text : FnScope ["part"] ["part"] (defScope (top 29)) := ⟨rfl, rfl, rfl, by decide +kernel, rfl, by decide +kernel, by decide +kernel⟩
theorem k_round_text (Y : Sy faL fnL exL K mg) (S : Sx P w K mg base cl) : FnM P w K mg base (gx K cl) 3 "round_text" [false] fn_round_text := by
  obtain ⟨fd, F⟩ := Y.def_ 22 (d := dm_round_text) rfl
  have sc := sc_round_text
  have F_share_text := k_share_text (P := P) (w := w) (base := base) Y S
  have bi : Binds K fd ["part"] [] := FunD.bindsN F (fun _ _ _ _ _ _ us hl => match us, hl with | [_], _ => rfl)
  have hF : FnOk P w K mg base (L2.CX P w) 3 (dm_round_text.adr K) fd ["part"] (spOf (gx K cl) [false] (fnOf 1 [false] b_round_text)) := by
    refine fn_okD (N := ["part"]) (d := dm_round_text) (k := 2) (ks := [false]) (body := b_round_text) F sc rfl (by decide) fun cdv A outer s H E hr => ?_
    have o : Ok (cxOf (L2.CX P w) P w K mg base ["part"] dm_round_text.qual (defScope dm_round_text.st) (dm_round_text.adr K) cdv A outer s H E) (gx K cl) (fun cls d _ H => E cls d H) := ok_of hr rfl
    have hpa : PassesOwn (model P w) _ _ _ := passes_of (X := cxOf (L2.CX P w) P w K mg base ["part"] dm_round_text.qual (defScope dm_round_text.st) (dm_round_text.adr K) cdv A outer s H E) rfl
    exact (b_one (s_ret (m_joined (pj_cons m_str (pj_cons (m_fmt (m_callM o F_share_text (hr.mono (by decide)) (j_cons (m_propM o "Round" S.pr_Round_asks (hr.mono (by decide)) (v_e (m_var 0))) j_nil))) (pj_cons m_str (pj_cons (m_fmt (m_bxG S.bv_SURE rfl (m_propM o "Round" S.pr_Round_sure (hr.mono (by decide)) (v_e (m_var 0))))) pj_nil)))))))
  exact ⟨_, fd, ["part"], Y.glo 20, F.kp, bi, hF⟩
theorem sc_rule_text : FnScope ["rule", "test", "deed", "words", "part"] ["rule"] (defScope (top 28)) := ⟨rfl, rfl, rfl, by decide +kernel, rfl, by decide +kernel, by decide +kernel⟩
theorem k_rule_text (Y : Sy faL fnL exL K mg) (S : Sx P w K mg base cl) : FnM P w K mg base (gx K cl) 2 "rule_text" [false] fn_rule_text := by
  obtain ⟨fd, F⟩ := Y.def_ 23 (d := dm_rule_text) rfl
  have sc := sc_rule_text
  have F_share_text := k_share_text (P := P) (w := w) (base := base) Y S
  have bi : Binds K fd ["rule"] [] := FunD.bindsN F (fun _ _ _ _ _ _ us hl => match us, hl with | [_], _ => rfl)
  have hF : FnOk P w K mg base (L2.CX P w) 2 (dm_rule_text.adr K) fd ["rule"] (spOf (gx K cl) [false] (fnOf 5 [false] b_rule_text)) := by
    refine fn_okD (N := ["rule", "test", "deed", "words", "part"]) (d := dm_rule_text) (k := 1) (ks := [false]) (body := b_rule_text) F sc rfl (by decide) fun cdv A outer s H E hr => ?_
    have o : Ok (cxOf (L2.CX P w) P w K mg base ["rule", "test", "deed", "words", "part"] dm_rule_text.qual (defScope dm_rule_text.st) (dm_rule_text.adr K) cdv A outer s H E) (gx K cl) (fun cls d _ H => E cls d H) := ok_of hr rfl
    have hpa : PassesOwn (model P w) _ _ _ := passes_of (X := cxOf (L2.CX P w) P w K mg base ["rule", "test", "deed", "words", "part"] dm_rule_text.qual (defScope dm_rule_text.st) (dm_rule_text.adr K) cdv A outer s H E) rfl
    exact (b_cons (s_asg (m_var 0) (g_tup o (gs_cons (g_name 1 sc.nd) (gs_cons (g_name 2 sc.nd) gs_nil))))
      (b_cons (s_set 3 sc.nd (m_lst (a_cons (m_it o (m_var 1) m_int) (a_star o (m_frz (o_lc o (own := [("part", 4)]) sc.nd (i_seq o (m_sl4 o (v_e (m_var 1)) (p_some m_int) p_none)) (show BlkOk ["rule", "test", "deed", "words", "part"] (defScope dm_rule_text.st) _ _ from ⟨rfl, by decide +kernel, by decide +kernel, by decide +kernel, by decide +kernel⟩) (fun s H C cl fp => (g_name 4 sc.nd)) (fun s H C cl fp => ts_nil) (fun s H C cl fp => (m_if (n_eq (Ok.blk o) (m_it (Ok.blk o) (m_var 1) m_int) m_str) (m_callM (Ok.blk o) F_share_text (hr.mono (by decide)) (j_cons (m_var 4) j_nil)) (m_strI rfl (S.fr_str) (j_cons (m_var 4) j_nil))))) (iLc_fz _ _ _ _ _)) a_nil))))
      (b_one (s_ret (m_add4 o (m_add4 o (m_join o m_str (m_var 3)) m_str) (m_join o m_str (m_var 2)))))))
  exact ⟨_, fd, ["rule"], Y.glo 21, F.kp, bi, hF⟩
theorem sc_program_lines : FnScope ["program", "found", "part", "rule"] ["program"] (defScope (top 30)) := ⟨rfl, rfl, rfl, by decide +kernel, rfl, by decide +kernel, by decide +kernel⟩
theorem k_program_lines (Y : Sy faL fnL exL K mg) (S : Sx P w K mg base cl) : FnM P w K mg base (gx K cl) 4 "program_lines" [false] fn_program_lines := by
  obtain ⟨fd, F⟩ := Y.def_ 24 (d := dm_program_lines) rfl
  have sc := sc_program_lines
  have F_round_text := k_round_text (P := P) (w := w) (base := base) Y S
  have F_rule_text := k_rule_text (P := P) (w := w) (base := base) Y S
  have bi : Binds K fd ["program"] [] := FunD.bindsN F (fun _ _ _ _ _ _ us hl => match us, hl with | [_], _ => rfl)
  have hF : FnOk P w K mg base (L2.CX P w) 4 (dm_program_lines.adr K) fd ["program"] (spOf (gx K cl) [false] (fnOf 4 [false] b_program_lines)) := by
    refine fn_okD (N := ["program", "found", "part", "rule"]) (d := dm_program_lines) (k := 3) (ks := [false]) (body := b_program_lines) F sc rfl (by decide) fun cdv A outer s H E hr => ?_
    have o : Ok (cxOf (L2.CX P w) P w K mg base ["program", "found", "part", "rule"] dm_program_lines.qual (defScope dm_program_lines.st) (dm_program_lines.adr K) cdv A outer s H E) (gx K cl) (fun cls d _ H => E cls d H) := ok_of hr rfl
    have hpa : PassesOwn (model P w) _ _ _ := passes_of (X := cxOf (L2.CX P w) P w K mg base ["program", "found", "part", "rule"] dm_program_lines.qual (defScope dm_program_lines.st) (dm_program_lines.adr K) cdv A outer s H E) rfl
    exact (b_cons (s_setO 1 sc.nd (o_lst a_nil))
      (b_cons (s_for o hpa (i_seq o (m_propM o "Program" S.pr_Program_rounds (hr.mono (by decide)) (v_e (m_var 0)))) (g_name 2 sc.nd) (b_one (s_ext o 1 (m_lst (a_cons (m_callM o F_round_text (hr.mono (by decide)) (j_cons (m_var 2) j_nil)) (a_star o (m_frz (o_lc o (own := [("rule", 3)]) sc.nd (i_seq o (m_propM o "Round" S.pr_Round_rules (hr.mono (by decide)) (v_e (m_var 2)))) (show BlkOk ["program", "found", "part", "rule"] (defScope dm_program_lines.st) _ _ from ⟨rfl, by decide +kernel, by decide +kernel, by decide +kernel, by decide +kernel⟩) (fun s H C cl fp => (g_name 3 sc.nd)) (fun s H C cl fp => ts_nil) (fun s H C cl fp => (m_callM (Ok.blk o) F_rule_text (hr.mono (by decide)) (j_cons (m_var 3) j_nil)))) (iLc_fz _ _ _ _ _)) a_nil))))))
      (b_one (s_ret (m_mv 1)))))
  exact ⟨_, fd, ["program"], Y.glo 22, F.kp, bi, hF⟩
theorem sc_program_text : FnScope ["program", "line"] ["program"] (defScope (top 31)) := ⟨rfl, rfl, rfl, by decide +kernel, rfl, by decide +kernel, by decide +kernel⟩
theorem k_program_text (Y : Sy faL fnL exL K mg) (S : Sx P w K mg base cl) : FnM P w K mg base (gx K cl) 5 "program_text" [false] fn_program_text := by
  obtain ⟨fd, F⟩ := Y.def_ 25 (d := dm_program_text) rfl
  have sc := sc_program_text
  have F_need_program := k_need_program (P := P) (w := w) (base := base) Y S
  have F_program_lines := k_program_lines (P := P) (w := w) (base := base) Y S
  have bi : Binds K fd ["program"] [] := FunD.bindsN F (fun _ _ _ _ _ _ us hl => match us, hl with | [_], _ => rfl)
  have hF : FnOk P w K mg base (L2.CX P w) 5 (dm_program_text.adr K) fd ["program"] (spOf (gx K cl) [false] (fnOf 2 [false] b_program_text)) := by
    refine fn_okD (N := ["program", "line"]) (d := dm_program_text) (k := 4) (ks := [false]) (body := b_program_text) F sc rfl (by decide) fun cdv A outer s H E hr => ?_
    have o : Ok (cxOf (L2.CX P w) P w K mg base ["program", "line"] dm_program_text.qual (defScope dm_program_text.st) (dm_program_text.adr K) cdv A outer s H E) (gx K cl) (fun cls d _ H => E cls d H) := ok_of hr rfl
    have hpa : PassesOwn (model P w) _ _ _ := passes_of (X := cxOf (L2.CX P w) P w K mg base ["program", "line"] dm_program_text.qual (defScope dm_program_text.st) (dm_program_text.adr K) cdv A outer s H E) rfl
    exact (b_cons (s_expr (m_callM o F_need_program (hr.mono (by decide)) (j_cons (m_var 0) j_nil)))
      (b_one (s_ret (m_join o m_str (m_frz (o_lc o (own := [("line", 1)]) sc.nd (i_seq o (m_callM o F_program_lines (hr.mono (by decide)) (j_cons (m_var 0) j_nil))) (show BlkOk ["program", "line"] (defScope dm_program_text.st) _ _ from ⟨rfl, by decide +kernel, by decide +kernel, by decide +kernel, by decide +kernel⟩) (fun s H C cl fp => (g_name 1 sc.nd)) (fun s H C cl fp => ts_nil) (fun s H C cl fp => (m_add4 (Ok.blk o) (m_var 1) m_str))) (iLc_fz _ _ _ _ _))))))
  exact ⟨_, fd, ["program"], Y.glo 23, F.kp, bi, hF⟩
theorem sc_Sheet : FnScope ["self"] ["self"] (defScope (mth 35 0)) := ⟨rfl, rfl, rfl, by decide +kernel, rfl, by decide +kernel, by decide +kernel⟩
theorem k_Sheet (Y : Sy faL fnL exL K mg) (S : Sx P w K mg base cl) : ∃ f fd, MkM P w K mg base (gx K cl) 1 "Sheet" "Sheet" 0 fn_Sheet f fd ["self"] ∧ Binds K fd ["self"] [] := by
  obtain ⟨fd, F⟩ := Y.def_ 26 (d := dm_Sheet) rfl
  have sc := sc_Sheet
  have bi : Binds K fd ["self"] [] := FunD.bindsN F (fun _ _ _ _ _ _ us hl => match us, hl with | [_], _ => rfl)
  have hF : FnOk P w K mg base (L2.CX P w) 1 (dm_Sheet.adr K) fd ["self"] (spOf (gx K cl) [true] (fnOf 1 [true] b_Sheet)) := by
    refine fn_okD (N := ["self"]) (d := dm_Sheet) (k := 0) (ks := [true]) (body := b_Sheet) F sc rfl (by decide) fun cdv A outer s H E hr => ?_
    have o : Ok (cxOf (L2.CX P w) P w K mg base ["self"] dm_Sheet.qual (defScope dm_Sheet.st) (dm_Sheet.adr K) cdv A outer s H E) (gx K cl) (fun cls d _ H => E cls d H) := ok_of hr rfl
    have hpa : PassesOwn (model P w) _ _ _ := passes_of (X := cxOf (L2.CX P w) P w K mg base ["self"] dm_Sheet.qual (defScope dm_Sheet.st) (dm_Sheet.adr K) cdv A outer s H E) rfl
    exact (b_cons (s_shN o S.kc 0 false S.na_heads)
      (b_one (s_shN o S.kc 0 true S.na_rows)))
  exact ⟨_, fd, ⟨Y.glo 32, He.mkr_ok (Y.fact 54 (f := .mkr "Sheet")), hF, rfl⟩, bi⟩
theorem sc_share_told : FnScope ["word", "found", "share"] ["word"] (defScope (top 27)) := ⟨rfl, rfl, rfl, by decide +kernel, rfl, by decide +kernel, by decide +kernel⟩
theorem k_share_told (Y : Sy faL fnL exL K mg) (S : Sx P w K mg base cl) : FnM P w K mg base (gx K cl) 2 "share_told" [false] fn_share_told := by
  obtain ⟨fd, F⟩ := Y.def_ 27 (d := dm_share_told) rfl
  have sc := sc_share_told
  have F_share_text := k_share_text (P := P) (w := w) (base := base) Y S
  have bi : Binds K fd ["word"] [] := FunD.bindsN F (fun _ _ _ _ _ _ us hl => match us, hl with | [_], _ => rfl)
  have hF : FnOk P w K mg base (L2.CX P w) 2 (dm_share_told.adr K) fd ["word"] (spOf (gx K cl) [false] (fnOf 3 [false] b_share_told)) := by
    refine fn_okD (N := ["word", "found", "share"]) (d := dm_share_told) (k := 1) (ks := [false]) (body := b_share_told) F sc rfl (by decide) fun cdv A outer s H E hr => ?_
    have o : Ok (cxOf (L2.CX P w) P w K mg base ["word", "found", "share"] dm_share_told.qual (defScope dm_share_told.st) (dm_share_told.adr K) cdv A outer s H E) (gx K cl) (fun cls d _ H => E cls d H) := ok_of hr rfl
    have hpa : PassesOwn (model P w) _ _ _ := passes_of (X := cxOf (L2.CX P w) P w K mg base ["word", "found", "share"] dm_share_told.qual (defScope dm_share_told.st) (dm_share_told.adr K) cdv A outer s H E) rfl
    exact (b_cons (s_setLc o 1 (own := [("share", 2)]) sc.nd (i_seq o (m_gv S.gv_SHARES)) (show BlkOk ["word", "found", "share"] (defScope dm_share_told.st) _ _ from ⟨rfl, by decide +kernel, by decide +kernel, by decide +kernel, by decide +kernel⟩) (fun s H C cl fp => (g_name 2 sc.nd)) (fun s H C cl fp => (ts_one (n_eq (Ok.blk o) (m_callM (Ok.blk o) F_share_text (hr.mono (by decide)) (j_cons (m_var 2) j_nil)) (m_var 0)))) (fun s H C cl fp => (m_var 2)))
      (b_one (s_ret (m_if (n_gt (m_len o rfl (S.fr_len) (j_cons (m_var 1) j_nil)) m_int) (m_it o (m_var 1) m_int) m_non))))
  exact ⟨_, fd, ["word"], Y.glo 24, F.kp, bi, hF⟩
theorem sc_round_told : FnScope ["line", "words"] ["line"] (defScope (top 32)) := ⟨rfl, rfl, rfl, by decide +kernel, rfl, by decide +kernel, by decide +kernel⟩
theorem k_round_told (Y : Sy faL fnL exL K mg) (S : Sx P w K mg base cl) : FnM P w K mg base (gx K cl) 3 "round_told" [false] fn_round_told := by
  obtain ⟨fd, F⟩ := Y.def_ 28 (d := dm_round_told) rfl
  have sc := sc_round_told
  have F_share_told := k_share_told (P := P) (w := w) (base := base) Y S
  have bi : Binds K fd ["line"] [] := FunD.bindsN F (fun _ _ _ _ _ _ us hl => match us, hl with | [_], _ => rfl)
  have hF : FnOk P w K mg base (L2.CX P w) 3 (dm_round_told.adr K) fd ["line"] (spOf (gx K cl) [false] (fnOf 2 [false] b_round_told)) := by
    refine fn_okD (N := ["line", "words"]) (d := dm_round_told) (k := 2) (ks := [false]) (body := b_round_told) F sc rfl (by decide) fun cdv A outer s H E hr => ?_
    have o : Ok (cxOf (L2.CX P w) P w K mg base ["line", "words"] dm_round_told.qual (defScope dm_round_told.st) (dm_round_told.adr K) cdv A outer s H E) (gx K cl) (fun cls d _ H => E cls d H) := ok_of hr rfl
    have hpa : PassesOwn (model P w) _ _ _ := passes_of (X := cxOf (L2.CX P w) P w K mg base ["line", "words"] dm_round_told.qual (defScope dm_round_told.st) (dm_round_told.adr K) cdv A outer s H E) rfl
    exact (b_cons (s_set 1 sc.nd (m_split (m_var 0) m_str))
      (b_cons (s_if (n_w (w_or (n_ne o (m_len o rfl (S.fr_len) (j_cons (m_var 1) j_nil)) m_int) (w_or (n_ne o (m_it o (m_var 1) m_int) m_str) (w_or (n_is (m_callM o F_share_told (hr.mono (by decide)) (j_cons (m_it o (m_var 1) m_int) j_nil)) m_non) (w_or1 (n_vvNG o S.bv_SURE rfl (m_it o (m_var 1) m_int))))))) (b_one (s_ret m_non)) b_nil)
      (b_one (s_ret (m_tup (a_cons (m_callM o F_share_told (hr.mono (by decide)) (j_cons (m_it o (m_var 1) m_int) j_nil)) (a_cons (m_eq o (m_it o (m_var 1) m_int) (m_bxG S.bv_SURE rfl m_bl)) a_nil)))))))
  exact ⟨_, fd, ["line"], Y.glo 25, F.kp, bi, hF⟩
theorem sc_test_told : FnScope ["words"] ["words"] (defScope (top 33)) := ⟨rfl, rfl, rfl, by decide +kernel, rfl, by decide +kernel, by decide +kernel⟩
theorem k_test_told (Y : Sy faL fnL exL K mg) (S : Sx P w K mg base cl) : FnM P w K mg base (gx K cl) 3 "test_told" [false] fn_test_told := by
  obtain ⟨fd, F⟩ := Y.def_ 29 (d := dm_test_told) rfl
  have sc := sc_test_told
  have F_share_told := k_share_told (P := P) (w := w) (base := base) Y S
  have bi : Binds K fd ["words"] [] := FunD.bindsN F (fun _ _ _ _ _ _ us hl => match us, hl with | [_], _ => rfl)
  have hF : FnOk P w K mg base (L2.CX P w) 3 (dm_test_told.adr K) fd ["words"] (spOf (gx K cl) [false] (fnOf 1 [false] b_test_told)) := by
    refine fn_okD (N := ["words"]) (d := dm_test_told) (k := 2) (ks := [false]) (body := b_test_told) F sc rfl (by decide) fun cdv A outer s H E hr => ?_
    have o : Ok (cxOf (L2.CX P w) P w K mg base ["words"] dm_test_told.qual (defScope dm_test_told.st) (dm_test_told.adr K) cdv A outer s H E) (gx K cl) (fun cls d _ H => E cls d H) := ok_of hr rfl
    have hpa : PassesOwn (model P w) _ _ _ := passes_of (X := cxOf (L2.CX P w) P w K mg base ["words"] dm_test_told.qual (defScope dm_test_told.st) (dm_test_told.adr K) cdv A outer s H E) rfl
    exact (b_cons (s_if (n_in o (m_var 0) (m_tup (a_cons (m_lst (a_cons m_str a_nil)) (a_cons (m_lst (a_cons m_str a_nil)) (a_cons (m_lst (a_cons m_str a_nil)) a_nil))))) (b_one (s_ret (m_tup (a_cons (m_it o (m_var 0) m_int) a_nil)))) b_nil)
      (b_cons (s_if (n_in o (m_var 0) (m_tup (a_cons (m_lst (a_cons m_str (a_cons m_str a_nil))) (a_cons (m_lst (a_cons m_str (a_cons m_str a_nil))) a_nil)))) (b_one (s_ret (m_tup (a_cons m_str (a_cons (m_intS rfl (S.fr_int) (j_cons (m_it o (m_var 0) m_int) j_nil)) a_nil))))) b_nil)
      (b_cons (s_if (n_w (w_and (n_eq o (m_len o rfl (S.fr_len) (j_cons (m_var 0) j_nil)) m_int) (w_and (n_eq o (m_it o (m_var 0) m_int) m_str) (w_and1 (n_isnt (m_callM o F_share_told (hr.mono (by decide)) (j_cons (m_it o (m_var 0) m_int) j_nil)) m_non))))) (b_one (s_ret (m_tup (a_cons m_str (a_cons (m_callM o F_share_told (hr.mono (by decide)) (j_cons (m_it o (m_var 0) m_int) j_nil)) a_nil))))) b_nil)
      (b_one (s_ret m_non)))))
  exact ⟨_, fd, ["words"], Y.glo 26, F.kp, bi, hF⟩
theorem sc_rule_told : FnScope ["line", "parts", "test", "deed", "word"] ["line"] (defScope (top 34)) := ⟨rfl, rfl, rfl, by decide +kernel, rfl, by decide +kernel, by decide +kernel⟩
theorem k_rule_told (Y : Sy faL fnL exL K mg) (S : Sx P w K mg base cl) : FnM P w K mg base (gx K cl) 4 "rule_told" [false] fn_rule_told := by
  obtain ⟨fd, F⟩ := Y.def_ 30 (d := dm_rule_told) rfl
  have sc := sc_rule_told
  have F_test_told := k_test_told (P := P) (w := w) (base := base) Y S
  have bi : Binds K fd ["line"] [] := FunD.bindsN F (fun _ _ _ _ _ _ us hl => match us, hl with | [_], _ => rfl)
  have hF : FnOk P w K mg base (L2.CX P w) 4 (dm_rule_told.adr K) fd ["line"] (spOf (gx K cl) [false] (fnOf 5 [false] b_rule_told)) := by
    refine fn_okD (N := ["line", "parts", "test", "deed", "word"]) (d := dm_rule_told) (k := 3) (ks := [false]) (body := b_rule_told) F sc rfl (by decide) fun cdv A outer s H E hr => ?_
    have o : Ok (cxOf (L2.CX P w) P w K mg base ["line", "parts", "test", "deed", "word"] dm_rule_told.qual (defScope dm_rule_told.st) (dm_rule_told.adr K) cdv A outer s H E) (gx K cl) (fun cls d _ H => E cls d H) := ok_of hr rfl
    have hpa : PassesOwn (model P w) _ _ _ := passes_of (X := cxOf (L2.CX P w) P w K mg base ["line", "parts", "test", "deed", "word"] dm_rule_told.qual (defScope dm_rule_told.st) (dm_rule_told.adr K) cdv A outer s H E) rfl
    exact (b_cons (s_set 1 sc.nd (m_split (m_var 0) m_str))
      (b_cons (s_if (n_ne o (m_len o rfl (S.fr_len) (j_cons (m_var 1) j_nil)) m_int) (b_one (s_ret m_non)) b_nil)
      (b_cons (s_asg (m_tup (a_cons (m_callM o F_test_told (hr.mono (by decide)) (j_cons (m_split (m_it o (m_var 1) m_int) m_str) j_nil)) (a_cons (m_tuple o rfl (S.fr_tuple) (j_cons (m_split (m_it o (m_var 1) m_int) m_str) j_nil)) a_nil))) (g_tup o (gs_cons (g_name 2 sc.nd) (gs_cons (g_name 3 sc.nd) gs_nil))))
      (b_cons (s_if (n_w (w_or (n_is (m_var 2) m_non) (w_or1 (n_ne o (m_var 3) (m_tuple o rfl (S.fr_tuple) (j_cons (m_frz (o_lc o (own := [("word", 4)]) sc.nd (i_seq o (m_gv S.gv_WORDS)) (show BlkOk ["line", "parts", "test", "deed", "word"] (defScope dm_rule_told.st) _ _ from ⟨rfl, by decide +kernel, by decide +kernel, by decide +kernel, by decide +kernel⟩) (fun s H C cl fp => (g_name 4 sc.nd)) (fun s H C cl fp => (ts_one (n_in (Ok.blk o) (m_var 4) (m_var 3)))) (fun s H C cl fp => (m_var 4))) (iLc_fz _ _ _ _ _)) j_nil)))))) (b_one (s_ret m_non)) b_nil)
      (b_one (s_ret (m_tup (a_cons (m_var 2) (a_cons (m_var 3) a_nil)))))))))
  exact ⟨_, fd, ["line"], Y.glo 27, F.kp, bi, hF⟩
theorem sc_Sheetis_marking : FnScope ["self"] ["self"] (defScope (mth 35 1)) := ⟨rfl, rfl, rfl, by decide +kernel, rfl, by decide +kernel, by decide +kernel⟩
theorem k_Sheetis_marking (Y : Sy faL fnL exL K mg) (S : Sx P w K mg base cl) : FnMm P w K mg base (gx K cl) 1 "Sheet" "is_marking" [true] fn_Sheetis_marking := by
  obtain ⟨fd, F⟩ := Y.def_ 36 (d := dm_Sheetis_marking) rfl
  have sc := sc_Sheetis_marking
  have me := He.meth_ok (Y.fact 58 (f := .meth "Sheet" "is_marking"))
  have bi : Binds K fd ["self"] [] := FunD.bindsN F (fun _ _ _ _ _ _ us hl => match us, hl with | [_], _ => rfl)
  have hF : FnOk P w K mg base (L2.CX P w) 1 (dm_Sheetis_marking.adr K) fd ["self"] (spOf (gx K cl) [true] (fnOf 1 [true] b_Sheetis_marking)) := by
    refine fn_okD (N := ["self"]) (d := dm_Sheetis_marking) (k := 0) (ks := [true]) (body := b_Sheetis_marking) F sc rfl (by decide) fun cdv A outer s H E hr => ?_
    have o : Ok (cxOf (L2.CX P w) P w K mg base ["self"] dm_Sheetis_marking.qual (defScope dm_Sheetis_marking.st) (dm_Sheetis_marking.adr K) cdv A outer s H E) (gx K cl) (fun cls d _ H => E cls d H) := ok_of hr rfl
    have hpa : PassesOwn (model P w) _ _ _ := passes_of (X := cxOf (L2.CX P w) P w K mg base ["self"] dm_Sheetis_marking.qual (defScope dm_Sheetis_marking.st) (dm_Sheetis_marking.adr K) cdv A outer s H E) rfl
    exact (b_one (s_ret (m_and o (m_borS 0 (m_gt (m_len o rfl (S.fr_len) (j_cons (m_fld o S.kc S.na_rows (v_e (m_var 0))) j_nil)) m_int)) (m_and o (m_borS 0 (m_ne o (m_it o (m_fld o S.kc S.na_rows (v_e (m_var 0))) m_int) (m_lst a_nil))) (m_one (m_borS 0 (m_eq o (m_it o (m_it o (m_it o (m_fld o S.kc S.na_rows (v_e (m_var 0))) m_int) m_int) m_int) (m_tup (a_cons m_str a_nil)))))))))
  exact ⟨⟨_, fd, ["self"], S.kc.cls _ (by decide), me, bi, hF⟩⟩
theorem sc_Sheetcan_take : FnScope ["self", "rule", "part"] ["self", "rule"] (defScope (mth 35 3)) := ⟨rfl, rfl, rfl, by decide +kernel, rfl, by decide +kernel, by decide +kernel⟩
theorem k_Sheetcan_take (Y : Sy faL fnL exL K mg) (S : Sx P w K mg base cl) : FnMm P w K mg base (gx K cl) 7 "Sheet" "can_take" [true, false] fn_Sheetcan_take := by
  obtain ⟨fd, F⟩ := Y.def_ 37 (d := dm_Sheetcan_take) rfl
  have sc := sc_Sheetcan_take
  obtain ⟨f_Round, fd_Round, M_Round, B_Round, D_Round⟩ := k_Round (P := P) (w := w) (base := base) Y S
  have F_can_be_first := k_can_be_first (P := P) (w := w) (base := base) Y S
  have F_can_be_last := k_can_be_last (P := P) (w := w) (base := base) Y S
  have F_Sheetis_marking := k_Sheetis_marking (P := P) (w := w) (base := base) Y S
  have me := He.meth_ok (Y.fact 59 (f := .meth "Sheet" "can_take"))
  have bi : Binds K fd ["self", "rule"] [] := FunD.bindsN F (fun _ _ _ _ _ _ us hl => match us, hl with | [_, _], _ => rfl)
  have hF : FnOk P w K mg base (L2.CX P w) 7 (dm_Sheetcan_take.adr K) fd ["self", "rule"] (spOf (gx K cl) [true, false] (fnOf 3 [true, false] b_Sheetcan_take)) := by
    refine fn_okD (N := ["self", "rule", "part"]) (d := dm_Sheetcan_take) (k := 6) (ks := [true, false]) (body := b_Sheetcan_take) F sc rfl (by decide) fun cdv A outer s H E hr => ?_
    have o : Ok (cxOf (L2.CX P w) P w K mg base ["self", "rule", "part"] dm_Sheetcan_take.qual (defScope dm_Sheetcan_take.st) (dm_Sheetcan_take.adr K) cdv A outer s H E) (gx K cl) (fun cls d _ H => E cls d H) := ok_of hr rfl
    have hpa : PassesOwn (model P w) _ _ _ := passes_of (X := cxOf (L2.CX P w) P w K mg base ["self", "rule", "part"] dm_Sheetcan_take.qual (defScope dm_Sheetcan_take.st) (dm_Sheetcan_take.adr K) cdv A outer s H E) rfl
    exact (b_cons (s_set 2 sc.nd (m_makeMD o M_Round D_Round (fun _ _ => (.cons (.bl false) .nil)) (hr.mono (by decide)) (a_cons (m_tup (a_cons m_int (a_cons m_int a_nil))) (a_cons (m_lst (a_cons (m_var 1) a_nil)) a_nil)) (l_cons (l_cons l_nil))))
      (b_cons (s_if (n_w (w_and (n_borS 0 (n_eq o (m_len o rfl (S.fr_len) (j_cons (m_fld o S.kc S.na_heads (v_e (m_var 0))) j_nil)) m_int)) (w_and1 (n_truth o (m_callM o F_can_be_first (hr.mono (by decide)) (j_cons (m_var 2) j_nil)))))) (b_one (s_ret (m_borS 0 (m_eq o (m_it o (m_fld o S.kc S.na_rows (v_e (m_var 0))) m_int) (m_lst a_nil))))) b_nil)
      (b_cons (s_if (n_w (w_or (n_not (n_truth o (m_callM o F_can_be_last (hr.mono (by decide)) (j_cons (m_var 2) j_nil)))) (w_or1 (n_borS 0 (n_eq o (m_len o rfl (S.fr_len) (j_cons (m_it o (m_fld o S.kc S.na_rows (v_e (m_var 0))) (m_neg m_int)) j_nil)) (m_gv S.gv_MOST_RULES)))))) (b_one (s_ret m_bl)) b_nil)
      (b_one (s_ret (m_or o (m_borS 0 (m_eq o (m_len o rfl (S.fr_len) (j_cons (m_fld o S.kc S.na_heads (v_e (m_var 0))) j_nil)) m_int)) (m_one (m_not o (m_methS0 o "Sheet" 0 F_Sheetis_marking (hr.mono (by decide)))))))))))
  exact ⟨⟨_, fd, ["self", "rule"], S.kc.cls _ (by decide), me, bi, hF⟩⟩
theorem sc_Sheettakes : FnScope ["self", "line", "head", "rule"] ["self", "line"] (defScope (mth 35 2)) := ⟨rfl, rfl, rfl, by decide +kernel, rfl, by decide +kernel, by decide +kernel⟩
theorem k_Sheettakes (Y : Sy faL fnL exL K mg) (S : Sx P w K mg base cl) : FnMm P w K mg base (gx K cl) 8 "Sheet" "takes" [true, false] fn_Sheettakes := by
  obtain ⟨fd, F⟩ := Y.def_ 38 (d := dm_Sheettakes) rfl
  have sc := sc_Sheettakes
  have F_round_told := k_round_told (P := P) (w := w) (base := base) Y S
  have F_rule_told := k_rule_told (P := P) (w := w) (base := base) Y S
  have F_Sheetcan_take := k_Sheetcan_take (P := P) (w := w) (base := base) Y S
  have F_Sheetis_marking := k_Sheetis_marking (P := P) (w := w) (base := base) Y S
  have me := He.meth_ok (Y.fact 60 (f := .meth "Sheet" "takes"))
  have bi : Binds K fd ["self", "line"] [] := FunD.bindsN F (fun _ _ _ _ _ _ us hl => match us, hl with | [_, _], _ => rfl)
  have hF : FnOk P w K mg base (L2.CX P w) 8 (dm_Sheettakes.adr K) fd ["self", "line"] (spOf (gx K cl) [true, false] (fnOf 4 [true, false] b_Sheettakes)) := by
    refine fn_okD (N := ["self", "line", "head", "rule"]) (d := dm_Sheettakes) (k := 7) (ks := [true, false]) (body := b_Sheettakes) F sc rfl (by decide) fun cdv A outer s H E hr => ?_
    have o : Ok (cxOf (L2.CX P w) P w K mg base ["self", "line", "head", "rule"] dm_Sheettakes.qual (defScope dm_Sheettakes.st) (dm_Sheettakes.adr K) cdv A outer s H E) (gx K cl) (fun cls d _ H => E cls d H) := ok_of hr rfl
    have hpa : PassesOwn (model P w) _ _ _ := passes_of (X := cxOf (L2.CX P w) P w K mg base ["self", "line", "head", "rule"] dm_Sheettakes.qual (defScope dm_Sheettakes.st) (dm_Sheettakes.adr K) cdv A outer s H E) rfl
    exact (b_cons (s_set 2 sc.nd (m_callM o F_round_told (hr.mono (by decide)) (j_cons (m_var 1) j_nil)))
      (b_cons (s_if (n_isnt (m_var 2) m_non) (b_cons (s_if (n_w (w_or (n_borS 0 (n_eq o (m_len o rfl (S.fr_len) (j_cons (m_fld o S.kc S.na_heads (v_e (m_var 0))) j_nil)) m_int)) (w_or1 (n_w (w_and (n_borS 0 (n_eq o (m_len o rfl (S.fr_len) (j_cons (m_fld o S.kc S.na_heads (v_e (m_var 0))) j_nil)) m_int)) (w_and1 (n_not (n_truth o (m_methS0 o "Sheet" 0 F_Sheetis_marking (hr.mono (by decide))))))))))) (b_one (s_ret m_bl)) b_nil)
      (b_cons (s_shA o S.kc 0 2 S.na_heads)
      (b_cons (s_shE o S.kc 0 S.na_rows)
      (b_one (s_ret m_bl))))) b_nil)
      (b_cons (s_set 3 sc.nd (m_callM o F_rule_told (hr.mono (by decide)) (j_cons (m_var 1) j_nil)))
      (b_cons (s_if (n_w (w_or (n_is (m_var 3) m_non) (w_or (n_borS 0 (n_eq o (m_len o rfl (S.fr_len) (j_cons (m_fld o S.kc S.na_heads (v_e (m_var 0))) j_nil)) m_int)) (w_or1 (n_not (n_truth o (m_methS o "Sheet" 0 F_Sheetcan_take (hr.mono (by decide)) (j_cons (m_var 3) j_nil)))))))) (b_one (s_ret m_bl)) b_nil)
      (b_cons (s_shL o S.kc 0 3 S.na_rows pe_m1)
      (b_one (s_ret m_bl)))))))
  exact ⟨⟨_, fd, ["self", "line"], S.kc.cls _ (by decide), me, bi, hF⟩⟩
theorem sc_Sheetis_whole : FnScope ["self"] ["self"] (defScope (mth 35 4)) := ⟨rfl, rfl, rfl, by decide +kernel, rfl, by decide +kernel, by decide +kernel⟩
theorem k_Sheetis_whole (Y : Sy faL fnL exL K mg) (S : Sx P w K mg base cl) : FnMm P w K mg base (gx K cl) 2 "Sheet" "is_whole" [true] fn_Sheetis_whole := by
  obtain ⟨fd, F⟩ := Y.def_ 39 (d := dm_Sheetis_whole) rfl
  have sc := sc_Sheetis_whole
  have F_Sheetis_marking := k_Sheetis_marking (P := P) (w := w) (base := base) Y S
  have me := He.meth_ok (Y.fact 61 (f := .meth "Sheet" "is_whole"))
  have bi : Binds K fd ["self"] [] := FunD.bindsN F (fun _ _ _ _ _ _ us hl => match us, hl with | [_], _ => rfl)
  have hF : FnOk P w K mg base (L2.CX P w) 2 (dm_Sheetis_whole.adr K) fd ["self"] (spOf (gx K cl) [true] (fnOf 1 [true] b_Sheetis_whole)) := by
    refine fn_okD (N := ["self"]) (d := dm_Sheetis_whole) (k := 1) (ks := [true]) (body := b_Sheetis_whole) F sc rfl (by decide) fun cdv A outer s H E hr => ?_
    have o : Ok (cxOf (L2.CX P w) P w K mg base ["self"] dm_Sheetis_whole.qual (defScope dm_Sheetis_whole.st) (dm_Sheetis_whole.adr K) cdv A outer s H E) (gx K cl) (fun cls d _ H => E cls d H) := ok_of hr rfl
    have hpa : PassesOwn (model P w) _ _ _ := passes_of (X := cxOf (L2.CX P w) P w K mg base ["self"] dm_Sheetis_whole.qual (defScope dm_Sheetis_whole.st) (dm_Sheetis_whole.adr K) cdv A outer s H E) rfl
    exact (b_cons (s_if (n_w (w_or (n_borS 0 (n_eq o (m_len o rfl (S.fr_len) (j_cons (m_fld o S.kc S.na_heads (v_e (m_var 0))) j_nil)) m_int)) (w_or1 (n_borS 0 (n_eq o (m_it o (m_fld o S.kc S.na_rows (v_e (m_var 0))) (m_neg m_int)) (m_lst a_nil)))))) (b_one (s_ret m_bl)) b_nil)
      (b_one (s_ret (m_or o (m_borS 0 (m_eq o (m_len o rfl (S.fr_len) (j_cons (m_fld o S.kc S.na_heads (v_e (m_var 0))) j_nil)) m_int)) (m_one (m_not o (m_methS0 o "Sheet" 0 F_Sheetis_marking (hr.mono (by decide)))))))))
  exact ⟨⟨_, fd, ["self"], S.kc.cls _ (by decide), me, bi, hF⟩⟩
theorem sc_read_program : FnScope ["text", "lines", "sheet", "at", "line", "head", "rules"] ["text"] (defScope (top 36)) := ⟨rfl, rfl, rfl, by decide +kernel, rfl, by decide +kernel, by decide +kernel⟩
theorem kx_read_program (Y : Sy faL fnL exL K mg) (S : Sx P w K mg base cl) : ∃ fd, FunM K dm_read_program fd ∧ FnOk P w K mg base (L2.CX P w) 9 (dm_read_program.adr K) fd ["text"] (spOf (gx K cl) [false] fn_read_program) := by
  obtain ⟨fd, F⟩ := Y.def_ 31 (d := dm_read_program) rfl
  have sc := sc_read_program
  obtain ⟨f_Program, fd_Program, M_Program, B_Program⟩ := k_Program (P := P) (w := w) (base := base) Y S
  obtain ⟨f_Round, fd_Round, M_Round, B_Round, D_Round⟩ := k_Round (P := P) (w := w) (base := base) Y S
  obtain ⟨f_Sheet, fd_Sheet, M_Sheet, B_Sheet⟩ := k_Sheet (P := P) (w := w) (base := base) Y S
  have F_Sheetis_whole := k_Sheetis_whole (P := P) (w := w) (base := base) Y S
  have F_Sheettakes := k_Sheettakes (P := P) (w := w) (base := base) Y S
  have hF : FnOk P w K mg base (L2.CX P w) 9 (dm_read_program.adr K) fd ["text"] (spOf (gx K cl) [false] (fnOf 7 [false] b_read_program)) := by
    refine fn_okD (N := ["text", "lines", "sheet", "at", "line", "head", "rules"]) (d := dm_read_program) (k := 8) (ks := [false]) (body := b_read_program) F sc rfl (by decide) fun cdv A outer s H E hr => ?_
    have o : Ok (cxOf (L2.CX P w) P w K mg base ["text", "lines", "sheet", "at", "line", "head", "rules"] dm_read_program.qual (defScope dm_read_program.st) (dm_read_program.adr K) cdv A outer s H E) (gx K cl) (fun cls d _ H => E cls d H) := ok_of hr rfl
    have hpa : PassesOwn (model P w) _ _ _ := passes_of (X := cxOf (L2.CX P w) P w K mg base ["text", "lines", "sheet", "at", "line", "head", "rules"] dm_read_program.qual (defScope dm_read_program.st) (dm_read_program.adr K) cdv A outer s H E) rfl
    exact (b_cons (s_if (n_w (w_or (n_not (n_truth o (m_isi o S.kc rfl (S.fr_isinstance) (j_cons (m_var 0) (j_cons (m_ty rfl (S.fr_str) rfl) j_nil))))) (w_or1 (n_eq o (m_var 0) m_str)))) (b_one (s_raiseE o S.er S.su_BadText (hr.mono (by decide)) (S.fr_super) S.gc_BadText m_int)) b_nil)
      (b_cons (s_par2 o 1 2 sc.nd (k_f (m_split (m_var 0) m_str)) (k_o (o_makeS0 o "Sheet" M_Sheet.mkr M_Sheet.ok (hr.mono (by decide)) rfl M_Sheet.gl B_Sheet rfl)))
      (b_cons (s_for o hpa (i_enum o rfl (S.fr_enumerate) (a_cons (m_sl4 o (v_e (m_var 1)) p_none (p_some (m_neg m_int))) a_nil)) (g_tup o (gs_cons (g_name 3 sc.nd) (gs_cons (g_name 4 sc.nd) gs_nil))) (b_one (s_if (n_not (n_truth o (m_methS o "Sheet" 2 F_Sheettakes (hr.mono (by decide)) (j_cons (m_var 4) j_nil)))) (b_one (s_raiseE o S.er S.su_BadText (hr.mono (by decide)) (S.fr_super) S.gc_BadText (m_var 3))) b_nil)))
      (b_cons (s_if (n_w (w_or (n_ne o (m_it o (m_var 1) (m_neg m_int)) m_str) (w_or1 (n_not (n_truth o (m_methS0 o "Sheet" 2 F_Sheetis_whole (hr.mono (by decide)))))))) (b_one (s_raiseE o S.er S.su_BadText (hr.mono (by decide)) (S.fr_super) S.gc_BadText (m_sub (m_len o rfl (S.fr_len) (j_cons (m_var 1) j_nil)) m_int))) b_nil)
      (b_one (s_ret (m_makeM o M_Program B_Program (hr.mono (by decide)) (a_cons (m_frz (o_lc o (own := [("head", 5), ("rules", 6)]) sc.nd (i_zip o rfl (S.fr_zip) (a_cons (m_fld o S.kc S.na_heads (v_e (m_mvS 2))) (a_cons (m_fld o S.kc S.na_rows (v_e (m_mvS 2))) a_nil))) (show BlkOk ["text", "lines", "sheet", "at", "line", "head", "rules"] (defScope dm_read_program.st) _ _ from ⟨rfl, by decide +kernel, by decide +kernel, by decide +kernel, by decide +kernel⟩) (fun s H C cl fp => (g_tup (Ok.blk o) (gs_cons (g_name 5 sc.nd) (gs_cons (g_name 6 sc.nd) gs_nil)))) (fun s H C cl fp => ts_nil) (fun s H C cl fp => (m_makeKM (Ok.blk o) (n := 2) (m := 1) M_Round (hr.mono (by decide)) B_Round (a_cons (m_it (Ok.blk o) (m_var 5) m_int) (a_cons (m_var 6) a_nil)) (l_cons (l_cons l_nil)) (k_cons (m_it (Ok.blk o) (m_var 5) m_int) k_nil) (l_cons l_nil)))) (iLc_fz _ _ _ _ _)) a_nil) (l_cons l_nil))))))))
  exact ⟨fd, F, hF⟩
theorem kk_0 (Y : Sy faL fnL exL K mg) (S : Sx P w K mg base cl) : FnK P w K mg base (gx K cl) 9 "read_program" 1 fn_read_program 0 ["text"] [0] := by
  obtain ⟨fd, F, hF⟩ := kx_read_program (P := P) (w := w) (base := base) Y S
  have bi : KBp K fd ["text"] 0 ["text"] [0] := FunM.kbp F (by decide) rfl (fun _ _ _ _ _ _ us ws h1 h2 => match us, ws, h1, h2 with | [], [_], _, _ => rfl)
  exact ⟨_, fd, ["text"], Y.glo 28, F.kp, bi, hF⟩
theorem k_read_program (Y : Sy faL fnL exL K mg) (S : Sx P w K mg base cl) : FnM P w K mg base (gx K cl) 9 "read_program" [false] fn_read_program := by
  obtain ⟨fd, F, hF⟩ := kx_read_program (P := P) (w := w) (base := base) Y S
  have bi : Binds K fd ["text"] [] := FunD.bindsN F (fun _ _ _ _ _ _ us hl => match us, hl with | [_], _ => rfl)
  exact ⟨_, fd, ["text"], Y.glo 28, F.kp, bi, hF⟩
theorem sc_Round__eq__ : FnScope ["self", "other"] ["self", "other"] (defScope (mth 19 5)) := ⟨rfl, rfl, rfl, by decide +kernel, rfl, by decide +kernel, by decide +kernel⟩
theorem k_Round__eq__ (Y : Sy faL fnL exL K mg) (S : Sx P w K mg base cl) : ∃ f fd, EqS P w K mg base (gx K cl) 1 "Round" fn_Round__eq__ f fd ["self", "other"] := by
  obtain ⟨fd, F⟩ := Y.def_ 34 (d := dm_Round__eq__) rfl
  have sc := sc_Round__eq__
  have me := He.meth_ok (Y.fact 56 (f := .meth "Round" "__eq__"))
  have bi : Binds K fd ["self", "other"] [] := FunD.bindsN F (fun _ _ _ _ _ _ us hl => match us, hl with | [_, _], _ => rfl)
  have hF : FnOk P w K mg base (L2.CX P w) 1 (dm_Round__eq__.adr K) fd ["self", "other"] (spOf (gx K cl) [false, false] (fnOf 2 [false, false] b_Round__eq__)) := by
    refine fn_okD (N := ["self", "other"]) (d := dm_Round__eq__) (k := 0) (ks := [false, false]) (body := b_Round__eq__) F sc rfl (by decide) fun cdv A outer s H E hr => ?_
    have o : Ok (cxOf (L2.CX P w) P w K mg base ["self", "other"] dm_Round__eq__.qual (defScope dm_Round__eq__.st) (dm_Round__eq__.adr K) cdv A outer s H E) (gx K cl) (fun cls d _ H => E cls d H) := ok_of hr rfl
    have hpa : PassesOwn (model P w) _ _ _ := passes_of (X := cxOf (L2.CX P w) P w K mg base ["self", "other"] dm_Round__eq__.qual (defScope dm_Round__eq__.st) (dm_Round__eq__.adr K) cdv A outer s H E) rfl
    exact (b_cons (s_if (n_w (w_or (n_not (n_truth o (m_isi o S.kc rfl (S.fr_isinstance) (j_cons (m_var 1) (j_cons (m_cls rfl S.gc_Round) j_nil))))) (w_or1 (n_ne o (m_fld o S.kc S.na_own_asks (v_e (m_var 0))) (m_fld o S.kc S.na_own_asks (v_e (m_var 1))))))) (b_one (s_ret m_bl)) b_nil)
      (b_one (s_ret (m_and o (m_eq o (m_fld o S.kc S.na_own_rules (v_e (m_var 0))) (m_fld o S.kc S.na_own_rules (v_e (m_var 1)))) (m_one (m_eq o (m_fld o S.kc S.na_own_sure (v_e (m_var 0))) (m_fld o S.kc S.na_own_sure (v_e (m_var 1)))))))))
  exact ⟨_, fd, ⟨hF, me.at_, me.fn, bi⟩⟩
theorem sc_Program__eq__ : FnScope ["self", "other"] ["self", "other"] (defScope (mth 22 4)) := ⟨rfl, rfl, rfl, by decide +kernel, rfl, by decide +kernel, by decide +kernel⟩
theorem k_Program__eq__ (Y : Sy faL fnL exL K mg) (S : Sx P w K mg base cl) : ∃ f fd, EqS P w K mg base (gx K cl) 4 "Program" fn_Program__eq__ f fd ["self", "other"] := by
  obtain ⟨fd, F⟩ := Y.def_ 35 (d := dm_Program__eq__) rfl
  have sc := sc_Program__eq__
  obtain ⟨fe_Round, fde_Round, E_Round⟩ := k_Round__eq__ (P := P) (w := w) (base := base) Y S
  have me := He.meth_ok (Y.fact 57 (f := .meth "Program" "__eq__"))
  have bi : Binds K fd ["self", "other"] [] := FunD.bindsN F (fun _ _ _ _ _ _ us hl => match us, hl with | [_, _], _ => rfl)
  have hF : FnOk P w K mg base (L2.CX P w) 4 (dm_Program__eq__.adr K) fd ["self", "other"] (spOf (gx K cl) [false, false] (fnOf 2 [false, false] b_Program__eq__)) := by
    refine fn_okD (N := ["self", "other"]) (d := dm_Program__eq__) (k := 3) (ks := [false, false]) (body := b_Program__eq__) F sc rfl (by decide) fun cdv A outer s H E hr => ?_
    have o : Ok (cxOf (L2.CX P w) P w K mg base ["self", "other"] dm_Program__eq__.qual (defScope dm_Program__eq__.st) (dm_Program__eq__.adr K) cdv A outer s H E) (gx K cl) (fun cls d _ H => E cls d H) := ok_of hr rfl
    have hpa : PassesOwn (model P w) _ _ _ := passes_of (X := cxOf (L2.CX P w) P w K mg base ["self", "other"] dm_Program__eq__.qual (defScope dm_Program__eq__.st) (dm_Program__eq__.adr K) cdv A outer s H E) rfl
    exact (b_one (s_ret (m_and o (m_isi o S.kc rfl (S.fr_isinstance) (j_cons (m_var 1) (j_cons (m_cls rfl S.gc_Program) j_nil))) (m_one (m_M (RcM.op (rcM_tup rfl (RcM.eqM rfl S.kc (rcM_ins E_Round.to))) (hr.mono (by decide)) rfl) (m_fld o S.kc S.na_own_rounds (v_e (m_var 0))) (m_fld o S.kc S.na_own_rounds (v_e (m_var 1))))))))
  exact ⟨_, fd, ⟨hF, me.at_, me.fn, bi⟩⟩
theorem sc_law : FnScope ["_law_script", "_law_draw", "_law_page", "_law_made", "_law_bad", "_law_row", "_law_head", "_law_due", "_law_error", "_law_odd", "<tab0>"] ["_law_script"] (defScope (top 46)) := ⟨rfl, rfl, rfl, by decide +kernel, rfl, by decide +kernel, by decide +kernel⟩
theorem k_law (hP : P = prog) (Y : Sy faL fnL exL K mg) : ∃ fd, (∀ nm ∈ NMS, ∃ (fb : Addr) (ob : Obj) (fd0 : FuncData) (c : Addr) (oc : Obj) (vs : Array Value), mg nm = some (.ref fb) ∧ fb = He.fAd K (nm, none) ∧ K.lookup fb = some ob ∧ ob.data = .func fd0 ∧ fd0.code = .ref c ∧ K.lookup c = some oc ∧ oc.data = .fields vs) ∧ (∀ (s : Shared) (v : Value), BindsTo s fd ⟨[v], []⟩ [("_law_script", v)]) ∧ ∀ base : Heap, (∀ q ∈ ctOf K NMS, LamX.TabB base mg q.1 q.2) → FnG P w K mg base (L2.CX P w) 12 (He.ga K "law") fd ["_law_script"] (spT (gx K none) 1 fn_law) := by
  obtain ⟨fd, F⟩ := Y.def_ 32 (d := dm_law) rfl
  obtain ⟨fdt0, FT0⟩ := Y.def_ 32 (d := dm_law) rfl
  refine ⟨fd, List.forall_mem_cons.mpr ⟨tab_fact (Y.glo 29 (x := "law") rfl) rfl (law_code FT0), fun _ h => nomatch h⟩, fun s v => FunD.bindsA (ps := ["_law_script"]) F (fun _ _ _ _ _ _ us hl => match us, hl with | [_], _ => rfl) s [v] rfl, fun base TB => ?_⟩
  have S := sx_of (P := P) (w := w) (base := base) (cl := none) hP Y
  have sc := sc_law
  have F__law_bad_heads := k__law_bad_heads (P := P) (w := w) (base := base) Y S
  have F__law_bad_rules := k__law_bad_rules (P := P) (w := w) (base := base) Y S
  have F__law_begun := k__law_begun (P := P) (w := w) (base := base) Y S
  have F__law_caught := k__law_caught (P := P) (w := w) (base := base) Y S
  have F__law_good := k__law_good (P := P) (w := w) (base := base) Y S
  have F__law_pick := k__law_pick (P := P) (w := w) (base := base) Y S
  have F_program_text := k_program_text (P := P) (w := w) (base := base) Y S
  have F_read_program := k_read_program (P := P) (w := w) (base := base) Y S
  have FO__law_bad_heads := kO__law_bad_heads (P := P) (w := w) (base := base) Y S
  have FK_0 := kk_0 (P := P) (w := w) (base := base) Y S
  obtain ⟨fe_Program, fde_Program, E_Program⟩ := k_Program__eq__ (P := P) (w := w) (base := base) Y S
  have hF : FnG P w K mg base (L2.CX P w) 12 (dm_law.adr K) fd ["_law_script"] (spT (gx K none) 1 fn_law) := by
    refine fn_okT (G := gx K none) (G' := fun _ => (gx K none)) (N := ["_law_script", "_law_draw", "_law_page", "_law_made", "_law_bad", "_law_row", "_law_head", "_law_due", "_law_error", "_law_odd", "<tab0>"]) (d := dm_law) (k := 11) (nt := 1) (body := b_law) F sc (by decide) (List.forall_mem_cons.mpr ⟨(by rintro (h | h | h) <;> exact absurd h (by decide +kernel)), (fun _ h => nomatch h)⟩) (fun _ _ _ _ _ h => h) fun A outer s H E cdv hcd hG hr => ?_
    have lc : LamC (cxOf (L2.CX P w) P w K mg base ["_law_script", "_law_draw", "_law_page", "_law_made", "_law_bad", "_law_row", "_law_head", "_law_due", "_law_error", "_law_odd", "<tab0>"] dm_law.qual (defScope dm_law.st) (dm_law.adr K) cdv A outer s H E) (gx K none) 0 := ⟨⟨_, hcd "law" rfl, TB _ (List.mem_of_getElem? (i := 0) rfl)⟩, rfl⟩
    have o : Ok (cxOf (L2.CX P w) P w K mg base ["_law_script", "_law_draw", "_law_page", "_law_made", "_law_bad", "_law_row", "_law_head", "_law_due", "_law_error", "_law_odd", "<tab0>"] dm_law.qual (defScope dm_law.st) (dm_law.adr K) cdv A outer s H E) (gx K none) (fun cls d _ H => E cls d H) := ok_of hr rfl
    have hpa : PassesOwn (model P w) _ _ _ := passes_of (X := cxOf (L2.CX P w) P w K mg base ["_law_script", "_law_draw", "_law_page", "_law_made", "_law_bad", "_law_row", "_law_head", "_law_due", "_law_error", "_law_odd", "<tab0>"] dm_law.qual (defScope dm_law.st) (dm_law.adr K) cdv A outer s H E) rfl
    exact (b_cons (s_setO 1 sc.nd (o_begM o F__law_begun (hr.mono (by decide)) (m_var 0)))
      (b_cons (s_for o hpa (i_seq o (m_callM0 o F__law_good (hr.mono (by decide)))) (g_tup o (gs_cons (g_name 2 sc.nd) (gs_cons (g_name 3 sc.nd) gs_nil))) (b_one (s_if (n_w (w_or (n_M (RcM.op (rcM_insN E_Program.to (S.kc.hm _ (by decide)) S.ne_Program) (hr.mono (by decide)) rfl) (m_callM o F_read_program (hr.mono (by decide)) (j_cons (m_var 2) j_nil)) (m_var 3)) (w_or1 (n_ne o (m_callM o F_program_text (hr.mono (by decide)) (j_cons (m_var 3) j_nil)) (m_var 2))))) (b_one (s_ret m_bl)) b_nil)))
      (b_cons (s_setM 4 sc.nd (x_callM0 o FO__law_bad_heads (hr.mono (by decide))))
      (b_cons (s_for o hpa (i_seq o (m_callM0 o F__law_bad_rules (hr.mono (by decide)))) (g_name 5 sc.nd) (b_cons (s_setO 4 sc.nd (o_cat (v_s 4) (v_e (m_lst (a_cons (m_tup (a_cons (m_add4 o (m_add4 o m_str (m_var 5)) m_str) (a_cons m_int a_nil))) (a_cons (m_tup (a_cons (m_add4 o (m_add4 o m_str (m_var 5)) m_str) (a_cons m_int a_nil))) a_nil))))))
      (b_one (s_app o 4 (m_tup (a_cons (m_add4 o (m_add4 o m_str (m_var 5)) m_str) (a_cons m_int a_nil)))))))
      (b_cons (s_set 6 sc.nd m_str)
      (b_cons (s_setO 4 sc.nd (o_cat (v_s 4) (v_e (m_lst (a_cons (m_tup (a_cons (m_add4 o (m_var 6) m_str) (a_cons m_int a_nil))) (a_cons (m_tup (a_cons (m_add4 o (m_var 6) m_str) (a_cons m_int a_nil))) a_nil))))))
      (b_cons (s_app o 4 (m_tup (a_cons (m_add4 o (m_var 6) m_str) (a_cons m_int a_nil))))
      (b_cons (s_setO 4 sc.nd (o_cat (v_s 4) (v_e (m_lst (a_cons (m_tup (a_cons m_str (a_cons m_int a_nil))) (a_cons (m_tup (a_cons m_str (a_cons m_int a_nil))) a_nil))))))
      (b_cons (s_app o 4 (m_tup (a_cons m_str (a_cons m_int a_nil))))
      (b_cons (s_app o 4 (m_tup (a_cons (m_add4 o (m_var 6) m_str) (a_cons m_int a_nil))))
      (b_cons (s_app o 4 (m_tup (a_cons m_str (a_cons m_int a_nil))))
      (b_cons (s_setO 4 sc.nd (o_cat (v_s 4) (v_e (m_lst (a_cons (m_tup (a_cons (m_add4 o (m_var 6) m_str) (a_cons m_int a_nil))) a_nil)))))
      (b_cons (s_for o hpa (i_seq o (m_mv 4)) (g_tup o (gs_cons (g_name 2 sc.nd) (gs_cons (g_name 7 sc.nd) gs_nil))) (b_cons (s_set 8 sc.nd (m_lamcall o (ti := 0) lc (i := 10) (kL := 9) (fw := some) F__law_caught (hr.mono (by decide)) (fun c h => S.er.xm c (of_decide_eq_true h)) (LamX.lamS_by (by kernel_rfl)) (fun A outer s1 H1 E f c2 hrL => (m_callM (ok_lam hrL o) F_read_program (hrL.mono (by decide)) (j_cons (m_var 2) j_nil)))))
      (b_one (s_if (n_w (w_or (n_not (n_truth o (m_isX o S.er rfl (S.fr_isinstance) (j_cons (m_var 8) (j_cons (m_cls rfl S.gc_BadText) j_nil))))) (w_or1 (n_ne o (m_reprX o hG rfl 10 rfl (S.fr_repr) (m_fldX o S.er S.ne_at (v_e (m_var 8)))) (m_reprX o hG rfl 10 rfl (S.fr_repr) (m_var 7)))))) (b_one (s_ret m_bl)) b_nil))))
      (b_cons (s_for o hpa (i_seq o (m_lst (a_cons m_non (a_cons m_str (a_cons m_int (a_cons m_bl (a_cons (m_lst a_nil) (a_cons (m_tup a_nil) (a_cons (m_frz o_dict0 (fun _ _ _ h => by cases h; rfl)) (a_cons (m_lst (a_cons m_str a_nil)) (a_cons (m_callM o F__law_pick (hr.mono (by decide)) (j_slot 1 (j_cons (m_lst (a_cons m_int (a_cons (m_tup (a_cons m_int (a_cons m_int a_nil))) (a_cons (m_neg m_int) a_nil)))) j_nil))) a_nil))))))))))) (g_name 9 sc.nd) (b_cons (s_set 8 sc.nd (m_lamcall o (ti := 0) lc (i := 10) (kL := 9) (fw := some) F__law_caught (hr.mono (by decide)) (fun c h => S.er.xm c (of_decide_eq_true h)) (LamX.lamS_by (by kernel_rfl)) (fun A outer s1 H1 E f c2 hrL => (m_callK0 (ok_lam hrL o) FK_0 (hrL.mono (by decide)) (k_cons (m_var 9) k_nil) (l_cons l_nil)))))
      (b_one (s_if (n_w (w_or (n_not (n_truth o (m_isX o S.er rfl (S.fr_isinstance) (j_cons (m_var 8) (j_cons (m_cls rfl S.gc_BadText) j_nil))))) (w_or1 (n_ne o (m_reprX o hG rfl 10 rfl (S.fr_repr) (m_fldX o S.er S.ne_at (v_e (m_var 8)))) m_str)))) (b_one (s_ret m_bl)) b_nil))))
      (b_one (s_ret m_bl))))))))))))))))
  exact hF
end
end K89
end MR
set_option maxRecDepth 100000
set_option maxHeartbeats 4000000
/-! PureA: plain lemmas about mirrors. -/
namespace MR
/-- the draw's values -/
def IsDrw : IV → Prop
  | .drw _ _ _ _ => True
  | _ => False
theorem take_ok {d : IV} (h : IsDrw d) {n : Int} (h0 : 0 < n) (h1 : n < 1073741824) : ∃ r d', takeF [d, .int n] = .ok (.int r) [d'] ∧ IsDrw d' ∧ 0 ≤ r ∧ r < n := by
  cases d with
  | drw lg cl rest turn =>
    unfold takeF
    simp only [h0, h1, and_self, if_true]
    by_cases hr : rest = 0
    · rw [if_pos hr]
      cases lg with
      | nil => exact ⟨_, _, rfl, trivial, Int.emod_nonneg _ (by omega), Int.emod_lt_of_pos _ h0⟩
      | cons g lg => exact ⟨_, _, rfl, trivial, Int.emod_nonneg _ (by omega), Int.emod_lt_of_pos _ h0⟩
    · rw [if_neg hr]
      exact ⟨_, _, rfl, trivial, Int.emod_nonneg _ (by omega), Int.emod_lt_of_pos _ h0⟩
  | _ => exact h.elim
/-! stepwise evaluation -/
theorem ev_seq {a b : S} {ρ ρ1 : Env} (h : a ρ = .nx ρ1) : sSeq a b ρ = b ρ1 := by
  unfold sSeq
  rw [h]
theorem ev_set {i : Nat} {m : E} {ρ ρ1 : Env} {d : IV} (h : m ρ = .ok d ρ1) : sSet i m ρ = .nx (ρ1.set i (.fz d)) := by
  unfold sSet
  rw [h]
  rfl
end MR
set_option maxRecDepth 100000
set_option maxHeartbeats 4000000
namespace MR
open PySem
namespace K89
def tests : List IV := [.tup [.str "more", .tup [.int 0, .int 1]], .tup [.str "more", .tup [.int 1, .int 3]], .tup [.str "more", .tup [.int 1, .int 2]], .tup [.str "more", .tup [.int 2, .int 3]], .tup [.str "most"], .tup [.str "least"], .tup [.str "alone"], .tup [.str "given", .int 0], .tup [.str "given", .int 1]]
def deeds : List IV := [.tup [.str "settle"], .tup [.str "settle", .str "value"], .tup [.str "value"], .tup [.str "mark"]]
/-- a rule that may stand -/
def IsRule (r : IV) : Prop := ∃ t ∈ tests, ∃ d ∈ deeds, r = .tup [t, d]
theorem x_pick {d : IV} (hd : IsDrw d) {xs : List IV} (h0 : xs ≠ []) (h1 : xs.length < 1000) : ∃ x d', x ∈ xs ∧ fn__law_pick [d, .lst xs] = .ok x [d'] ∧ IsDrw d' := by
  have hl : 0 < xs.length := List.length_pos_iff.mpr h0
  obtain ⟨r, d', e, hd', r0, r1⟩ := take_ok hd (n := (xs.length : Int)) (by omega) (by omega)
  have hr : r.toNat < xs.length := by omega
  refine ⟨xs[r.toNat], d', List.getElem_mem _, ?_, hd'⟩
  have ei : L2.atI xs r = some xs[r.toNat] := by
    unfold L2.atI L2.ixN
    rw [if_pos r0, if_pos r1]
    simp [List.getElem?_eq_getElem hr]
  simp [fn__law_pick, b__law_pick, fn__law_take, e, oIt, oIx, seqOf, ei, fLen, fnOf, envOf, List.replicate, sSeq, sSet, sSetO, sIf, sRet, sNx, sNo, sDrop, sAsg, sApp, sSub, sPar2, slK, Rz.bindS, Rz.bind, iVar, iMv, iC, iBin, iCmp, iAnd, iOr, iNot, iAndT, iOrT, iNotT, iTest, iIf, iTup, iLst, iNil, iCons, iCallF, jNil, jCons, jSlot, vE, vS, iSl, pNone, pSome, callF, gather, slots, scatter, iCallJ, rsA, rs, canRd, ofO, outsOf, tgN, tgT, tgs]
def ldeeds : List IV := [.tup [.str "settle"], .tup [.str "settle", .str "value"], .tup [.str "value"]]
def IsLRule (r : IV) : Prop := ∃ t ∈ tests, ∃ d ∈ ldeeds, r = .tup [t, d]
theorem IsLRule.rule {r : IV} (h : IsLRule r) : IsRule r := by
  obtain ⟨t, ht, d, hd, rfl⟩ := h
  exact ⟨t, ht, d, by simp only [ldeeds, deeds, List.mem_cons, List.not_mem_nil, or_false] at hd ⊢; rcases hd with h | h | h <;> simp [h], rfl⟩
/-- a part of a model -/
def part (a : IV) (rl : List IV) (b : Bool) : IV := .dic [(.inr "asks", a), (.inr "rules", .lst rl), (.inr "sure", .bl b)]
/-- a Round, as it is made -/
def mkR (a : IV) (rl : List IV) (b : Bool) : IV := .ins "Round" [("own_asks", a), ("own_rules", .tup rl), ("own_sure", .bl b)]
end K89
end MR
set_option maxRecDepth 100000
set_option maxHeartbeats 4000000
/-! PureB: comparing, plainly. -/
namespace MR
open PySem
mutual
theorem same_eq : ∀ (x y : IV), same x y = true → x = y
  | .non, y, h => by cases y <;> first | rfl | simp [same] at h
  | .bl a, y, h => by cases y <;> first | (simp [same] at h; rw [h]) | simp [same] at h
  | .int a, y, h => by cases y <;> first | (simp [same] at h; rw [h]) | simp [same] at h
  | .str a, y, h => by cases y <;> first | (simp [same] at h; rw [h]) | simp [same] at h
  | .ty a, y, h => by cases y <;> simp [same] at h
  | .cl a, y, h => by cases y <;> simp [same] at h
  | .scr a, y, h => by cases y <;> simp [same] at h
  | .dic a, y, h => by cases y <;> simp [same] at h
  | .drw _ _ _ _, y, h => by cases y <;> simp [same] at h
  | .tup xs, y, h => by
    cases y with
    | tup ys => rw [sameA_eq xs ys (by simpa only [same] using h)]
    | _ => simp [same] at h
  | .lst xs, y, h => by
    cases y with
    | lst ys => rw [sameA_eq xs ys (by simpa only [same] using h)]
    | _ => simp [same] at h
  | .ins c f, y, h => by
    cases y with
    | ins c' f' =>
      simp only [same, Bool.and_eq_true] at h
      rw [sameP_eq f f' h.2, eq_of_beq h.1]
    | _ => simp [same] at h
theorem sameA_eq : ∀ (x y : List IV), sameA x y = true → x = y
  | [], [], _ => rfl
  | [], _ :: _, h => by simp [sameA] at h
  | _ :: _, [], h => by simp [sameA] at h
  | x :: xs, y :: ys, h => by
    simp only [sameA, Bool.and_eq_true] at h
    rw [same_eq x y h.1, sameA_eq xs ys h.2]
theorem sameP_eq : ∀ (x y : List (Str × IV)), sameP x y = true → x = y
  | [], [], _ => rfl
  | [], _ :: _, h => by simp [sameP] at h
  | _ :: _, [], h => by simp [sameP] at h
  | (k, x) :: xs, (k', y) :: ys, h => by
    simp only [sameP, Bool.and_eq_true] at h
    rw [same_eq x y h.1.2, sameP_eq xs ys h.2, eq_of_beq h.1.1]
end
theorem shp_lay {x : IV} (h : shp x = true) : (pd x).canLay0 = true := by
  simp only [shp, SeqAt.shaped, Bool.and_eq_true] at h
  exact h.2.1
theorem oNe_refl {x : IV} (h : shp x = true) : oNe x x = some (.bl false) := by
  unfold oNe
  rw [if_pos (by rw [h]; rfl), SeqAt.eqv_refl _ (shp_lay h)]
  rfl
end MR
set_option maxRecDepth 100000
set_option maxHeartbeats 4000000
/-! PureC: plain lemmas about calls, arguments, comprehensions over one slot, sets that are sorted. -/
namespace MR
open PySem
/-! arguments -/
theorem ev_c (d : IV) (ρ : Env) : iC d ρ = .ok d ρ := rfl
theorem ev_ic {A : E} {B : EA} {ρ ρ1 ρ2 : Env} {x : IV} {xs : List IV} (hA : A ρ = .ok x ρ1) (hB : B ρ1 = .ok xs ρ2) : iCons A B ρ = .ok (x :: xs) ρ2 := by
  unfold iCons
  rw [hA]
  simp only [Rz.bind]
  rw [hB]
theorem ev_lst {A : EA} {ρ ρ1 : Env} {xs : List IV} (hA : A ρ = .ok xs ρ1) (hl : xs.length ≤ 1000) : iLst A ρ = .ok (.lst xs) ρ1 := by
  unfold iLst
  rw [hA]
  simp only [Rz.bind]
  rw [if_pos hl]
/-! calls of own defs by values -/
theorem gather_v (ρ : Env) : ∀ (ds : List IV), gather (ds.map fun _ => false) (ds.map Av.v) ρ = some ds
  | [] => rfl
  | d :: ds => by
    rw [List.map_cons, List.map_cons, gather, gather_v ρ ds]
    rfl
theorem scatter_v (ρ : Env) : ∀ (ds : List IV), scatter (ds.map fun _ => false) (ds.map Av.v) [] ρ = some ρ
  | [] => rfl
  | d :: ds => by
    rw [List.map_cons, List.map_cons, scatter, scatter_v ρ ds]
theorem slots_v : ∀ (ds : List IV), slots (ds.map Av.v) = []
  | [] => rfl
  | d :: ds => by
    rw [List.map_cons, slots, slots_v ds]
theorem ev_seqE {A : E} {ρ ρ1 : Env} {x : IV} {xs : List IV} (hA : A ρ = .ok x ρ1) (hx : x = .lst xs ∨ x = .tup xs) : iSeq A ρ = .ok xs ρ1 := by
  unfold iSeq
  rw [hA]
  rcases hx with rfl | rfl <;> rfl
theorem ev_for {M : EL} {t : TM} {body : S} {ρ ρ1 : Env} {xs : List IV} (h : M ρ = .ok xs ρ1) : sFor M t body ρ = forLoop t body xs ρ1 := by
  unfold sFor
  rw [h]
  rfl
/-! loops that keep a fact about the slots -/
theorem for_W {W : Env → Prop} {i : Nat} {body : S} : ∀ {ds : List IV}, (∀ d ∈ ds, ∀ ρ, W ρ → ∃ ρ', (body (ρ.set i (.fz d)) = .nx ρ' ∨ body (ρ.set i (.fz d)) = .ct ρ') ∧ W ρ') → ∀ ρ, W ρ → ∃ ρ', forLoop (tgN i) body ds ρ = .nx ρ' ∧ W ρ'
  | [], _, ρ, h => ⟨ρ, rfl, h⟩
  | d :: ds, hs, ρ, h => by
    obtain ⟨ρ1, e1, h1⟩ := hs d List.mem_cons_self ρ h
    obtain ⟨ρ2, e2, h2⟩ := for_W (fun x hx => hs x (List.mem_cons_of_mem _ hx)) ρ1 h1
    refine ⟨ρ2, ?_, h2⟩
    rcases e1 with e1 | e1 <;> simp only [forLoop, tgN, e1] <;> exact e2
/-! comprehensions over one slot -/
/-! sets that are sorted -/
end MR
set_option maxRecDepth 100000
set_option maxHeartbeats 4000000
/-! PureR: repr of tuples and lists, plainly. -/
namespace MR
open PySem PySem.PyData
theorem sok_app {a b : PySem.Str} (ha : strOk a = true) (hb : strOk b = true) : strOk (a ++ b) = true := by
  have e : (a ++ b).cps = a.cps ++ b.cps := rfl
  unfold strOk at ha hb ⊢
  rw [e, Array.all_append, ha, hb]
  rfl
theorem sok_join {sep : PySem.Str} (hs : strOk sep = true) : ∀ ts : List PySem.Str, (∀ t ∈ ts, strOk t = true) → strOk (Str.join sep ts) = true
  | [], _ => by unfold Str.join; kernel_rfl
  | [x], h => h x List.mem_cons_self
  | x :: y :: r, h => by
    show strOk (x ++ sep ++ Str.join sep (y :: r)) = true
    exact sok_app (sok_app (h x List.mem_cons_self) hs) (sok_join hs (y :: r) fun t ht => h t (List.mem_cons_of_mem _ ht))
theorem slen_app (a b : PySem.Str) : (a ++ b).length = a.length + b.length := strLen_append a b
/-- can be shown: at most so long, at most so deep -/
structure Rok (L D : Nat) (x : IV) : Prop where
  pl : pln x = true
  sh : (pd x).showable = true
  nd : (pd x).hasDict = false
  ln : (pd x).shown.length ≤ L
  dp : (pd x).depth ≤ D
  ok : strOk (pd x).shown = true
theorem Rok.mono {L L' D D' : Nat} {x : IV} (h : Rok L D x) (hl : L ≤ L') (hd : D ≤ D') : Rok L' D' x := ⟨h.pl, h.sh, h.nd, Nat.le_trans h.ln hl, Nat.le_trans h.dp hd, h.ok⟩
def rokB (L D : Nat) (x : IV) : Bool := pln x && ((pd x).showable && (!(pd x).hasDict && (decide ((pd x).shown.length ≤ L) && (decide ((pd x).depth ≤ D) && strOk (pd x).shown))))
theorem Rok.of {L D : Nat} {x : IV} (h : rokB L D x = true) : Rok L D x := by
  simp only [rokB, Bool.and_eq_true, decide_eq_true_eq, Bool.not_eq_true'] at h
  exact ⟨h.1, h.2.1, h.2.2.1, h.2.2.2.1, h.2.2.2.2.1, h.2.2.2.2.2⟩
structure RokA (L D : Nat) (xs : List IV) : Prop where
  pl : plnA xs = true
  sh : showableAll (pdA xs) = true
  nd : hasDictAll (pdA xs) = false
  ln : piled (shownAll (pdA xs)) ≤ xs.length * (L + 2)
  dp : depthAll (pdA xs) ≤ D
  ok : ∀ t ∈ shownAll (pdA xs), strOk t = true
  nn : (shownAll (pdA xs)).length = xs.length
theorem RokA.of {L D : Nat} : ∀ {xs : List IV}, (∀ x ∈ xs, Rok L D x) → RokA L D xs
  | [], _ => ⟨rfl, rfl, rfl, by simp [pdA, shownAll, piled], Nat.zero_le _, fun t h => by simp [pdA, shownAll] at h, rfl⟩
  | x :: xs, h => by
    have a := h x List.mem_cons_self
    have b := RokA.of fun y hy => h y (List.mem_cons_of_mem _ hy)
    refine ⟨by simp [plnA, a.pl, b.pl], by simp [pdA, showableAll, a.sh, b.sh], by simp [pdA, hasDictAll, a.nd, b.nd], ?_, ?_, ?_, ?_⟩
    · have := a.ln
      have := b.ln
      simp only [pdA, shownAll, piled_cons, List.length_cons, Nat.succ_mul]
      omega
    · simp only [pdA, depthAll]
      exact Nat.max_le.mpr ⟨a.dp, b.dp⟩
    · intro t ht
      simp only [pdA, shownAll, List.mem_cons] at ht
      rcases ht with e | e
      · rw [e]; exact a.ok
      · exact b.ok t e
    · simp only [pdA, shownAll, List.length_cons, b.nn]
theorem join_len_le (ts : List PySem.Str) : (Str.join ", " ts).length ≤ piled ts := by
  cases ts with
  | nil => exact Nat.le_refl _
  | cons x l => have := join_length_add (x :: l) (by simp); omega
theorem Rok.tup {L D n : Nat} {xs : List IV} (h : ∀ x ∈ xs, Rok L D x) (hn : xs.length ≤ n) : Rok (n * (L + 2) + 3) (D + 1) (.tup xs) := by
  have a := RokA.of h
  have hm : xs.length * (L + 2) ≤ n * (L + 2) := Nat.mul_le_mul_right _ hn
  refine ⟨by simpa only [pln] using a.pl, by simpa only [pd, showable] using a.sh, by simpa only [pd, hasDict] using a.nd, ?_, ?_, ?_⟩
  · simp only [pd, shown, tupleText]
    rw [slen_app, slen_app]
    have h1 := join_len_le (shownAll (pdA xs))
    have h2 := a.ln
    have e1 : ((("(" : String) : PySem.Str)).length = 1 := rfl
    have e3 : (((if (shownAll (pdA xs)).length == 1 then ",)" else ")" : String) : PySem.Str)).length ≤ 2 := by split <;> decide
    omega
  · simp only [pd, depth]
    have := a.dp
    omega
  · simp only [pd, shown, tupleText]
    refine sok_app (sok_app (by kernel_rfl) (sok_join (by kernel_rfl) _ a.ok)) ?_
    split <;> kernel_rfl
theorem Rok.lst {L D n : Nat} {xs : List IV} (h : ∀ x ∈ xs, Rok L D x) (hn : xs.length ≤ n) : Rok (n * (L + 2) + 3) (D + 1) (.lst xs) := by
  have a := RokA.of h
  have hm : xs.length * (L + 2) ≤ n * (L + 2) := Nat.mul_le_mul_right _ hn
  refine ⟨by simpa only [pln] using a.pl, by simpa only [pd, showable] using a.sh, by simpa only [pd, hasDict] using a.nd, ?_, ?_, ?_⟩
  · simp only [pd, shown, listText_eq_join]
    rw [slen_app, slen_app]
    have h1 := join_len_le (shownAll (pdA xs))
    have h2 := a.ln
    have e1 : ((("[" : String) : PySem.Str)).length = 1 := rfl
    have e3 : ((("]" : String) : PySem.Str)).length = 1 := rfl
    omega
  · simp only [pd, depth]
    have := a.dp
    omega
  · simp only [pd, shown, listText_eq_join]
    exact sok_app (sok_app (by kernel_rfl) (sok_join (by kernel_rfl) _ a.ok)) (by kernel_rfl)
theorem Rok.repr {L D : Nat} {x : IV} (h : Rok L D x) (hl : L ≤ 16777216) (hd : D ≤ 60) : ∃ s, fRepr [x] = some (.str s) ∧ oNe (.str s) (.str s) = some (.bl false) := by
  have hr : rpOk x = true := by
    unfold rpOk
    rw [h.pl, h.sh, h.nd, decide_eq_true (show (pd x).shown.length ≤ sizeLine from by rw [sizeLine_eq]; exact Nat.le_trans h.ln hl), decide_eq_true (Nat.le_trans h.dp hd)]
    rfl
  refine ⟨(pd x).shown, if_pos hr, oNe_refl ?_⟩
  have e : (shp (.str (pd x).shown)) = strOk (pd x).shown := by
    simp [shp, pln, pd, SeqAt.shaped, canLay0, depth]
  rw [e]
  exact h.ok
end MR
set_option maxRecDepth 100000
set_option maxHeartbeats 4000000
/-! PureO: outcomes compared, sought, shown; small ints shown. -/
namespace MR
open PySem
/-! small ints -/
end MR
set_option maxRecDepth 100000
set_option maxHeartbeats 4000000
/-! DkB: dicts whose keys are nested tuples: walks over keys and over items (the dict locked), d[k], k in d. -/
namespace NDict
open PySem PySem.Spec PyProof.Rows L2 NSet
section
variable {X : Cx} {pins : List (Addr × Obj)} {σ : L2.St} {H : Hp} {s : Shared} {d : Addr} {o : Obj}
end
section
variable {P : Program} {w : World} {K : PySem.W.Frag} {tg : Expr} {d : Addr} {o : Obj} {es : Array DictEntry} {ep : Nat}
end
section
variable {X : Cx} {tg e : Expr} {td ty : TE} {apos cpos pos : Pos}
/-! ### d[k], the dict locked or not -/
/-! ### k in d -/
end
end NDict
set_option maxRecDepth 100000
set_option maxHeartbeats 4000000
/-! MirNk: dicts whose keys are nested tuples. -/
namespace MR
open PySem PySem.Spec L2 PyProof.Rows NDict NSet
section
variable {X : Cx} {G : Gx} {W : WX} {σ : L2.St} {H : Hp} {F : AP1} {fp : FPt} {ρ : Env} {pin : List Nat}
/-! ### rows -/
def isK (k : NestedKey) (d : IV) : Bool := match kOf d with
  | some l => NestedKey.beq l k
  | none => false
theorem isK_dec {k l : NestedKey} {d : IV} (h : kOf d = some l) : isK k d = decide (l = k) := by
  unfold isK
  rw [h]
  dsimp only
  by_cases e : l = k
  · subst e
    rw [NestedKey.beq_self, decide_eq_true rfl]
  · rw [decide_eq_false e]
    cases hb : NestedKey.beq l k with
    | true => exact absurd (NestedKey.eq_of_beq _ _ hb) e
    | false => rfl
def lookN (k : NestedKey) : List IV → List IV → Option IV
  | dk :: ks, dv :: xs => if isK k dk = true then some dv else lookN k ks xs
  | _, _ => none
def setN (k : NestedKey) (v : IV) : List IV → List IV → List IV
  | dk :: ks, dv :: xs => (if isK k dk = true then v else dv) :: setN k v ks xs
  | _, xs => xs
def hasN (k : NestedKey) (ks : List IV) : Bool := ks.any (isK k)
def putNI (k : NestedKey) (dk v : IV) (ks xs : List IV) : List IV × List IV := if hasN k ks = true then (ks, setN k v ks xs) else (ks ++ [dk], xs ++ [v])
theorem FzN.len : ∀ {L : List DRow} {ks xs : List IV}, FzN G F H L ks xs → L.length = ks.length ∧ ks.length = xs.length
  | _, _, _, .nil => ⟨rfl, rfl⟩
  | _, _, _, .cons e z k v t => by
    have := FzN.len t
    simp only [List.length_cons]
    omega
theorem FzN.keys : ∀ {L : List DRow} {ks xs : List IV}, FzN G F H L ks xs → KeysOk G.K H L
  | _, _, _, .nil => fun r hr => by cases hr
  | _, _, _, .cons e z k v t => fun r hr => by
    rcases List.mem_cons.mp hr with rfl | hr
    · exact ⟨k.vkey e, z⟩
    · exact FzN.keys t r hr
theorem FzN.val (k : NestedKey) : ∀ {L : List DRow} {ks xs : List IV}, FzN G F H L ks xs → (valN L k = none ∧ lookN k ks xs = none) ∨ ∃ v d, valN L k = some v ∧ lookN k ks xs = some d ∧ Fz G F H v d
  | _, _, _, .nil => Or.inl ⟨rfl, rfl⟩
  | _, _, _, .cons (k := l) (L := L) e z hk hv t => by
    have hi := isK_dec (k := k) e
    unfold lookN
    by_cases c : l = k
    · rw [decide_eq_true c] at hi
      refine Or.inr ⟨_, _, ?_, by rw [if_pos hi], hv⟩
      unfold valN
      rw [List.find?_cons_of_pos (by simpa using c)]
      rfl
    · rw [decide_eq_false c] at hi
      have q : ∀ a v, valN ((l, a, v) :: L) k = valN L k := fun a v => by unfold valN; rw [List.find?_cons_of_neg (by simpa using c)]
      rw [q, if_neg (by rw [hi]; exact fun z => nomatch z)]
      exact FzN.val k t
theorem FzN.has (k : NestedKey) : ∀ {L : List DRow} {ks xs : List IV}, FzN G F H L ks xs → (L.any fun r => decide (r.1 = k)) = hasN k ks
  | _, _, _, .nil => rfl
  | _, _, _, .cons (k := l) e z hk hv t => by
    have q := FzN.has k t
    unfold hasN at q ⊢
    rw [List.any_cons, List.any_cons, q, isK_dec (k := k) e]
theorem FzN.map (k : NestedKey) {v : V} {d : IV} (r : Fz G F H v d) : ∀ {L : List DRow} {ks xs : List IV}, FzN G F H L ks xs → FzN G F H (L.map fun q => if q.1 = k then (q.1, q.2.1, v) else q) ks (setN k d ks xs)
  | _, _, _, .nil => .nil
  | _, _, _, .cons (k := l) e z hk hv t => by
    have hi := isK_dec (k := k) e
    rw [List.map_cons]
    unfold setN
    dsimp only
    by_cases c : l = k
    · rw [decide_eq_true c] at hi
      rw [if_pos c, if_pos hi]
      exact .cons e z hk r (FzN.map k r t)
    · rw [decide_eq_false c] at hi
      rw [if_neg c, if_neg (by rw [hi]; exact fun z => nomatch z)]
      exact .cons e z hk hv (FzN.map k r t)
theorem FzN.snoc {k : NestedKey} {p : Addr} {v : V} {dk d : IV} (e : kOf dk = some k) (z : k.depth ≤ 8) (hk : Fz G F H (.ref p) dk) (hv : Fz G F H v d) : ∀ {L : List DRow} {ks xs : List IV}, FzN G F H L ks xs → FzN G F H (L ++ [(k, p, v)]) (ks ++ [dk]) (xs ++ [d])
  | _, _, _, .nil => .cons e z hk hv .nil
  | _, _, _, .cons e1 z1 hk1 hv1 t => .cons e1 z1 hk1 hv1 (FzN.snoc e z hk hv t)
theorem FzN.put {k : NestedKey} {p : Addr} {v : V} {dk d : IV} (e : kOf dk = some k) (z : k.depth ≤ 8) (hk : Fz G F H (.ref p) dk) (hv : Fz G F H v d) {L : List DRow} {ks xs : List IV} (h : FzN G F H L ks xs) : FzN G F H (putN L k p v) (putNI k dk d ks xs).1 (putNI k dk d ks xs).2 := by
  unfold putN putNI
  rw [h.has k]
  split
  · exact h.map k hv
  · exact h.snoc e z hk hv
/-- the key of a tuple -/
def kT (d : IV) : Option NestedKey := match kOf d with
  | some (.tup l) => if (NestedKey.tup l).depth ≤ 8 then some (.tup l) else none
  | _ => none
theorem kT_of {d : IV} {k : NestedKey} (h : kT d = some k) : kOf d = some k ∧ k.depth ≤ 8 ∧ ∃ l, k = .tup l := by
  unfold kT at h
  split at h
  · rename_i l hl
    split at h
    · rename_i hz
      cases h
      exact ⟨hl, hz, _, rfl⟩
    · cases h
  · cases h
theorem Fz.kT {v : V} {d : IV} {k : NestedKey} (r : Fz G F H v d) (h : kT d = some k) : ∃ p, v = .ref p ∧ kOf d = some k ∧ k.depth ≤ 8 ∧ VKey G.K H (.ref p) k := by
  obtain ⟨h1, h2, l, rfl⟩ := kT_of h
  have q := r.vkey h1
  cases q with
  | @tup p vs ks a b => exact ⟨p, rfl, h1, h2, .tup a b⟩
/-! ### {} -/
/-! ### a dict that is given up is sealed: nobody changes it from now on -/
/-- behind the sealing of what one slot, or nobody yet, holds -/
theorem EnvR.sealed {p : Addr} {o : HO} (e : EnvR G F H σ ρ fp) (n1 : ¬ F p) (n2 : ¬ un fp p) (hm : ∀ u, H p = some u → ¬ Imm u) : EnvR G F (L2.upd H p o) σ ρ fp ∧ Stq H F (L2.upd H p o) F := by
  have k : ∀ a u, a ≠ p → H a = some u → L2.upd H p o a = some u := fun a u h1 h2 => by rw [upd_ne h1]; exact h2
  exact ⟨e.upd n1 n2 hm, fun a u h f => k a u (fun z => n1 (by rw [← z]; exact f)) h, fun a u h m => k a u (fun z => hm u (by rw [← z]; exact h) m) h, fun _ f => f⟩
/-! ### d[k] = v -/
/-! ### d[k], k in d -/
theorem Bz.kT {v : V} {d : IV} {k : NestedKey} (r : Bz G F H v d) (h : MR.kT d = some k) : ∃ p, v = .ref p ∧ kOf d = some k ∧ k.depth ≤ 8 ∧ VKey G.K H (.ref p) k := by
  cases r with
  | fz r => exact r.kT h
  | _ => simp [MR.kT, kOf] at h
/-! ### for x in d, for k, v in d.items(): d sealed -/
theorem FzN.at_ : ∀ {L : List DRow} {ks xs : List IV} {i : Nat} {r : DRow}, FzN G F H L ks xs → L[i]? = some r → ∃ dk dv, ks[i]? = some dk ∧ xs[i]? = some dv ∧ Fz G F H (.ref r.2.1) dk ∧ Fz G F H r.2.2 dv
  | _, _, _, _, _, .nil, e => by simp at e
  | _, _, _, 0, _, .cons e z hk hv t, h => by
    simp only [List.getElem?_cons_zero, Option.some.injEq] at h
    subst h
    exact ⟨_, _, rfl, rfl, hk, hv⟩
  | _, _, _, i + 1, _, .cons e z hk hv t, h => by
    simp only [List.getElem?_cons_succ] at h ⊢
    exact FzN.at_ t h
end
end MR
set_option maxRecDepth 100000
set_option maxHeartbeats 4000000
/-! MirNl: dicts whose keys are nested tuples: dict(pairs), displays, list(d), d.update(..). -/
namespace MR
open PySem PySem.Spec L2 PyProof.Rows NDict NSet
section
variable {X : Cx} {G : Gx} {W : WX} {σ : L2.St} {H : Hp} {F : AP1} {fp : FPt} {ρ : Env} {pin : List Nat} {pins : List (Addr × Obj)} {s : Shared}
/-! ### many stores -/
/-- rows that the mirror knows -/
inductive FzR (G : Gx) (F : AP1) (H : Hp) : List DRow → List (NestedKey × IV × IV) → Prop
  | nil : FzR G F H [] []
  | cons {k : NestedKey} {a : Addr} {v : V} {L : List DRow} {dk dv : IV} {ps : List (NestedKey × IV × IV)} : kOf dk = some k → k.depth ≤ 8 → Fz G F H (.ref a) dk → Fz G F H v dv → FzR G F H L ps → FzR G F H ((k, a, v) :: L) ((k, dk, dv) :: ps)
theorem FzR.len : ∀ {rows : List DRow} {ps : List (NestedKey × IV × IV)}, FzR G F H rows ps → rows.length = ps.length
  | _, _, .nil => rfl
  | _, _, .cons _ _ _ _ t => by rw [List.length_cons, List.length_cons, FzR.len t]
theorem FzR.mono {F' : AP1} {H' : Hp} (q : Stq H F H' F') : ∀ {rows : List DRow} {ps : List (NestedKey × IV × IV)}, FzR G F H rows ps → FzR G F' H' rows ps
  | _, _, .nil => .nil
  | _, _, .cons e z hk hv t => .cons e z (hk.mono q) (hv.mono q) (FzR.mono q t)
/-! ### dict(xs), xs a list of pairs -/
inductive PrsN (K : Frag) (H : Hp) : List Addr → List DRow → Prop
  | nil : PrsN K H [] []
  | cons {T b : Addr} {v : V} {k : NestedKey} {Ts : List Addr} {L : List DRow} : SqT K H T [.ref b, v] → VKey K H (.ref b) k → k.depth ≤ 8 → PrsN K H Ts L → PrsN K H (T :: Ts) ((k, b, v) :: L)
/-- the pairs of a list -/
def prsI : List IV → Option (List (NestedKey × IV × IV))
  | [] => some []
  | .tup [dk, dv] :: r => match kT dk, prsI r with
    | some k, some ps => some ((k, dk, dv) :: ps)
    | _, _ => none
  | _ => none
theorem FzA.prs : ∀ {vs : List V} {ds : List IV} {ps : List (NestedKey × IV × IV)}, FzA G F H vs ds → prsI ds = some ps → ∃ Ts L, vs = Ts.map V.ref ∧ PrsN G.K H Ts L ∧ FzR G F H L ps
  | _, _, _, .nil, h => by cases h; exact ⟨[], [], rfl, .nil, .nil⟩
  | _, _, _, .cons (ds := ds) hx t, h => by
    unfold prsI at h
    split at h
    · rename_i heq; cases heq
    · rename_i dk dv r heq
      cases heq
      split at h
      · rename_i k ps hk hps
        cases h
        obtain ⟨Ts, L, rfl, h1, h2⟩ := FzA.prs t hps
        cases hx with
        | @tup T vs _ hT ha hz =>
          cases ha with
          | cons ra rb =>
            cases rb with
            | cons ru rn =>
              cases rn
              obtain ⟨b, rfl, e1, e2, e3⟩ := ra.kT hk
              exact ⟨T :: Ts, _ :: L, rfl, .cons hT e3 e2 h1, .cons e1 e2 ra ru h2⟩
      · cases h
    · cases h
/-! ### {k: v, ..} -/
inductive RowsV (K : Frag) (H : Hp) : List (V × V) → List DRow → Prop
  | nil : RowsV K H [] []
  | cons {b : Addr} {v : V} {k : NestedKey} {ps : List (V × V)} {L : List DRow} : VKey K H (.ref b) k → k.depth ≤ 8 → RowsV K H ps L → RowsV K H ((.ref b, v) :: ps) ((k, b, v) :: L)
def rowsQ : List (IV × IV) → Option (List (NestedKey × IV × IV))
  | [] => some []
  | (dk, dv) :: r => match kT dk, rowsQ r with
    | some k, some ps => some ((k, dk, dv) :: ps)
    | _, _ => none
theorem FzQ.rows : ∀ {vs : List (V × V)} {ds : List (IV × IV)} {ps : List (NestedKey × IV × IV)}, FzQ G F H vs ds → rowsQ ds = some ps → ∃ L, RowsV G.K H vs L ∧ FzR G F H L ps ∧ L.length = ds.length
  | _, _, _, .nil, h => by cases h; exact ⟨[], .nil, .nil, rfl⟩
  | _, _, _, .cons h1 h2 t, h => by
    simp only [rowsQ] at h
    split at h
    · rename_i k rr g1 g2
      cases h
      obtain ⟨L, e1, e2, e3⟩ := FzQ.rows t g2
      obtain ⟨b, rfl, q1, q2, q3⟩ := h1.kT g1
      exact ⟨_ :: L, .cons q3 q2 e1, .cons q1 q2 h1 h2 e2, by rw [List.length_cons, List.length_cons, e3]⟩
    · cases h
/-! ### list(d) -/
/-! ### d.update(d2) -/
/-! ### a if c else b, its result new -/
end
end MR
set_option maxRecDepth 100000
set_option maxHeartbeats 4000000
/-! PureE: more plain lemmas about mirrors: calls with slots and tables, loops with a condition, repr, lambdas. -/
namespace MR
open PySem
theorem ev_cs {i : Nat} {ks : List Bool} {fn : Fn} {J : EAv} {ρ ρ1 : Env} {ds : List IV} {d d' v : IV} (hJ : J ρ = .ok (.s i :: ds.map Av.v) ρ1) (hk : ks = true :: ds.map fun _ => false) (hi : ρ1[i]? = some (.ow d)) (hf : fn (d :: ds) = .ok v [d']) : iCallF ks fn J ρ = .ok v (ρ1.set i (.ow d')) := by
  unfold iCallF
  rw [hJ]
  show callF _ _ _ _ = _
  unfold callF
  subst hk
  have g : gather (true :: ds.map fun _ => false) (.s i :: ds.map Av.v) ρ1 = some (d :: ds) := by
    simp only [gather, hi, gather_v]
    rfl
  rw [g]
  dsimp only
  have sl : slots (.s i :: ds.map Av.v) = [i] := by simp only [slots, slots_v]
  rw [sl, if_pos (by simp), hf]
  dsimp only
  have sc : scatter (true :: ds.map fun _ => false) (.s i :: ds.map Av.v) [d'] ρ1 = some (ρ1.set i (.ow d')) := by
    simp only [scatter, scatter_v]
  rw [sc]
theorem callF_ex {ks : List Bool} {fn : Fn} {J : EAv} {ρ : Env} {ds : List IV} (hJ : J ρ = .ok (ds.map Av.v) ρ) (hd : ks = ds.map fun _ => false) {c : String} {p : List (Str × IV)} (hf : fn ds = .ex c p []) : iCallF ks fn J ρ = .ex c p ρ := by
  unfold iCallF
  rw [hJ]
  show callF _ _ _ _ = _
  unfold callF
  rw [hd, gather_v, slots_v]
  dsimp only
  rw [if_pos List.nodup_nil, hf]
  dsimp only
  rw [scatter_v]
/-! tables, repr, lambdas -/
end MR
set_option maxRecDepth 100000
set_option maxHeartbeats 4000000
namespace MR
open PySem
namespace K89
/-! k89: texts laid by hand, by the kernel's reckoning -/
def lw_0 : S := (sSetO 1 (iBeg (iVar 0)))
def lw_1I : EL := (iSeq (iCallF [] fn__law_good jNil))
def lw_1B_0 : S := (sIf (iOrT (iCmp (oM neProgram) (iCallF [false] fn_read_program (jCons (iVar 2) jNil)) (iVar 3)) (iCmp oNe (iCallF [false] fn_program_text (jCons (iVar 3) jNil)) (iVar 2))) (sRet (iC (.bl false))) sNx)
def lw_1B : S := lw_1B_0
def lw_1 : S := (sFor lw_1I (tgT ((tgN 2) :: ((tgN 3) :: []))) lw_1B)
def lw_2 : S := (sSetM 4 (mCall [] fnO__law_bad_heads jNil))
def lw_3I : EL := (iSeq (iCallF [] fn__law_bad_rules jNil))
def lw_3B_0 : S := (sSetO 4 (iBinV oCat (vS 4) (vE (iLst (iCons (iTup (iCons (iBin oAdd4 (iBin oAdd4 (iC (.str "round 1/2 sure\n")) (iVar 5)) (iC (.str "\n"))) (iCons (iC (.int 1)) iNil))) (iCons (iTup (iCons (iBin oAdd4 (iBin oAdd4 (iC (.str "round 0 sure\nmost: value\n")) (iVar 5)) (iC (.str "\n"))) (iCons (iC (.int 2)) iNil))) iNil))))))
def lw_3B_1 : S := (sApp 4 (iTup (iCons (iBin oAdd4 (iBin oAdd4 (iC (.str "round 1/2 sure\nmore 1/2: mark\nround 0 sure\n")) (iVar 5)) (iC (.str "\nleast: value\n"))) (iCons (iC (.int 3)) iNil))))
def lw_3B : S := (sSeq lw_3B_0 lw_3B_1)
def lw_3 : S := (sFor lw_3I (tgN 5) lw_3B)
def lw_4 : S := (sSet 6 (iC (.str "round 1/2 sure\nmore 1/2: mark\n")))
def lw_5 : S := (sSetO 4 (iBinV oCat (vS 4) (vE (iLst (iCons (iTup (iCons (iBin oAdd4 (iVar 6) (iC (.str "most: value\n"))) (iCons (iC (.int 2)) iNil))) (iCons (iTup (iCons (iBin oAdd4 (iVar 6) (iC (.str "more 1/2: mark\n"))) (iCons (iC (.int 2)) iNil))) iNil))))))
def lw_6 : S := (sApp 4 (iTup (iCons (iBin oAdd4 (iVar 6) (iC (.str "round 0 sure\nmore 1/2: mark\n"))) (iCons (iC (.int 3)) iNil))))
def lw_7 : S := (sSetO 4 (iBinV oCat (vS 4) (vE (iLst (iCons (iTup (iCons (iC (.str "round 1/2 sure\nmost: value\nround 1/2 sure\n")) (iCons (iC (.int 2)) iNil))) (iCons (iTup (iCons (iC (.str "round 1/2 sure\nround 1/2 sure\n")) (iCons (iC (.int 1)) iNil))) iNil))))))
def lw_8 : S := (sApp 4 (iTup (iCons (iC (.str "round 1/2 sure\nmost: value\nmore 1/2: mark\n")) (iCons (iC (.int 2)) iNil))))
def lw_9 : S := (sApp 4 (iTup (iCons (iBin oAdd4 (iVar 6) (iC (.str "round 0 sure\nmost: value\nround 0 sure\n"))) (iCons (iC (.int 4)) iNil))))
def lw_10 : S := (sApp 4 (iTup (iCons (iC (.str "round 0 sure\nmost: value\nleast: value\nalone: value\ngiven 0: value\n")) (iCons (iC (.int 4)) iNil))))
def lw_11 : S := (sSetO 4 (iBinV oCat (vS 4) (vE (iLst (iCons (iTup (iCons (iBin oAdd4 (iVar 6) (iC (.str "round 0 sure\nmost: value\nleast: value\nalone: value\ngiven 0: value\n"))) (iCons (iC (.int 6)) iNil))) iNil)))))
def lw_12I : EL := (iSeq (iMv 4))
def lw_12B_0 : S := (sSet 8 (iLam 10 0 (fun c => decide (c ∈ ECS)) some (iCallF [false] fn_read_program (jCons (iVar 2) jNil))))
def lw_12B_1 : S := (sIf (iOrT (iNotT (iTest (iCallJ (fIsX ECS) (jCons (iVar 8) (jCons (iC (.cl "BadText")) jNil))))) (iCmp oNe (iRepr 10 (iFldX ECS (vE (iVar 8)) "at")) (iRepr 10 (iVar 7)))) (sRet (iC (.bl false))) sNx)
def lw_12B : S := (sSeq lw_12B_0 lw_12B_1)
def lw_12 : S := (sFor lw_12I (tgT ((tgN 2) :: ((tgN 7) :: []))) lw_12B)
def lw_13I : EL := (iSeq (iLst (iCons (iC .non) (iCons (iC (.str "")) (iCons (iC (.int 5)) (iCons (iC (.bl true)) (iCons (iLst iNil) (iCons (iTup iNil) (iCons (fun ρ => .ok (.dic []) ρ) (iCons (iLst (iCons (iC (.str "round 0 sure\nmost: value\n")) iNil)) (iCons (iCallF [true, false] fn__law_pick (jSlot 1 (jCons (iLst (iCons (iC (.int 0)) (iCons (iTup (iCons (iC (.int 0)) (iCons (iC (.int 1)) iNil))) (iCons (iNeg (iC (.int 1))) iNil)))) jNil))) iNil)))))))))))
def lw_13B_0 : S := (sSet 8 (iLam 10 0 (fun c => decide (c ∈ ECS)) some (iCallK 1 fn_read_program [0] iNil (iCons (iVar 9) iNil))))
def lw_13B_1 : S := (sIf (iOrT (iNotT (iTest (iCallJ (fIsX ECS) (jCons (iVar 8) (jCons (iC (.cl "BadText")) jNil))))) (iCmp oNe (iRepr 10 (iFldX ECS (vE (iVar 8)) "at")) (iC (.str "0")))) (sRet (iC (.bl false))) sNx)
def lw_13B : S := (sSeq lw_13B_0 lw_13B_1)
def lw_13 : S := (sFor lw_13I (tgN 9) lw_13B)
def lw_14 : S := (sRet (iC (.bl true)))
theorem lw_eq : b_law = (sSeq lw_0 (sSeq lw_1 (sSeq lw_2 (sSeq lw_3 (sSeq lw_4 (sSeq lw_5 (sSeq lw_6 (sSeq lw_7 (sSeq lw_8 (sSeq lw_9 (sSeq lw_10 (sSeq lw_11 (sSeq lw_12 (sSeq lw_13 lw_14)))))))))))))) := rfl
def isBT (k : Int) : Rf → Bool
  | .ex c [(n, .int i)] [] => decide (c = "BadText") && (decide (n = "at") && decide (i = k))
  | _ => false
theorem isBT_ok {k : Int} {r : Rf} (h : isBT k r = true) : r = .ex "BadText" [("at", .int k)] [] := by
  unfold isBT at h
  split at h
  · rw [Bool.and_eq_true, Bool.and_eq_true] at h
    rw [of_decide_eq_true h.1, of_decide_eq_true h.2.1, of_decide_eq_true h.2.2]
  · cases h
def okBad : IV → Bool
  | .tup [.str p, .int k] => isBT k (fn_read_program [.str p]) && (decide (0 ≤ k) && decide (k ≤ 6))
  | _ => false
theorem okBad_ok {x : IV} (h : okBad x = true) : ∃ (p : PySem.Str) (k : Int), x = .tup [.str p, .int k] ∧ fn_read_program [.str p] = .ex "BadText" [("at", .int k)] [] ∧ 0 ≤ k ∧ k ≤ 6 := by
  unfold okBad at h
  split at h
  · rw [Bool.and_eq_true, Bool.and_eq_true] at h
    exact ⟨_, _, rfl, isBT_ok h.1, of_decide_eq_true h.2.1, of_decide_eq_true h.2.2⟩
  · cases h
def bg_0 : List IV := [.tup [.str "most: value\n", .int 0], .tup [.str "round\nmost: value\n", .int 0], .tup [.str "round 1/2\n", .int 0], .tup [.str "round 1/2 sure sure\n", .int 0], .tup [.str "round 2/4 sure\n", .int 0], .tup [.str "\n", .int 0], .tup [.str "round 1/2 true\n", .int 0], .tup [.str "Round 1/2 sure\n", .int 0], .tup [.str " round 1/2 sure\n", .int 0], .tup [.str "round  1/2 sure\n", .int 0]]
def bg_1 : List IV := [.tup [.str "round 1 sure\n", .int 0], .tup [.str "round 0/1 sure\n", .int 0], .tup [.str "round 1/2 sure", .int 0], .tup [.str "sure 1/2 round\n", .int 0], .tup [.str "round 1/2 sure \n", .int 0], .tup [.str "round 1/2 sure\n", .int 1], .tup [.str "round 0 sure\nmost: value", .int 1], .tup [.str "round 1/2 sure\nmore 1/2: mark\n", .int 2], .tup [.str "round 0 sure\nmore 2/3: mark\nround 0 sure\n", .int 3], .tup [.str "round 1/2 sure\nmost value\n", .int 1]]
def bg_2 : List IV := [.tup [.str "round 0 sure\nmost: value\nmost value\n", .int 2], .tup [.str "round 1/2 sure\nmore 1/2: mark\nround 0 sure\nmost value\nleast: value\n", .int 3], .tup [.str "round 1/2 sure\nmost:value\n", .int 1], .tup [.str "round 0 sure\nmost: value\nmost:value\n", .int 2], .tup [.str "round 1/2 sure\nmore 1/2: mark\nround 0 sure\nmost:value\nleast: value\n", .int 3], .tup [.str "round 1/2 sure\nmost : value\n", .int 1], .tup [.str "round 0 sure\nmost: value\nmost : value\n", .int 2], .tup [.str "round 1/2 sure\nmore 1/2: mark\nround 0 sure\nmost : value\nleast: value\n", .int 3], .tup [.str "round 1/2 sure\nmost:  value\n", .int 1], .tup [.str "round 0 sure\nmost: value\nmost:  value\n", .int 2]]
def bg_3 : List IV := [.tup [.str "round 1/2 sure\nmore 1/2: mark\nround 0 sure\nmost:  value\nleast: value\n", .int 3], .tup [.str "round 1/2 sure\nmost: value settle\n", .int 1], .tup [.str "round 0 sure\nmost: value\nmost: value settle\n", .int 2], .tup [.str "round 1/2 sure\nmore 1/2: mark\nround 0 sure\nmost: value settle\nleast: value\n", .int 3], .tup [.str "round 1/2 sure\nmost: value value\n", .int 1], .tup [.str "round 0 sure\nmost: value\nmost: value value\n", .int 2], .tup [.str "round 1/2 sure\nmore 1/2: mark\nround 0 sure\nmost: value value\nleast: value\n", .int 3], .tup [.str "round 1/2 sure\nmost:\n", .int 1], .tup [.str "round 0 sure\nmost: value\nmost:\n", .int 2], .tup [.str "round 1/2 sure\nmore 1/2: mark\nround 0 sure\nmost:\nleast: value\n", .int 3]]
def bg_4 : List IV := [.tup [.str "round 1/2 sure\nmore: value\n", .int 1], .tup [.str "round 0 sure\nmost: value\nmore: value\n", .int 2], .tup [.str "round 1/2 sure\nmore 1/2: mark\nround 0 sure\nmore: value\nleast: value\n", .int 3], .tup [.str "round 1/2 sure\nmore 2/4: value\n", .int 1], .tup [.str "round 0 sure\nmost: value\nmore 2/4: value\n", .int 2], .tup [.str "round 1/2 sure\nmore 1/2: mark\nround 0 sure\nmore 2/4: value\nleast: value\n", .int 3], .tup [.str "round 1/2 sure\nmore 1: value\n", .int 1], .tup [.str "round 0 sure\nmost: value\nmore 1: value\n", .int 2], .tup [.str "round 1/2 sure\nmore 1/2: mark\nround 0 sure\nmore 1: value\nleast: value\n", .int 3], .tup [.str "round 1/2 sure\ngiven: value\n", .int 1]]
def bg_5 : List IV := [.tup [.str "round 0 sure\nmost: value\ngiven: value\n", .int 2], .tup [.str "round 1/2 sure\nmore 1/2: mark\nround 0 sure\ngiven: value\nleast: value\n", .int 3], .tup [.str "round 1/2 sure\ngiven 2: value\n", .int 1], .tup [.str "round 0 sure\nmost: value\ngiven 2: value\n", .int 2], .tup [.str "round 1/2 sure\nmore 1/2: mark\nround 0 sure\ngiven 2: value\nleast: value\n", .int 3], .tup [.str "round 1/2 sure\ngiven 01: value\n", .int 1], .tup [.str "round 0 sure\nmost: value\ngiven 01: value\n", .int 2], .tup [.str "round 1/2 sure\nmore 1/2: mark\nround 0 sure\ngiven 01: value\nleast: value\n", .int 3], .tup [.str "round 1/2 sure\nmost 1/2: value\n", .int 1], .tup [.str "round 0 sure\nmost: value\nmost 1/2: value\n", .int 2]]
def bg_6 : List IV := [.tup [.str "round 1/2 sure\nmore 1/2: mark\nround 0 sure\nmost 1/2: value\nleast: value\n", .int 3], .tup [.str "round 1/2 sure\nleast: mark\n", .int 1], .tup [.str "round 0 sure\nmost: value\nleast: mark\n", .int 2], .tup [.str "round 1/2 sure\nmore 1/2: mark\nround 0 sure\nleast: mark\nleast: value\n", .int 3], .tup [.str "round 1/2 sure\nmore 1/3: mark\n", .int 1], .tup [.str "round 0 sure\nmost: value\nmore 1/3: mark\n", .int 2], .tup [.str "round 1/2 sure\nmore 1/2: mark\nround 0 sure\nmore 1/3: mark\nleast: value\n", .int 3], .tup [.str "round 1/2 sure\nmore 1/2: mark settle\n", .int 1], .tup [.str "round 0 sure\nmost: value\nmore 1/2: mark settle\n", .int 2], .tup [.str "round 1/2 sure\nmore 1/2: mark\nround 0 sure\nmore 1/2: mark settle\nleast: value\n", .int 3]]
def bg_7 : List IV := [.tup [.str "round 1/2 sure\nalone: values\n", .int 1], .tup [.str "round 0 sure\nmost: value\nalone: values\n", .int 2], .tup [.str "round 1/2 sure\nmore 1/2: mark\nround 0 sure\nalone: values\nleast: value\n", .int 3], .tup [.str "round 1/2 sure\n: value\n", .int 1], .tup [.str "round 0 sure\nmost: value\n: value\n", .int 2], .tup [.str "round 1/2 sure\nmore 1/2: mark\nround 0 sure\n: value\nleast: value\n", .int 3], .tup [.str "round 1/2 sure\nmost: most: value\n", .int 1], .tup [.str "round 0 sure\nmost: value\nmost: most: value\n", .int 2], .tup [.str "round 1/2 sure\nmore 1/2: mark\nround 0 sure\nmost: most: value\nleast: value\n", .int 3], .tup [.str "round 1/2 sure\nvalue: most\n", .int 1]]
def bg_8 : List IV := [.tup [.str "round 0 sure\nmost: value\nvalue: most\n", .int 2], .tup [.str "round 1/2 sure\nmore 1/2: mark\nround 0 sure\nvalue: most\nleast: value\n", .int 3], .tup [.str "round 1/2 sure\nmost: value \n", .int 1], .tup [.str "round 0 sure\nmost: value\nmost: value \n", .int 2], .tup [.str "round 1/2 sure\nmore 1/2: mark\nround 0 sure\nmost: value \nleast: value\n", .int 3], .tup [.str "round 1/2 sure\n most: value\n", .int 1], .tup [.str "round 0 sure\nmost: value\n most: value\n", .int 2], .tup [.str "round 1/2 sure\nmore 1/2: mark\nround 0 sure\n most: value\nleast: value\n", .int 3], .tup [.str "round 1/2 sure\nMost: value\n", .int 1], .tup [.str "round 0 sure\nmost: value\nMost: value\n", .int 2]]
def bg_9 : List IV := [.tup [.str "round 1/2 sure\nmore 1/2: mark\nround 0 sure\nMost: value\nleast: value\n", .int 3], .tup [.str "round 1/2 sure\n\n", .int 1], .tup [.str "round 0 sure\nmost: value\n\n", .int 2], .tup [.str "round 1/2 sure\nmore 1/2: mark\nround 0 sure\n\nleast: value\n", .int 3], .tup [.str "round 1/2 sure\nmost: \n", .int 1], .tup [.str "round 0 sure\nmost: value\nmost: \n", .int 2], .tup [.str "round 1/2 sure\nmore 1/2: mark\nround 0 sure\nmost: \nleast: value\n", .int 3], .tup [.str "round 1/2 sure\nround\n", .int 1], .tup [.str "round 0 sure\nmost: value\nround\n", .int 2], .tup [.str "round 1/2 sure\nmore 1/2: mark\nround 0 sure\nround\nleast: value\n", .int 3]]
def bg_10 : List IV := [.tup [.str "round 1/2 sure\nmore 1/2: mark\nmost: value\n", .int 2], .tup [.str "round 1/2 sure\nmore 1/2: mark\nmore 1/2: mark\n", .int 2], .tup [.str "round 1/2 sure\nmore 1/2: mark\nround 0 sure\nmore 1/2: mark\n", .int 3], .tup [.str "round 1/2 sure\nmost: value\nround 1/2 sure\n", .int 2], .tup [.str "round 1/2 sure\nround 1/2 sure\n", .int 1], .tup [.str "round 1/2 sure\nmost: value\nmore 1/2: mark\n", .int 2], .tup [.str "round 1/2 sure\nmore 1/2: mark\nround 0 sure\nmost: value\nround 0 sure\n", .int 4], .tup [.str "round 0 sure\nmost: value\nleast: value\nalone: value\ngiven 0: value\n", .int 4], .tup [.str "round 1/2 sure\nmore 1/2: mark\nround 0 sure\nmost: value\nleast: value\nalone: value\ngiven 0: value\n", .int 6]]
def bads : List IV := bg_0 ++ (bg_1 ++ (bg_2 ++ (bg_3 ++ (bg_4 ++ (bg_5 ++ (bg_6 ++ (bg_7 ++ (bg_8 ++ (bg_9 ++ (bg_10))))))))))
def bheads : List IV := [.tup [.str "most: value\n", .int 0], .tup [.str "round\nmost: value\n", .int 0], .tup [.str "round 1/2\n", .int 0], .tup [.str "round 1/2 sure sure\n", .int 0], .tup [.str "round 2/4 sure\n", .int 0], .tup [.str "\n", .int 0], .tup [.str "round 1/2 true\n", .int 0], .tup [.str "Round 1/2 sure\n", .int 0], .tup [.str " round 1/2 sure\n", .int 0], .tup [.str "round  1/2 sure\n", .int 0], .tup [.str "round 1 sure\n", .int 0], .tup [.str "round 0/1 sure\n", .int 0], .tup [.str "round 1/2 sure", .int 0], .tup [.str "sure 1/2 round\n", .int 0], .tup [.str "round 1/2 sure \n", .int 0], .tup [.str "round 1/2 sure\n", .int 1], .tup [.str "round 0 sure\nmost: value", .int 1], .tup [.str "round 1/2 sure\nmore 1/2: mark\n", .int 2], .tup [.str "round 0 sure\nmore 2/3: mark\nround 0 sure\n", .int 3]]
theorem bk_0 : (bg_0.all okBad) = true := by kernel_rfl
theorem bk_1 : (bg_1.all okBad) = true := by kernel_rfl
theorem bk_2 : (bg_2.all okBad) = true := by kernel_rfl
theorem bk_3 : (bg_3.all okBad) = true := by kernel_rfl
theorem bk_4 : (bg_4.all okBad) = true := by kernel_rfl
theorem bk_5 : (bg_5.all okBad) = true := by kernel_rfl
theorem bk_6 : (bg_6.all okBad) = true := by kernel_rfl
theorem bk_7 : (bg_7.all okBad) = true := by kernel_rfl
theorem bk_8 : (bg_8.all okBad) = true := by kernel_rfl
theorem bk_9 : (bg_9.all okBad) = true := by kernel_rfl
theorem bk_10 : (bg_10.all okBad) = true := by kernel_rfl
theorem bk_all : (bads.all okBad) = true := by
  simp only [bads, List.all_append, bk_0, bk_1, bk_2, bk_3, bk_4, bk_5, bk_6, bk_7, bk_8, bk_9, bk_10, Bool.and_self]
def E89 (x0 : Sl) (d : IV) (x2 x3 x4 x5 x6 x7 x8 x9 : Sl) : Env := [x0, .ow d, x2, x3, x4, x5, x6, x7, x8, x9, .ow (.tab 0)]
def W89 (ρ : Env) : Prop := ∃ x0 d x2 x3 x4 x5 x6 x7 x8 x9, IsDrw d ∧ ρ = E89 x0 d x2 x3 x4 x5 x6 x7 x8 x9
theorem for_WT {W : Env → Prop} {t : TM} {body : S} : ∀ {ds : List IV}, (∀ d ∈ ds, ∀ ρ, W ρ → ∃ ρa ρ', t d ρ = some ρa ∧ (body ρa = .nx ρ' ∨ body ρa = .ct ρ') ∧ W ρ') → ∀ ρ, W ρ → ∃ ρ', forLoop t body ds ρ = .nx ρ' ∧ W ρ'
  | [], _, ρ, h => ⟨ρ, rfl, h⟩
  | d :: ds, hs, ρ, h => by
    obtain ⟨ρa, ρ1, ea, e1, h1⟩ := hs d List.mem_cons_self ρ h
    obtain ⟨ρ2, e2, h2⟩ := for_WT (fun x hx => hs x (List.mem_cons_of_mem _ hx)) ρ1 h1
    refine ⟨ρ2, ?_, h2⟩
    rcases e1 with e1 | e1 <;> simp only [forLoop, ea, e1] <;> exact e2
theorem callF_ex {ks : List Bool} {fn : Fn} {ρ : Env} {ds : List IV} (hd : ks = ds.map fun _ => false) {c : String} {p : List (Str × IV)} (hf : fn ds = .ex c p []) : callF ks fn (ds.map Av.v) ρ = .ex c p ρ := by
  unfold callF
  rw [hd, gather_v, slots_v]
  dsimp only
  rw [if_pos List.nodup_nil, hf]
  dsimp only
  rw [scatter_v]
theorem lam_exk {B : MR.E} {ρ ρ1 : Env} {c : String} {p : List (Str × IV)} (h : ρ[10]? = some (.ow (.tab 0))) (hB : B ρ = .ex c p ρ1) (hc : decide (c ∈ ECS) = true) : iLam 10 0 (fun c => decide (c ∈ ECS)) some B ρ = .ok (.err c p) ρ1 := by
  unfold iLam
  rw [h]
  show (match B ρ with | .ok _ ρ1 => _ | .ex c p ρ1 => _ | .no => _) = _
  rw [hB]
  dsimp only
  rw [if_pos hc]
  rfl
theorem two_cases {k : Int} (h0 : 0 ≤ k) (h1 : k ≤ 6) : k = 0 ∨ k = 1 ∨ k = 2 ∨ k = 3 ∨ k = 4 ∨ k = 5 ∨ k = 6 := by omega
theorem x_bad1 {x : IV} (h : okBad x = true) (x0 : Sl) (d : IV) (x2 x3 x4 x5 x6 x7 x8 x9 : Sl) :
    ∃ ρa y2 y7 y8, tgT ((tgN 2) :: ((tgN 7) :: [])) x (E89 x0 d x2 x3 x4 x5 x6 x7 x8 x9) = some ρa ∧ lw_12B ρa = .nx (E89 x0 d y2 x3 x4 x5 x6 y7 y8 x9) := by
  obtain ⟨p, k, rfl, hr, h0, h1⟩ := okBad_ok h
  refine ⟨E89 x0 d (.fz (.str p)) x3 x4 x5 x6 (.fz (.int k)) x8 x9, .fz (.str p), .fz (.int k), .fz (.err "BadText" [("at", .int k)]), rfl, ?_⟩
  have e0 : lw_12B_0 (E89 x0 d (.fz (.str p)) x3 x4 x5 x6 (.fz (.int k)) x8 x9) = .nx (E89 x0 d (.fz (.str p)) x3 x4 x5 x6 (.fz (.int k)) (.fz (.err "BadText" [("at", .int k)])) x9) := by
    have c : iCallF [false] fn_read_program (jCons (iVar 2) jNil) (E89 x0 d (.fz (.str p)) x3 x4 x5 x6 (.fz (.int k)) x8 x9) = .ex "BadText" [("at", .int k)] (E89 x0 d (.fz (.str p)) x3 x4 x5 x6 (.fz (.int k)) x8 x9) := callF_ex (ds := [.str p]) rfl hr
    exact (ev_set (lam_exk rfl c (by kernel_rfl))).trans rfl
  have e1 : lw_12B_1 (E89 x0 d (.fz (.str p)) x3 x4 x5 x6 (.fz (.int k)) (.fz (.err "BadText" [("at", .int k)])) x9) = .nx (E89 x0 d (.fz (.str p)) x3 x4 x5 x6 (.fz (.int k)) (.fz (.err "BadText" [("at", .int k)])) x9) := by
    rcases two_cases h0 h1 with rfl | rfl | rfl | rfl | rfl | rfl | rfl <;> kernel_rfl
  exact (ev_seq e0).trans e1
def oddL : List IV := [.non, .str "", .int 5, .bl true, .lst [], .tup [], .dic [], .lst [.str "round 0 sure\nmost: value\n"]]
def oddP : List IV := [.int 0, .tup [.int 0, .int 1], .int (-1)]
theorem odd_k : ((oddL ++ oddP).all fun x => isBT 0 (fn_read_program [x])) = true := by kernel_rfl
theorem x_odd1 {x : IV} (h : isBT 0 (fn_read_program [x]) = true) (x0 : Sl) (d : IV) (x2 x3 x4 x5 x6 x7 x8 x9 : Sl) :
    ∃ y8, lw_13B (E89 x0 d x2 x3 x4 x5 x6 x7 x8 (.fz x)) = .nx (E89 x0 d x2 x3 x4 x5 x6 x7 y8 (.fz x)) := by
  refine ⟨.fz (.err "BadText" [("at", .int 0)]), ?_⟩
  have e0 : lw_13B_0 (E89 x0 d x2 x3 x4 x5 x6 x7 x8 (.fz x)) = .nx (E89 x0 d x2 x3 x4 x5 x6 x7 (.fz (.err "BadText" [("at", .int 0)])) (.fz x)) := by
    have c : iCallK 1 fn_read_program [0] iNil (iCons (iVar 9) iNil) (E89 x0 d x2 x3 x4 x5 x6 x7 x8 (.fz x)) = .ex "BadText" [("at", .int 0)] (E89 x0 d x2 x3 x4 x5 x6 x7 x8 (.fz x)) := callF_ex (ds := [x]) rfl (isBT_ok h)
    exact (ev_set (lam_exk rfl c (by kernel_rfl))).trans rfl
  have e1 : lw_13B_1 (E89 x0 d x2 x3 x4 x5 x6 x7 (.fz (.err "BadText" [("at", .int 0)])) (.fz x)) = .nx (E89 x0 d x2 x3 x4 x5 x6 x7 (.fz (.err "BadText" [("at", .int 0)])) (.fz x)) := by kernel_rfl
  exact (ev_seq e0).trans e1
theorem s1 (x0 : Sl) (d : IV) : ∃ y2 y3, lw_1 (E89 x0 d .un .un .un .un .un .un .un .un) = .nx (E89 x0 d y2 y3 .un .un .un .un .un .un) := ⟨.fz (.str "round 1/3 sure\nleast: value\ngiven 0: settle value\n"), .fz (.ins "Program" [("own_rounds", .tup [mkR (.tup [.int 1, .int 3]) [.tup [.tup [.str "least"], .tup [.str "value"]], .tup [.tup [.str "given", .int 0], .tup [.str "settle", .str "value"]]] true])]), by kernel_rfl⟩
theorem s2 (x0 : Sl) (d : IV) (x2 x3 : Sl) : lw_2 (E89 x0 d x2 x3 .un .un .un .un .un .un) = .nx (E89 x0 d x2 x3 (.ow (.lst bheads)) .un .un .un .un .un) := by kernel_rfl
def tl3 : S := sSeq lw_3 (sSeq lw_4 (sSeq lw_5 (sSeq lw_6 (sSeq lw_7 (sSeq lw_8 (sSeq lw_9 (sSeq lw_10 lw_11)))))))
theorem s3 (x0 : Sl) (d : IV) (x2 x3 : Sl) : ∃ y5 y6, tl3 (E89 x0 d x2 x3 (.ow (.lst bheads)) .un .un .un .un .un) = .nx (E89 x0 d x2 x3 (.ow (.lst bads)) y5 y6 .un .un .un) := ⟨.fz (.str "round"), .fz (.str "round 1/2 sure\nmore 1/2: mark\n"), by kernel_rfl⟩
theorem fnT_rt {n nt : Nat} {b : S} {s r : IV} {ρ : Env} (h : b (.fz s :: (List.replicate (n - 1 - nt) .un ++ tabSl nt)) = .rt r ρ) : fnT n nt b [s] = .ok r [] := by
  unfold fnT
  dsimp only
  rw [h]
theorem seq_as (a b c : S) : sSeq (sSeq a b) c = sSeq a (sSeq b c) := by
  funext ρ
  unfold sSeq
  cases a ρ <;> rfl
theorem law_holds : ∀ ns : List Int, ns.length ≤ 63 → fn_law [.scr ns] = .ok (.bl true) [] := by
  intro ns hns
  let d0 : IV := .drw (lgOf ns) (ns.map aInt) 0 0
  have hd0 : IsDrw d0 := trivial
  have e0 : lw_0 [.fz (.scr ns), .un, .un, .un, .un, .un, .un, .un, .un, .un, .ow (.tab 0)] = .nx (E89 (.fz (.scr ns)) d0 .un .un .un .un .un .un .un .un) := rfl
  obtain ⟨y2, y3, e1⟩ := s1 (.fz (.scr ns)) d0
  have e2 := s2 (.fz (.scr ns)) d0 y2 y3
  obtain ⟨y5, y6, e3⟩ := s3 (.fz (.scr ns)) d0 y2 y3
  obtain ⟨ρ4, e4, x0, d4, x2, x3, x4, x5, x6, x7, x8, x9, hd4, rfl⟩ := for_WT (W := W89) (t := tgT ((tgN 2) :: ((tgN 7) :: []))) (body := lw_12B) (ds := bads) (fun x hx ρ hρ => by
    obtain ⟨x0, d, x2, x3, x4, x5, x6, x7, x8, x9, hd, rfl⟩ := hρ
    obtain ⟨ρa, y2, y7, y8, ea, eb⟩ := x_bad1 (List.all_eq_true.mp bk_all x hx) x0 d x2 x3 x4 x5 x6 x7 x8 x9
    exact ⟨ρa, _, ea, .inl eb, x0, d, y2, x3, x4, x5, x6, y7, y8, x9, hd, rfl⟩) (E89 (.fz (.scr ns)) d0 y2 y3 (.fz (.lst bads)) y5 y6 .un .un .un) ⟨_, _, _, _, _, _, _, _, _, _, hd0, rfl⟩
  have f4 : lw_12 (E89 (.fz (.scr ns)) d0 y2 y3 (.ow (.lst bads)) y5 y6 .un .un .un) = .nx (E89 x0 d4 x2 x3 x4 x5 x6 x7 x8 x9) := by
    have i : lw_12I (E89 (.fz (.scr ns)) d0 y2 y3 (.ow (.lst bads)) y5 y6 .un .un .un) = .ok bads (E89 (.fz (.scr ns)) d0 y2 y3 (.fz (.lst bads)) y5 y6 .un .un .un) := by kernel_rfl
    exact (ev_for i).trans e4
  obtain ⟨v, d5, hv, ep, hd5⟩ := x_pick hd4 (xs := oddP) (by decide) (by decide)
  let ρ5 : Env := E89 x0 d5 x2 x3 x4 x5 x6 x7 x8 x9
  have i5 : lw_13I (E89 x0 d4 x2 x3 x4 x5 x6 x7 x8 x9) = .ok (oddL ++ [v]) ρ5 := by
    have j : jSlot 1 (jCons (iLst (iCons (iC (.int 0)) (iCons (iTup (iCons (iC (.int 0)) (iCons (iC (.int 1)) iNil))) (iCons (iNeg (iC (.int 1))) iNil)))) jNil) (E89 x0 d4 x2 x3 x4 x5 x6 x7 x8 x9) = .ok (.s 1 :: ([.lst oddP] : List IV).map Av.v) (E89 x0 d4 x2 x3 x4 x5 x6 x7 x8 x9) := by rfl
    have c : iCallF [true, false] fn__law_pick (jSlot 1 (jCons (iLst (iCons (iC (.int 0)) (iCons (iTup (iCons (iC (.int 0)) (iCons (iC (.int 1)) iNil))) (iCons (iNeg (iC (.int 1))) iNil)))) jNil)) (E89 x0 d4 x2 x3 x4 x5 x6 x7 x8 x9) = .ok v ρ5 := (ev_cs j rfl rfl ep).trans rfl
    exact ev_seqE (ev_lst (ev_ic (ev_c _ _) (ev_ic (ev_c _ _) (ev_ic (ev_c _ _) (ev_ic (ev_c _ _) (ev_ic (x := .lst []) rfl (ev_ic (x := .tup []) rfl (ev_ic (x := .dic []) rfl (ev_ic (x := .lst [.str "round 0 sure\nmost: value\n"]) rfl (ev_ic c rfl))))))))) (by simp)) (.inl rfl)
  have ok5 : ∀ x ∈ oddL ++ [v], isBT 0 (fn_read_program [x]) = true := fun x hx => by
    refine List.all_eq_true.mp odd_k x ?_
    rcases List.mem_append.mp hx with h | h
    · exact List.mem_append.mpr (.inl h)
    · rw [List.mem_singleton] at h
      exact List.mem_append.mpr (.inr (h ▸ hv))
  obtain ⟨ρ6, e6, z0, d6, z2, z3, z4, z5, z6, z7, z8, z9, hd6, rfl⟩ := for_W (W := W89) (i := 9) (body := lw_13B) (ds := oddL ++ [v]) (fun x hx ρ hρ => by
    obtain ⟨x0, d, x2, x3, x4, x5, x6, x7, x8, x9, hd, rfl⟩ := hρ
    obtain ⟨y8, eb⟩ := x_odd1 (ok5 x hx) x0 d x2 x3 x4 x5 x6 x7 x8 x9
    exact ⟨_, .inl eb, x0, d, x2, x3, x4, x5, x6, x7, y8, _, hd, rfl⟩) ρ5 ⟨_, _, _, _, _, _, _, _, _, _, hd5, rfl⟩
  have f6 : lw_13 (E89 x0 d4 x2 x3 x4 x5 x6 x7 x8 x9) = .nx (E89 z0 d6 z2 z3 z4 z5 z6 z7 z8 z9) := (ev_for i5).trans e6
  have eb : b_law [.fz (.scr ns), .un, .un, .un, .un, .un, .un, .un, .un, .un, .ow (.tab 0)] = .rt (.bl true) (E89 z0 d6 z2 z3 z4 z5 z6 z7 z8 z9) := by
    rw [lw_eq]
    refine (ev_seq e0).trans ((ev_seq e1).trans ((ev_seq e2).trans ?_))
    have as : ∀ (r : S) (ρ ρ' : Env), tl3 ρ = .nx ρ' → sSeq lw_3 (sSeq lw_4 (sSeq lw_5 (sSeq lw_6 (sSeq lw_7 (sSeq lw_8 (sSeq lw_9 (sSeq lw_10 (sSeq lw_11 r)))))))) ρ = r ρ' := fun r ρ ρ' h => by
      have h2 := ev_seq (b := r) h
      unfold tl3 at h2
      simp only [seq_as] at h2
      exact h2
    exact (as _ _ _ e3).trans ((ev_seq f4).trans ((ev_seq f6).trans rfl))
  exact fnT_rt (n := 11) (nt := 1) eb
end K89
end MR
open PySem PySem.W PySem.Calls PyProof.Rows
theorem MR.K89.holds_of (hlaw : ∀ ns : List Int, ns.length ≤ 63 → MR.K89.fn_law [.scr ns] = .ok (.bl true) []) : PySem.Challenge.rw_heardfew_k89_texts_by_hand.Holds := by
  w_on; o_law
  refine HandSHeadRun.head_any (r := OpenLaw.row PySem.Challenge.rw_heardfew_k89_texts_by_hand) (q := view (OpenLaw.row PySem.Challenge.rw_heardfew_k89_texts_by_hand).prog [46]) (H := MR.K89.hk) (ob := MR.K89.ob) (M := 20000) (loose := MR.K89.looseL) (d := HandSHeadRun.topDef (OpenLaw.row PySem.Challenge.rw_heardfew_k89_texts_by_hand).prog 46) (kwd := []) MR.K89.ob_eq
    (by kernel_rfl) (fun s => by kernel_rfl) MR.K89.run (by kernel_rfl) (by kernel_rfl) (by kernel_rfl) (by rfl) (by first | assumption | decide +kernel) (by decide +kernel) ⟨rfl, rfl, rfl, rfl, rfl, by decide +kernel⟩ ?hw ?hc
  case hw => w_witness2
  case hc =>
    refine MR.walk_ofM (l := PySem.Challenge.rw_heardfew_k89_texts_by_hand) (n := 63) (k := 12) (x := "_law_script") MR.K89.NMS rfl (by decide) (by kernel_rfl) ⟨rfl, by decide, by decide⟩ (by kernel_rfl) ?F
    intro w mg fa h Y G hmg0
    obtain ⟨⟨K, KX, c⟩, hsy⟩ := Y
    have hmg : mg ("law" : PySem.Str) = some (.ref fa) := by
      have e : (HandSHeadRun.topDef (OpenLaw.row PySem.Challenge.rw_heardfew_k89_texts_by_hand).prog 46).name = ("law" : PySem.Str) := by kernel_rfl
      rw [← e]
      exact hmg0
    have Y : MR.Sy MR.K89.faL MR.K89.fnL MR.K89.exL K mg := ⟨c, h, KX, G⟩
    have e := hmg.symm.trans (Y.glo 29 (x := "law") rfl)
    cases e
    obtain ⟨fd, hks, hb, hF⟩ := MR.K89.k_law (P := (PySem.Challenge.rw_heardfew_k89_texts_by_hand).prog) (w := w) rfl Y
    have S0 := MR.K89.sx_of (P := (PySem.Challenge.rw_heardfew_k89_texts_by_hand).prog) (w := w) (base := { objs := #[] }) (cl := none) rfl Y
    exact ⟨K, fd, MR.spT (MR.K89.gx K none) 1 MR.K89.fn_law, KX, hks, S0.nt, S0.nd, hsy, S0.ny, hb, fun H oS a ns hl hO hP hS => MR.law_spM (G := MR.K89.gx K none) (nt := 1) hO (fun z => let ⟨q, hq, e⟩ := List.mem_map.mp z; hP q hq e) rfl S0.nd hS hl (hlaw ns hl), fun base _ _ TB => hF base TB⟩
theorem PySem.Challenge.cw_heardfew_k89_texts_by_hand_holds : PySem.Challenge.rw_heardfew_k89_texts_by_hand.Holds :=
  MR.K89.holds_of MR.K89.law_holds
