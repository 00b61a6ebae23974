import PyProof.Rows.All
import Wide.All
import OpenK.AllK
import Wide.FinOn
import HandS.ForMost
import HandS.ForExc
import HandS.IsInst
import HandS.Flow
import HandS.Head0
import HandS.Head1
import HandS.Head2
import HandS.HeadEnd
import HandS.HeadHook1
import HandS.HeadHook2
import HandS.HeadHook4
import HandS.Lambda
import HandS.Deep
import HandS.TupAny
import HandS.SetFor
import HandS.Zip
import HandS.WordsExc
import HandS.WordsDict
import HandS.More
import KE.KTupSum
import KE.DataMinMax
import KE.SortData
import HandS.Property
import HandS.MakeKwOnly
import HandS.ExcOwn
import HandS.Small
import HandS.OwnEq
import HandS.Style
import PyProof.ReprRoads
import HandS.TupSets
import KE.KDictKeyed
import KE.GoesSet
import HandS.SortOrd
import KE.SortCalls
import KE.DataCmp
import HandS.SetBool
import HandS.Strs
import HandS.SetIn
import HandS.Conv
import HandS.Star
import HandS.Iter
import HandS.CallSlots
import PyProof.SetRoads
import PyProof.WalksMore
import PyProof.TupleIter
import HandS.TryOnly
import HandS.ExcIs
import PyProof.ExcBaseAll.ValueError
import HandS.EndTab
import HandS.ExcValue
import KE.KExcIs
import KE.KExcSuper
import HandS.ExcInit
import PySem.Challenge.RW_heardfew_k41_places_of_numbers
set_option Elab.async false
set_option linter.all false
set_option maxRecDepth 100000
set_option maxHeartbeats 4000000
/-! MirHd: what the head's run asks of the written part (stands first, so that a law's run can stand early). -/
namespace MR
open PySem L2 PyProof.Rows
abbrev Frag := PySem.W.Frag
inductive IV where
  | non | bl (b : Bool) | int (i : Int) | str (s : Str) | ty (n : String) | cl (c : String)
  | tup (xs : List IV) | lst (xs : List IV) | scr (ns : List Int)
  | dic (kvs : List (Key × IV))
  | ins (c : String) (fs : List (Str × IV))
  | drw (lg cl : List Int) (rest turn : Int)
  | prs (ps : List (Int × Int))
  | lds (ds : List IV)
  | tab
  | err (c : String) (fs : List (Str × IV))
def tysA : List String := ["int", "bool", "str", "tuple", "list", "dict"]
def tysV : List String := ["NoneType", "bool", "int", "str", "tuple", "list", "dict"]
structure DefM where
  adr : Frag → Addr
  name : Str
  qual : Str
  st : Stmt
  dfl : List He.Dv := []
  kwd : List (Str × He.Dv) := []
  clo : List Str := []
def DefM.val (d : DefM) : He.FnW := some (d.name, d.qual, defArgs d.st, .stmts (defBody d.st), defScope d.st, mainGlobals, d.clo.map fun x => (x, 0), builtinsNs)
def DefM.dvs (K : Frag) (d : DefM) : List V := d.dfl.map (He.Dv.v K)
def DefM.kws (K : Frag) (d : DefM) : List (Str × V) := d.kwd.map fun q => (q.1, q.2.v K)
def fnAt (K : Frag) (a : Addr) : He.FnW := match K.lookup a with
  | some ⟨_, _, .func g, _⟩ => some (g.name, g.qualname, g.params, g.body, g.scope, g.globals, g.closure.map fun p => (p.1, 0), g.builtins)
  | _ => none
def DefM.good (K : Frag) (d : DefM) : Bool := PySem.W.keepIn K (.ref (d.adr K)) && (match K.lookup (d.adr K) with
  | some ⟨_, _, .func g, _⟩ => PySem.W.codeIn K g.code d.qual && (He.dflB K g.defaults (d.dvs K) && He.kwdB K g.kwdefaults (d.kws K))
  | _ => false)
def obsM (fa : List He.Fa) (fn : List DefM) (ex : Frag → Bool) (K : Frag) : Bool × List He.FnW := ((fa.all fun f => f.ok K) && ((fn.all fun d => d.good K) && ex K), fn.map fun d => fnAt K (d.adr K))
def SaysM (fa : List He.Fa) (fn : List DefM) (ex : Frag → Bool) (K : Frag) : Prop := obsM fa fn ex K = (true, fn.map DefM.val)
def obsMG (n : Nat) (fa : List He.Fa) (fn : List DefM) (ex : Frag → Bool) (g : Addr → Option Obj) : Bool × List He.FnW := obsM fa fn ex (He.frT g (He.asD g n ++ [cStatics]))
def hookM (n : Nat) (fa : List He.Fa) (fn : List DefM) (ex : Frag → Bool) : PySem.W.Hook where
  α := Bool × List He.FnW
  obs s := obsMG n fa fn ex s.heap.get?
  val _ := (true, fn.map DefM.val)
  says _ h := ∃ K : Frag, K.In h ∧ SaysM fa fn ex K
  of _ _ e := ⟨_, He.frT_in, e⟩
  keeps _ _ _ y k := y.elim fun K z => ⟨K, PySem.W.Frag.In.keeps z.1 k, z.2⟩
theorem obsMG_eq {n : Nat} {fa : List He.Fa} {fn : List DefM} {ex : Frag → Bool} {g : Addr → Option Obj} {s : Shared} (h : ∀ a, g a = s.heap.get? a) : obsMG n fa fn ex g = (hookM n fa fn ex).obs s := by
  have e : g = s.heap.get? := funext h
  subst e
  rfl
mutual
def kiv (K : Frag) : IV → Value → Bool
  | .non, .none => true
  | .bl b, .bool c => b == c
  | .int i, .int j _ => i == j
  | .str s, .str z _ => s == z
  | .tup ds, .ref a => (match K.lookup a with
    | some ⟨.type c, _, .seq its _, _⟩ => decide (c = "tuple") && (decide (its.size ≤ 1000) && kivA K ds its.toList)
    | _ => false)
  | _, _ => false
def kivA (K : Frag) : List IV → List Value → Bool
  | [], [] => true
  | d :: ds, u :: us => kiv K d u && kivA K ds us
  | _, _ => false
end
def gvB (K : Frag) (x : Str) (d : IV) : Bool := match PySem.W.nsIn K mainGlobals x with
  | some (some u) => kiv K d u
  | _ => false
def kcB (K : Frag) (cs : List Str) : Bool :=
  (cs.all fun c => PySem.W.plainGet K (He.ga K c) Str.empty && (PySem.W.hasDictIn K (He.ga K c) && (PySem.W.plainOver K (He.ga K c) && (decide (PySem.W.findIn K (.ref (He.ga K c)) "__setattr__" = some (some (.builtin "object.__setattr__"))) &&
    (decide (PySem.W.findIn K (.ref (He.ga K c)) "__class__" = some (some (.builtin "object.__class__"))) && (decide (PySem.W.mroIn K (He.ga K c) (.type "object") = some true) &&
    ((cs.all fun c' => decide (PySem.W.kitOne K (.ref (He.ga K c)) (.ref (He.ga K c')) = some (decide (c = c')))) && ((tysA.all fun T => decide (PySem.W.kitOne K (.ref (He.ga K c)) (.type T) = some false)) && (tysV.all fun T => decide (PySem.W.kitOne K (.type T) (.ref (He.ga K c)) = some false)))))))))) &&
  (decide (PySem.W.specialIn K (.builtin "object.__class__") "__get__" = some (some (.builtin "getset_descriptor.__get__"))) && decide (PySem.W.takesIn K (.builtin "object.__class__") = some true))
def prAt (K : Frag) (C : Addr) (g : Str) : Addr := He.ma K C g
def gtAt (K : Frag) (p : Addr) : Addr := match PySem.W.recIn K p "property" with
  | some (.ref a :: _) => a
  | _ => 0
def prB (K : Frag) (C : Addr) (g : Str) : Bool := decide (PySem.W.findIn K (.ref C) g = some (some (.ref (prAt K C g)))) && (decide (PySem.W.specialIn K (.ref (prAt K C g)) "__get__" = some (some (.builtin "property.__get__"))) &&
  (decide (PySem.W.takesIn K (.ref (prAt K C g)) = some true) && (match PySem.W.recIn K (prAt K C g) "property" with
    | some (.ref a :: _) => decide (a = gtAt K (prAt K C g))
    | _ => false)))
def naB (K : Frag) (cs : List Str) (f : Str) : Bool := cs.all fun c => decide (PySem.W.findIn K (.ref (He.ga K c)) f = some none)
end MR
set_option maxRecDepth 100000
set_option maxHeartbeats 4000000
/-! MirHe: what the head asks of the errors' classes. -/
namespace MR
open PySem L2 PyProof.Rows
def subS (c c' : Str) : Bool := c == c' || c' == Str.ofString "HandError"
def errB (K : Frag) (cs : List Str) : Bool :=
  (cs.all fun c => PySem.W.keepIn K (.ref (He.ga K c)) && (decide (PySem.W.subIn K (.ref (He.ga K c)) (.type "BaseException") = some true) && (decide (PySem.W.typeIn K (.ref (He.ga K c)) = some (.type "type")) &&
    (decide (PySem.W.findIn K (.ref (He.ga K c)) "__getattribute__" = some (some (.builtin "BaseException.__getattribute__"))) && (decide (PySem.W.findIn K (.ref (He.ga K c)) "__getattr__" = some none) && (PySem.W.hasDictIn K (He.ga K c) &&
    (decide (PySem.W.findIn K (.ref (He.ga K c)) "__class__" = some (some (.builtin "object.__class__"))) && (decide (PySem.W.mroIn K (He.ga K c) (.type "object") = some true) && ((cs.all fun c' => decide (PySem.W.kitOne K (.ref (He.ga K c)) (.ref (He.ga K c')) = some (subS c c'))) &&
    (decide (PySem.W.kitOne K (.type "NoneType") (.ref (He.ga K c)) = some false) && decide (PySem.W.exmOne K (.ref (He.ga K c)) (.ref (He.ga K "HandError")) = some true))))))))))) &&
  (decide (PySem.W.specialIn K (.builtin "object.__class__") "__get__" = some (some (.builtin "getset_descriptor.__get__"))) && decide (PySem.W.takesIn K (.builtin "object.__class__") = some true))
/-- it is made without an __init__ of its own -/
def plainE (K : Frag) (c : Str) : Bool := PySem.W.excIn K (He.ga K c) [.type "ValueError", .type "Exception", .type "BaseException", .type "object"] "ValueError.__new__"
/-- it is made by an __init__ that says super().__init__(..); self.f = f -/
def oexB (K : Frag) (C : Addr) : Bool := (match K.lookup C with
  | some ⟨.type T, _, .cls cd, sl⟩ => (match cd.mro, sl.toList with
    | .ref C' :: bm, [_, _, _, _, some (.builtin n), _] => decide (T = "type") && (decide (C' = C) && (decide (n = "ValueError.__new__") && (!cd.hasDel && (cd.hasDict && PySem.HandSPX.refsVE bm))))
    | _, _ => false)
  | _ => false) && (decide (PySem.W.findIn K (.ref C) "__setattr__" = some (some (.builtin "object.__setattr__"))) && (decide (PySem.W.subIn K (.ref C) (.type "BaseException") = some true) && (decide (PySem.W.typeIn K (.ref C) = some (.type "type")) && PySem.W.keepIn K (.ref C))))
def supIn (K : Frag) (C D : Addr) (name : Str) : Option (Option Value) := (PySem.W.clsIn K C).bind fun cd => PySem.W.alongIn K name ((cd.mro.dropWhile (· != .ref D)).drop 1)
def supB (K : Frag) (file : Str) (c f : Str) : Bool :=
  oexB K (He.ga K c) && (decide (PySem.W.findIn K (.ref (He.ga K c)) f = some none) && (decide (supIn K (He.ga K c) (He.ga K c) "__init__" = some (some (.builtin "ValueError.__init__"))) && (decide (PySem.W.subIn K (.ref (He.ga K c)) (.type "ValueError") = some true) &&
    (decide (PySem.W.mroIn K (He.ga K c) (.ref (He.ga K c)) = some true) && (decide (PySem.W.nsIn K cStatics "thirdparty.any" = some none) && (decide (PySem.W.findIn K (.ref (He.ga K c)) "__init__" = some (some (.ref (He.ma K (He.ga K c) "__init__")))) &&
    (decide (PySem.W.typeIn K (.ref (He.ma K (He.ga K c) "__init__")) = some (.type "function")) && (match K.lookup (He.ma K (He.ga K c) "__init__") with
      | some ⟨_, _, .func g, _⟩ => (match g.code, g.closure with
        | .ref cda, [(_, cc)] => (match K.lookup cda with
          | some ⟨_, _, .fields vs, _⟩ => (match (vs[2]? : Option Value) with
            | some (Value.str z _) => file == z
            | _ => false)
          | _ => false) && (match K.lookup cc with
          | some ⟨_, _, .cell (some (.ref D)), _⟩ => decide (D = He.ga K c)
          | _ => false)
        | _, _ => false)
      | _ => false))))))))
end MR
set_option maxRecDepth 100000
set_option maxHeartbeats 0
namespace MR
open PySem L2 PyProof.Rows
namespace K41
abbrev prog : Program := PySem.Challenge.pw_heardfew_k41_places_of_numbers
def top (i : Nat) : Stmt := prog.main.body.getD i (.Pass ⟨0, 0, 0, 0⟩)
def cbody : Stmt → List Stmt
  | .ClassDef (body := b) .. => b
  | _ => []
def mth (i j : Nat) : Stmt := (cbody (top i)).getD j (.Pass ⟨0, 0, 0, 0⟩)
def KCS : List String := []
def ECS : List String := ["HandError", "BadNumber", "BadLot", "BadOnes", "BadPlace"]
def cv_CELLS : IV := (.int 12)
def cv_MOST_HANDS : IV := (.int 60)
def dm__law_begun : DefM := { adr := fun K => He.ga K "_law_begun", name := "_law_begun", qual := "_law_begun", st := top 14, kwd := [] }
def dm__law_is_number : DefM := { adr := fun K => He.ga K "_law_is_number", name := "_law_is_number", qual := "_law_is_number", st := top 20, kwd := [] }
def dm__law_mixed : DefM := { adr := fun K => He.ga K "_law_mixed", name := "_law_mixed", qual := "_law_mixed", st := top 15, kwd := [] }
def dm__law_take : DefM := { adr := fun K => He.ga K "_law_take", name := "_law_take", qual := "_law_take", st := top 16, kwd := [] }
def dm__law_pick : DefM := { adr := fun K => He.ga K "_law_pick", name := "_law_pick", qual := "_law_pick", st := top 17, kwd := [] }
def dm__law_odd : DefM := { adr := fun K => He.ga K "_law_odd", name := "_law_odd", qual := "_law_odd", st := top 19, kwd := [] }
def dm__law_place : DefM := { adr := fun K => He.ga K "_law_place", name := "_law_place", qual := "_law_place", st := top 21, kwd := [] }
def dm__law_caught : DefM := { adr := fun K => He.ga K "_law_caught", name := "_law_caught", qual := "_law_caught", st := top 18, kwd := [] }
def dm__law_word : DefM := { adr := fun K => He.ga K "_law_word", name := "_law_word", qual := "_law_word", st := top 22, kwd := [] }
def dm_is_number : DefM := { adr := fun K => He.ga K "is_number", name := "is_number", qual := "is_number", st := top 8, kwd := [] }
def dm_need_number : DefM := { adr := fun K => He.ga K "need_number", name := "need_number", qual := "need_number", st := top 9, kwd := [] }
def dm_place_of : DefM := { adr := fun K => He.ga K "place_of", name := "place_of", qual := "place_of", st := top 12, kwd := [] }
def dm_law : DefM := { adr := fun K => He.ga K "law", name := "law", qual := "law", st := top 23, kwd := [] }
def fnL : List DefM := [dm__law_begun, dm__law_is_number, dm__law_mixed, dm__law_take, dm__law_pick, dm__law_odd, dm__law_place, dm__law_caught, dm__law_word, dm_is_number, dm_need_number, dm_place_of, dm_law]
def faL : List He.Fa := [.glo "_law_begun", .glo "_law_is_number", .glo "_law_mixed", .glo "_law_take", .glo "_law_pick", .glo "_law_odd", .glo "_law_place", .glo "_law_caught", .glo "_law_word", .glo "is_number", .glo "need_number", .glo "place_of", .glo "law", .glo "HandError", .glo "BadNumber", .glo "BadLot", .glo "BadOnes", .glo "BadPlace", .free "abs", .free "bool", .free "int", .free "isinstance", .free "len", .free "min", .free "range", .free "repr"]
def exL (K : Frag) : Bool := kcB K (KCS.map Str.ofString) && (gvB K "CELLS" cv_CELLS && (gvB K "MOST_HANDS" cv_MOST_HANDS && (errB K (ECS.map Str.ofString) && ((K.lookup (He.cT K ("law", none)).2).isNone && (plainE K "BadNumber" && (plainE K "BadOnes"))))))
abbrev R : PySem.W.OpenRow := PySem.W.OpenLaw.row PySem.Challenge.rw_heardfew_k41_places_of_numbers
abbrev hk : PySem.W.Hook := hookM 5 faL fnL exL
def ob (s : PySem.W.SharedT) : Bool × List He.FnW := obsMG 5 faL fnL exL (HandSHeadRun.getT s)
theorem ob_eq (s : PySem.W.SharedT) : ob s = hk.obs s.abs := obsMG_eq (HandSHeadRun.getT_eq s)
def loose0 : List Str := ["HandError", "BadNumber", "BadLot", "BadOnes", "BadPlace", "MOST_HANDS", "is_number", "need_number", "CELLS", "place_of", "_law_begun", "_law_mixed", "_law_take", "_law_pick", "_law_caught", "_law_odd", "_law_is_number", "_law_place", "_law_word"]
def looseL : List Str := loose0
theorem run (w : World) : HandSHeadRun.RunEq R (PySem.W.view R.prog [23]) hk ob 20000 looseL w := by
  intro os
  kernel_rfl
end K41
end MR
set_option maxRecDepth 100000
set_option maxHeartbeats 4000000
/-! MirA: the mirror's values, how the abstract heap bears them, the environment, the step. -/
namespace MR
open PySem L2
abbrev AP1 := Addr → Prop
/-- lists and tuples have at most so many items -/
def big : Nat := 1000000
theorem big_line : big ≤ sizeLine := by rw [sizeLine_eq]; decide
/-- what a def's walk is told: the written part, the classes' addresses, the errors' classes -/
structure Gx where
  K : Frag
  cls : String → Addr
  ecl : String → Value
  tb : Addr × Str := (0, "")
/-- a list that nobody changes: the script, or the module's own -/
def StL (K : Frag) (H : Hp) (p : Addr) (vs : List V) : Prop :=
  (∃ o, H p = some (.frz o (.lst vs))) ∨ ∃ (o : Obj) (its : Array Value) (n : Nat), K.lookup p = some o ∧ o.cls = .type "list" ∧ o.dict = none ∧ o.data = .seq its n ∧ its.size ≤ sizeLine ∧ Vals vs its.toList
/-- a caught error of the class cls, its dict at d, at a -/
def ErrO (a : Addr) (cls : Value) (d : Option Addr) : HO := .ext fun h => ∃ (oe : Obj) (vs : Array Value), h.get? a = some oe ∧ Zc cls d oe ∧ oe.data = .fields vs
mutual
inductive Fz (G : Gx) (F : AP1) (H : Hp) : V → IV → Prop
  | non : Fz G F H .non .non
  | bl (b : Bool) : Fz G F H (.bl b) (.bl b)
  | int (i : Int) : Fz G F H (.int i) (.int i)
  | str (s : Str) : Fz G F H (.str s) (.str s)
  | ty (n : String) : Fz G F H (.ty n) (.ty n)
  | cl (c : String) : Fz G F H (.ref (G.cls c)) (.cl c)
  | tup {p : Addr} {vs : List V} {ds : List IV} : SqT G.K H p vs → FzA G F H vs ds → vs.length ≤ big → Fz G F H (.ref p) (.tup ds)
  | lst {p : Addr} {vs : List V} {ds : List IV} : F p → H p = some (.lst vs) → FzA G F H vs ds → vs.length ≤ big → Fz G F H (.ref p) (.lst ds)
  | scr {p : Addr} {ns : List Int} : StL G.K H p (ns.map V.int) → ns.length ≤ 63 → Fz G F H (.ref p) (.scr ns)
  | dic {p : Addr} {vs : List (Key × V)} {ds : List (Key × IV)} : F p → H p = some (.dK vs) → FzP G F H vs ds → vs.length ≤ big → Fz G F H (.ref p) (.dic ds)
  | ins {p dx : Addr} {c : String} {vs : List (Str × V)} {ds : List (Str × IV)} : F p → H p = some (.ins (G.cls c) dx vs) → FzP G F H vs ds → Fz G F H (.ref p) (.ins c ds)
  | err0 {p : Addr} {c : String} : F p → H p = some (ErrO p (G.ecl c) none) → Fz G F H (.ref p) (.err c [])
  | errD {p dx : Addr} {c : String} {vs : List (Str × V)} {ds : List (Str × IV)} : F p → H p = some (ErrO p (G.ecl c) (some dx)) → F dx → H dx = some (.xd vs) → FzP G F H vs ds → Fz G F H (.ref p) (.err c ds)
inductive FzA (G : Gx) (F : AP1) (H : Hp) : List V → List IV → Prop
  | nil : FzA G F H [] []
  | cons {v : V} {vs : List V} {d : IV} {ds : List IV} : Fz G F H v d → FzA G F H vs ds → FzA G F H (v :: vs) (d :: ds)
inductive FzP (G : Gx) (F : AP1) (H : Hp) : {κ : Type} → List (κ × V) → List (κ × IV) → Prop
  | nil {κ : Type} : FzP G F H ([] : List (κ × V)) []
  | cons {κ : Type} {k : κ} {v : V} {vs : List (κ × V)} {d : IV} {ds : List (κ × IV)} : Fz G F H v d → FzP G F H vs ds → FzP G F H ((k, v) :: vs) ((k, d) :: ds)
end
/-- what is never changed -/
def Imm : HO → Prop
  | .tup _ => True
  | .frz _ _ => True
  | _ => False
/-- enough for what is frozen -/
structure Stq (H : Hp) (F : AP1) (H' : Hp) (F' : AP1) : Prop where
  fkeep : ∀ a o, H a = some o → F a → H' a = some o
  imm : ∀ a o, H a = some o → Imm o → H' a = some o
  frm : ∀ a, F a → F' a
theorem rd_imm {H H' : Hp} {a : Addr} {u : HO} (hi : ∀ a o, H a = some o → Imm o → H' a = some o) (hu : Imm u) (h : Rd H a u) : Rd H' a u := by
  rcases h with h | ⟨o, h⟩
  · exact Or.inl (hi _ _ h hu)
  · exact Or.inr ⟨o, hi _ _ h trivial⟩
theorem sqT_imm {K : Frag} {H H' : Hp} {a : Addr} {vs : List V} (hi : ∀ a o, H a = some o → Imm o → H' a = some o) (h : SqT K H a vs) : SqT K H' a vs := by
  rcases h with h | h
  · exact Or.inl (rd_imm hi trivial h)
  · exact Or.inr h
theorem stL_imm {K : Frag} {H H' : Hp} {a : Addr} {vs : List V} (hi : ∀ a o, H a = some o → Imm o → H' a = some o) (h : StL K H a vs) : StL K H' a vs := by
  rcases h with ⟨o, h⟩ | h
  · exact Or.inl ⟨o, hi _ _ h trivial⟩
  · exact Or.inr h
theorem stL_sq {K : Frag} {H : Hp} {a : Addr} {vs : List V} (h : StL K H a vs) : SqL K H a vs := by
  rcases h with h | h
  · exact Or.inl (Or.inr h)
  · exact Or.inr h
mutual
theorem Fz.mono {G : Gx} {F F' : AP1} {H H' : Hp} (q : Stq H F H' F') : ∀ {v : V} {d : IV}, Fz G F H v d → Fz G F' H' v d
  | _, _, .non => .non
  | _, _, .bl b => .bl b
  | _, _, .int i => .int i
  | _, _, .str s => .str s
  | _, _, .ty n => .ty n
  | _, _, .cl c => .cl c
  | _, _, .tup h a z => .tup (sqT_imm q.imm h) (FzA.mono q a) z
  | _, _, .lst f h a z => .lst (q.frm _ f) (q.fkeep _ _ h f) (FzA.mono q a) z
  | _, _, .scr h z => .scr (stL_imm q.imm h) z
  | _, _, .dic f h a z => .dic (q.frm _ f) (q.fkeep _ _ h f) (FzP.mono q a) z
  | _, _, .ins f h a => .ins (q.frm _ f) (q.fkeep _ _ h f) (FzP.mono q a)
  | _, _, .err0 f h => .err0 (q.frm _ f) (q.fkeep _ _ h f)
  | _, _, .errD f h f2 h2 a => .errD (q.frm _ f) (q.fkeep _ _ h f) (q.frm _ f2) (q.fkeep _ _ h2 f2) (FzP.mono q a)
theorem FzA.mono {G : Gx} {F F' : AP1} {H H' : Hp} (q : Stq H F H' F') : ∀ {vs : List V} {ds : List IV}, FzA G F H vs ds → FzA G F' H' vs ds
  | _, _, .nil => .nil
  | _, _, .cons h t => .cons (Fz.mono q h) (FzA.mono q t)
theorem FzP.mono {G : Gx} {F F' : AP1} {H H' : Hp} (q : Stq H F H' F') : ∀ {κ : Type} {vs : List (κ × V)} {ds : List (κ × IV)}, FzP G F H vs ds → FzP G F' H' vs ds
  | _, _, _, .nil => .nil
  | _, _, _, .cons h t => .cons (Fz.mono q h) (FzP.mono q t)
end
/-- an entry of a dict whose keys are pairs -/
def prE (q : Int × Int) : List Key × V := ([.inl q.1, .inl q.2], .bl true)
/-- dicts that are own, with their addresses -/
inductive DsAt (G : Gx) (F : AP1) (H : Hp) : List Addr → List IV → Prop
  | nil : DsAt G F H [] []
  | cons {p : Addr} {ps : List Addr} {vs : List (Key × V)} {ks : List (Key × IV)} {ds : List IV} : H p = some (.dK vs) → FzP G F H vs ks → vs.length ≤ big → DsAt G F H ps ds → DsAt G F H (p :: ps) (.dic ks :: ds)
theorem DsAt.mono {G : Gx} {F F' : AP1} {H H' : Hp} (s : Stq H F H' F') : ∀ {ps : List Addr} {ds : List IV}, DsAt G F H ps ds → (∀ p ∈ ps, ∀ o, H p = some o → H' p = some o) → DsAt G F' H' ps ds
  | _, _, .nil, _ => .nil
  | _, _, .cons h a z t, k => .cons (k _ List.mem_cons_self _ h) (a.mono s) z (t.mono s fun p hp => k p (List.mem_cons_of_mem _ hp))
theorem DsAt.fz {G : Gx} {F : AP1} {H : Hp} : ∀ {ps : List Addr} {ds : List IV}, DsAt G F H ps ds → (∀ p ∈ ps, F p) → FzA G F H (ps.map V.ref) ds
  | _, _, .nil, _ => .nil
  | _, _, .cons h a z t, f => .cons (.dic (f _ List.mem_cons_self) h a z) (t.fz fun p hp => f p (List.mem_cons_of_mem _ hp))
/-- a value that one slot alone holds; q: the objects that are its own -/
inductive Own (G : Gx) (F : AP1) (H : Hp) : V → IV → AP1 → Prop
  | lst {p : Addr} {vs : List V} {ds : List IV} {q : AP1} : H p = some (.lst vs) → FzA G F H vs ds → vs.length ≤ big → (∀ a, q a ↔ a = p) → Own G F H (.ref p) (.lst ds) q
  | dic {p : Addr} {vs : List (Key × V)} {ds : List (Key × IV)} {q : AP1} : H p = some (.dK vs) → FzP G F H vs ds → vs.length ≤ big → (∀ a, q a ↔ a = p) → Own G F H (.ref p) (.dic ds) q
  | ins {p dx : Addr} {c : String} {vs : List (Str × V)} {ds : List (Str × IV)} {q : AP1} : H p = some (.ins (G.cls c) dx vs) → FzP G F H vs ds → (∀ a, q a ↔ a = p) → Own G F H (.ref p) (.ins c ds) q
  | drw {p l c : Addr} {lg cl : List Int} {rest turn : Int} {q : AP1} :
      H p = some (.dK [(.inr "large", .ref l), (.inr "rest", .int rest), (.inr "cells", .ref c), (.inr "turn", .int turn)]) → H l = some (.lst (lg.map V.int)) → F c → H c = some (.lst (cl.map V.int)) →
      p ≠ l → lg.length ≤ big → cl.length ≤ big → (∀ a, q a ↔ a = p ∨ a = l) → Own G F H (.ref p) (.drw lg cl rest turn) q
  | prs {p : Addr} {ps : List (Int × Int)} {q : AP1} : H p = some (.dT (ps.map prE)) → ps.length ≤ 1000 → (∀ a, q a ↔ a = p) → Own G F H (.ref p) (.prs ps) q
  | lds {p : Addr} {ps : List Addr} {ds : List IV} {q : AP1} : H p = some (.lst (ps.map V.ref)) → DsAt G F H ps ds → ps.Nodup → p ∉ ps → ps.length ≤ big → (∀ a, q a ↔ a = p ∨ a ∈ ps) → Own G F H (.ref p) (.lds ds) q
  | tab {v : V} {ps : Array Value} {q : AP1} : H G.tb.1 = some (.tbl ps) → TriplesOk ps.toList → (∀ (pos : Pos) (cv : Value), codeAmong pos ps.toList = some cv → ∃ c, cv = .ref c ∧ F c ∧ H c = some (LamX.CodeO c G.tb.2)) → (∀ a, q a ↔ a = G.tb.1) → Own G F H v .tab q
/-- what an own value leans on stays: its own objects, the frozen ones -/
theorem Own.mono {G : Gx} {F F' : AP1} {H H' : Hp} {v : V} {d : IV} {q : AP1} (s : Stq H F H' F') (k : ∀ a o, H a = some o → q a → H' a = some o) (h : Own G F H v d q) : Own G F' H' v d q := by
  cases h with
  | lst h a z e => exact .lst (k _ _ h ((e _).mpr rfl)) (a.mono s) z e
  | dic h a z e => exact .dic (k _ _ h ((e _).mpr rfl)) (a.mono s) z e
  | ins h a e => exact .ins (k _ _ h ((e _).mpr rfl)) (a.mono s) e
  | drw h1 h2 f h3 n1 z1 z2 e => exact .drw (k _ _ h1 ((e _).mpr (Or.inl rfl))) (k _ _ h2 ((e _).mpr (Or.inr rfl))) (s.frm _ f) (s.fkeep _ _ h3 f) n1 z1 z2 e
  | prs h z e => exact .prs (k _ _ h ((e _).mpr rfl)) z e
  | lds h a nd np z e => exact .lds (k _ _ h ((e _).mpr (Or.inl rfl))) (a.mono s fun p hp o ho => k _ _ ho ((e _).mpr (Or.inr hp))) nd np z e
  | tab h t c e => exact .tab (k _ _ h ((e _).mpr rfl)) t (fun pos cv hc => let ⟨x, h1, h2, h3⟩ := c pos cv hc; ⟨x, h1, s.frm _ h2, s.fkeep _ _ h3 h2⟩) e
/-- can be frozen -/
def canFz : IV → Bool
  | .drw _ _ _ _ => false
  | .prs _ => false
  | .lds _ => false
  | .tab => false
  | _ => true
theorem Own.freeze {G : Gx} {F : AP1} {H : Hp} {v : V} {d : IV} {q : AP1} (h : Own G F H v d q) (hc : canFz d = true) : Fz G (fun a => F a ∨ q a) H v d := by
  have s : Stq H F H (fun a => F a ∨ q a) := ⟨fun _ _ e _ => e, fun _ _ e _ => e, fun _ f => Or.inl f⟩
  cases h with
  | lst h a z e => exact .lst (Or.inr ((e _).mpr rfl)) h (a.mono s) z
  | dic h a z e => exact .dic (Or.inr ((e _).mpr rfl)) h (a.mono s) z
  | ins h a e => exact .ins (Or.inr ((e _).mpr rfl)) h (a.mono s)
  | drw => cases hc
  | prs => cases hc
  | lds => cases hc
  | tab => cases hc
/-- a slot of the mirror: not known, a frozen value, an own one -/
inductive Sl where
  | un | fz (d : IV) | ow (d : IV)
abbrev Env := List Sl
abbrev FPt := Nat → AP1
/-- all that is own -/
def un (fp : FPt) : AP1 := fun a => ∃ i, fp i a
structure EnvR (G : Gx) (F : AP1) (H : Hp) (σ : L2.St) (ρ : Env) (fp : FPt) : Prop where
  fz : ∀ (i : Nat) d, ρ[i]? = some (.fz d) → ∃ v, σ[i]? = some (some v) ∧ Fz G F H v d
  ow : ∀ (i : Nat) d, ρ[i]? = some (.ow d) → ∃ v, σ[i]? = some (some v) ∧ Own G F H v d (fp i)
  dis : ∀ i j a, fp i a → fp j a → i = j
  nf : ∀ i a, fp i a → ¬ F a
  tr : ∀ i a, fp i a → H a ≠ none
  ni : ∀ i a o, fp i a → H a = some o → ¬ Imm o
  ft : ∀ a, F a → H a ≠ none
  len : ρ.length = σ.length
/-- the step: what is not own stays, what is frozen stays frozen -/
structure Stp (H : Hp) (F : AP1) (P : AP1) (H' : Hp) (F' : AP1) (P' : AP1) : Prop where
  keep : ∀ a o, H a = some o → ¬ P a → H' a = some o
  frm : ∀ a, F a → F' a
  fnew : ∀ a, F' a → F a ∨ P a ∨ H a = none
  pnew : ∀ a, P' a → P a ∨ H a = none
  dom : ∀ a, H' a = none → H a = none
theorem Stp.refl (H : Hp) (F P : AP1) : Stp H F P H F P := ⟨fun _ _ h _ => h, fun _ h => h, fun _ h => Or.inl h, fun _ h => Or.inl h, fun _ h => h⟩
theorem Stp.trans {H H1 H2 : Hp} {F F1 F2 P P1 P2 : AP1} (a : Stp H F P H1 F1 P1) (b : Stp H1 F1 P1 H2 F2 P2) : Stp H F P H2 F2 P2 where
  keep := fun x o h n => b.keep x o (a.keep x o h n) fun p => by
    rcases a.pnew x p with q | q
    · exact n q
    · rw [h] at q; cases q
  frm := fun x h => b.frm x (a.frm x h)
  fnew := fun x h => by
    rcases b.fnew x h with h | h | h
    · exact a.fnew x h
    · rcases a.pnew x h with q | q
      · exact Or.inr (Or.inl q)
      · exact Or.inr (Or.inr q)
    · exact Or.inr (Or.inr (a.dom x h))
  pnew := fun x h => by
    rcases b.pnew x h with h | h
    · exact a.pnew x h
    · exact Or.inr (a.dom x h)
  dom := fun x h => a.dom x (b.dom x h)
/-- behind a step: what was frozen stays -/
theorem EnvR.stq {G : Gx} {F F' : AP1} {H H' : Hp} {σ : L2.St} {ρ : Env} {fp : FPt} {P' : AP1} (e : EnvR G F H σ ρ fp) (s : Stp H F (un fp) H' F' P') : Stq H F H' F' :=
  ⟨fun a o h f => s.keep a o h fun ⟨i, p⟩ => e.nf i a p f, fun a o h m => s.keep a o h fun ⟨i, p⟩ => e.ni i a o p h m, s.frm⟩
/-- pure growth: all that is tracked stays -/
structure Fr (H : Hp) (F : AP1) (H' : Hp) (F' : AP1) : Prop where
  keep : ∀ a o, H a = some o → H' a = some o
  frm : ∀ a, F a → F' a
  fnew : ∀ a, F' a → F a ∨ (H a = none ∧ H' a ≠ none)
theorem Fr.refl (H : Hp) (F : AP1) : Fr H F H F := ⟨fun _ _ h => h, fun _ h => h, fun _ h => Or.inl h⟩
theorem Fr.trans {H H1 H2 : Hp} {F F1 F2 : AP1} (a : Fr H F H1 F1) (b : Fr H1 F1 H2 F2) : Fr H F H2 F2 :=
  ⟨fun x o h => b.keep x o (a.keep x o h), fun x h => b.frm x (a.frm x h), fun x h => by
    rcases b.fnew x h with h | ⟨h, h'⟩
    · rcases a.fnew x h with g | ⟨g, g'⟩
      · exact Or.inl g
      · refine Or.inr ⟨g, ?_⟩
        cases e : H1 x with
        | none => exact (g' e).elim
        | some o => rw [b.keep x o e]; exact fun z => by cases z
    · refine Or.inr ⟨?_, h'⟩
      cases e : H x with
      | none => rfl
      | some o => rw [a.keep x o e] at h; cases h⟩
theorem Fr.dom {H H' : Hp} {F F' : AP1} (a : Fr H F H' F') : ∀ x, H' x = none → H x = none := fun x h => by
  cases e : H x with
  | none => rfl
  | some o => rw [a.keep x o e] at h; cases h
theorem Fr.stp {H H' : Hp} {F F' : AP1} (a : Fr H F H' F') (P : AP1) : Stp H F P H' F' P :=
  ⟨fun x o h _ => a.keep x o h, a.frm, fun x h => (a.fnew x h).elim Or.inl fun q => Or.inr (Or.inr q.1), fun _ h => Or.inl h, a.dom⟩
theorem Fr.stq {H H' : Hp} {F F' : AP1} (a : Fr H F H' F') : Stq H F H' F' := ⟨fun x o h _ => a.keep x o h, fun x o h _ => a.keep x o h, a.frm⟩
theorem EnvR.fr {G : Gx} {F F' : AP1} {H H' : Hp} {σ : L2.St} {ρ : Env} {fp : FPt} (e : EnvR G F H σ ρ fp) (a : Fr H F H' F') : EnvR G F' H' σ ρ fp where
  fz := fun i d h => let ⟨v, e1, e2⟩ := e.fz i d h; ⟨v, e1, e2.mono a.stq⟩
  ow := fun i d h => let ⟨v, e1, e2⟩ := e.ow i d h; ⟨v, e1, e2.mono a.stq fun x o g _ => a.keep x o g⟩
  dis := e.dis
  nf := fun i x p f => by
    rcases a.fnew x f with g | ⟨g, _⟩
    · exact e.nf i x p g
    · exact e.tr i x p g
  tr := fun i x p h => e.tr i x p (a.dom x h)
  ni := fun i x o p h m => by
    cases q : H x with
    | none => exact e.tr i x p q
    | some u =>
      rw [a.keep x u q] at h
      exact e.ni i x o p (q.trans h) m
  ft := fun x f h => by
    rcases a.fnew x f with g | ⟨_, g⟩
    · exact e.ft x g (a.dom x h)
    · exact g h
  len := e.len
/-- a new object, frozen or not -/
theorem Fr.new {H : Hp} {F : AP1} {p : Addr} {o : HO} (h : H p = none) : Fr H F (upd H p o) F :=
  ⟨fun a u e => by rw [upd_ne (ne_of_none e h)]; exact e, fun _ f => f, fun _ f => Or.inl f⟩
theorem Fr.newF {H : Hp} {F : AP1} {p : Addr} {o : HO} (h : H p = none) : Fr H F (upd H p o) (fun a => F a ∨ a = p) :=
  ⟨fun a u e => by rw [upd_ne (ne_of_none e h)]; exact e, fun _ f => Or.inl f, fun a f => f.elim Or.inl fun z => Or.inr ⟨by rw [z]; exact h, by rw [z, upd_same]; exact fun q => by cases q⟩⟩
end MR
set_option maxRecDepth 100000
set_option maxHeartbeats 4000000
/-! MirB: outcomes; readings of mirrors; expressions. -/
namespace MR
open PySem L2
inductive Rz (α : Type) where
  | ok (a : α) (ρ : Env) | ex (c : String) (p : List (Str × IV)) (ρ : Env) | no
def Rz.bind {α β : Type} (r : Rz α) (k : α → Env → Rz β) : Rz β := match r with
  | .ok a ρ => k a ρ
  | .ex c p ρ => .ex c p ρ
  | .no => .no
def ofO {α : Type} (o : Option α) (ρ : Env) : Rz α := match o with
  | some a => .ok a ρ
  | none => .no
abbrev E := Env → Rz IV
abbrev EB := Env → Rz Bool
abbrev EA := Env → Rz (List IV)
/-- the own dict of an error, by its fields -/
def ExD (G : Gx) (F : AP1) (H : Hp) (d : Option Addr) (p : List (Str × IV)) : Prop := (p = [] ∧ d = none) ∨ ∃ dd vs, d = some dd ∧ F dd ∧ H dd = some (.xd vs) ∧ FzP G F H vs p
/-- what an outcome asks; R: how a result is borne -/
def Oc {α β : Type} (R : Gx → L2.St → AP1 → Hp → β → α → Prop) (G : Gx) (W : WX) (σ : L2.St) (H : Hp) (F : AP1) (fp : FPt) (r : Rz α) (Q : β → Hp → Prop) : Prop := match r with
  | .ok d ρ' => ∀ v H' F' fp', Stp H F (un fp) H' F' (un fp') → EnvR G F' H' σ ρ' fp' → R G σ F' H' v d → Q v H'
  | .ex c p ρ' => ∀ d H' F' fp', Stp H F (un fp) H' F' (un fp') → EnvR G F' H' σ ρ' fp' → ExD G F' H' d p → W (G.ecl c) d σ H'
  | .no => False
def tOf {α β : Type} (R : Gx → L2.St → AP1 → Hp → β → α → Prop) (G : Gx) (W : WX) (m : Env → Rz α) : L2.St → Hp → (β → Hp → Prop) → Prop := fun σ H Q =>
  ∃ ρ F fp, EnvR G F H σ ρ fp ∧ Oc R G W σ H F fp (m ρ) Q
def RV (G : Gx) (_ : L2.St) (F : AP1) (H : Hp) (v : V) (d : IV) : Prop := Fz G F H v d
def RA (G : Gx) (_ : L2.St) (F : AP1) (H : Hp) (v : List V) (d : List IV) : Prop := FzA G F H v d
def RB (_ : Gx) (_ : L2.St) (_ : AP1) (_ : Hp) (v : Bool) (d : Bool) : Prop := v = d
abbrev teOf (G : Gx) (W : WX) (m : E) : TE := tOf RV G W m
abbrev taOf (G : Gx) (W : WX) (m : EA) : TA := tOf RA G W m
abbrev ttOf (G : Gx) (W : WX) (m : EB) : TT := tOf RB G W m
section
variable {α β γ δ : Type} {R : Gx → L2.St → AP1 → Hp → β → α → Prop} {R2 : Gx → L2.St → AP1 → Hp → δ → γ → Prop} {G : Gx} {W : WX} {σ : L2.St} {H H1 : Hp} {F F1 : AP1} {fp fp1 : FPt} {ρ : Env}
theorem Oc.step {r : Rz α} {Q : β → Hp → Prop} (s : Stp H F (un fp) H1 F1 (un fp1)) (h : Oc R G W σ H F fp r Q) : Oc R G W σ H1 F1 fp1 r Q := by
  cases r with
  | ok d ρ' => exact fun v H' F' fp' t e r => h v H' F' fp' (s.trans t) e r
  | ex c p ρ' => exact fun d H' F' fp' t e r => h d H' F' fp' (s.trans t) e r
  | no => exact h
theorem oc_bind {m : Env → Rz α} {k : α → Env → Rz γ} {Q : δ → Hp → Prop} {P : β → Hp → Prop} (e : EnvR G F H σ ρ fp) (h : Oc R2 G W σ H F fp ((m ρ).bind k) Q)
    (hk : ∀ x d ρ1 H1 F1 fp1, Stp H F (un fp) H1 F1 (un fp1) → EnvR G F1 H1 σ ρ1 fp1 → R G σ F1 H1 x d → Oc R2 G W σ H1 F1 fp1 (k d ρ1) Q → P x H1) : tOf R G W m σ H P := by
  refine ⟨ρ, F, fp, e, ?_⟩
  cases hm : m ρ with
  | ok d ρ1 =>
    rw [hm] at h
    exact fun v H' F' fp' t e' r => hk v d ρ1 H' F' fp' t e' r (Oc.step t h)
  | ex c p ρ' => rw [hm] at h; exact h
  | no => rw [hm] at h; exact h
/-- at the end: a value made without a change to what is tracked -/
theorem oc_ok {d : IV} {Q : VK} (h : Oc RV G W σ H F fp (.ok d ρ) Q) (e : EnvR G F H σ ρ fp) {v : V} {H' : Hp} {F' : AP1} (f : Fr H F H' F') (r : Fz G F' H' v d) : Q v H' :=
  h v H' F' fp (f.stp _) (e.fr f) r
theorem oc_okR {d : α} {Q : β → Hp → Prop} (h : Oc R G W σ H F fp (.ok d ρ) Q) (e : EnvR G F H σ ρ fp) {v : β} (r : R G σ F H v d) : Q v H :=
  h v H F fp (Stp.refl _ _ _) e r
end
theorem PE.imp {X : Cx} {e : Expr} {t t' : TE} (h : PE X e t) (q : ∀ σ H Q, t' σ H Q → t σ H Q) : PE X e t' := ⟨fun pins s σ H Q I w => h.run pins s σ H Q I (q _ _ _ w)⟩
theorem PT.imp {X : Cx} {e : Expr} {t t' : TT} (h : PT X e t) (q : ∀ σ H Q, t' σ H Q → t σ H Q) : PT X e t' := ⟨fun pins s σ H Q I w => h.run pins s σ H Q I (q _ _ _ w)⟩
theorem PW.imp {X : Cx} {e : Expr} {t t' : TT} (h : PW X e t) (q : ∀ σ H Q, t' σ H Q → t σ H Q) : PW X e t' := ⟨fun wh pins s σ H Q I w => h.run wh pins s σ H Q I (q _ _ _ w)⟩
theorem PA.imp {X : Cx} {es : List Expr} {t t' : TA} (h : PA X es t) (q : ∀ σ H Q, t' σ H Q → t σ H Q) : PA X es t' := ⟨fun pos pins s σ H Q I w => h.run pos pins s σ H Q I (q _ _ _ w)⟩
/-- what a context is to be for a mirror -/
structure Ok (X : Cx) (G : Gx) (W : WX) : Prop where
  K : X.K = G.K
  calm : X.calm = true
  tk : Takes X W
  hu : X.A.units + 80 < cLine
section
variable {X : Cx} {G : Gx} {W : WX}
/-! ### names, constants -/
def iVar (i : Nat) : E := fun ρ => match ρ[i]? with
  | some (.fz d) => .ok d ρ
  | _ => .no
theorem q_var {i : Nat} : ∀ σ H Q, teOf G W (iVar i) σ H Q → tVar i σ H Q := by
  rintro σ H Q ⟨ρ, F, fp, e, h⟩
  unfold iVar at h
  split at h
  · rename_i d hd
    obtain ⟨v, e1, e2⟩ := e.fz i d hd
    exact ⟨v, e1, oc_ok h e (Fr.refl _ _) e2⟩
  · exact h.elim
theorem m_var (i : Nat) {x : Str} {pos : Pos} (hN : X.N[i]? = some x := by rfl) (hv : Vis X.env.scope x := by first | exact Or.inl rfl | exact Or.inr (Or.inl rfl) | exact Or.inr (Or.inr rfl)) (hd : (x == ("__debug__" : Str)) = false := by decide)
    (hcd : (x == ("__classdict__" : Str)) = false := by decide) : PE X (.Name x pos) (teOf G W (iVar i)) := PE.imp (pe_var hN hv hd hcd) q_var
def iC (d : IV) : E := fun ρ => .ok d ρ
theorem q_c {v : V} {d : IV} (r : ∀ F H, Fz G F H v d) : ∀ σ H Q, teOf G W (iC d) σ H Q → tC v σ H Q := by
  rintro σ H Q ⟨ρ, F, fp, e, h⟩
  exact oc_ok h e (Fr.refl _ _) (r F H)
theorem m_int {i j pos} : PE X (.Constant (.int i) j pos) (teOf G W (iC (.int i))) := PE.imp pe_int (q_c fun _ _ => .int _)
theorem m_bl {b j pos} : PE X (.Constant (.bool b) j pos) (teOf G W (iC (.bl b))) := PE.imp pe_bl (q_c fun _ _ => .bl _)
theorem m_non {j pos} : PE X (.Constant .none j pos) (teOf G W (iC .non)) := PE.imp pe_non (q_c fun _ _ => .non)
theorem m_str {x j pos} : PE X (.Constant (.str x) j pos) (teOf G W (iC (.str x))) := PE.imp pe_str (q_c fun _ _ => .str _)
/-- a constant of the module -/
theorem m_glob {x : Str} {v : V} {d : IV} {pos : Pos} (hg : Gl X x) (hm : ∃ u, X.mg x = some u ∧ RelV v u) (r : ∀ F H, Fz G F H v d) (hd : (x == ("__debug__" : Str)) = false := by decide) : PE X (.Name x pos) (teOf G W (iC d)) :=
  let ⟨u, e, q⟩ := hm; PE.imp (pe_glob hg e q hd) (q_c r)
/-! ### operators -/
/-- an operator's rule answers as f -/
def OpF (G : Gx) (r : R2) (f : IV → IV → Option IV) : Prop := ∀ F H x y dx dy d (Q : VK), Fz G F H x dx → Fz G F H y dy → f dx dy = some d →
  (∀ v H' F', Fr H F H' F' → Fz G F' H' v d → Q v H') → r x y H Q
def iBin (f : IV → IV → Option IV) (A B : E) : E := fun ρ => (A ρ).bind fun x ρ1 => (B ρ1).bind fun y ρ2 => ofO (f x y) ρ2
theorem q_bin {r : R2} {f : IV → IV → Option IV} {A B : E} (hr : OpF G r f) : ∀ σ H Q, teOf G W (iBin f A B) σ H Q → tOp r (teOf G W A) (teOf G W B) σ H Q := by
  rintro σ H Q ⟨ρ, F, fp, e, h⟩
  refine oc_bind e h fun x dx ρ1 H1 F1 fp1 s1 e1 r1 h1 => ?_
  refine oc_bind e1 h1 fun y dy ρ2 H2 F2 fp2 s2 e2 r2 h2 => ?_
  have r1' : Fz G F2 H2 x dx := Fz.mono (e1.stq s2) r1
  cases hf : f dx dy with
  | none => rw [hf] at h2; exact h2.elim
  | some d =>
    rw [hf] at h2
    exact hr F2 H2 x y dx dy d Q r1' r2 hf fun v H' F' g z => oc_ok h2 e2 g z
theorem m_bin {op : Operator} {a b : Expr} {A B : E} {r : R2} {f : IV → IV → Option IV} {pos : Pos} (ho : OpR X (binaryOp op) r) (hr : OpF G r f) (ha : PE X a (teOf G W A)) (hb : PE X b (teOf G W B)) : PE X (.BinOp a op b pos) (teOf G W (iBin f A B)) :=
  PE.imp (pe_op ho ha hb) (q_bin hr)
theorem m_cmp {op : CmpOp} {a b : Expr} {A B : E} {r : R2} {f : IV → IV → Option IV} {pos : Pos} (ho : OpR X (compareOp op) r) (hr : OpF G r f) (ha : PE X a (teOf G W A)) (hb : PE X b (teOf G W B))
    (hm : behindInMarks op b = false := by first | exact nobehind _ (by decide) (by decide) | rfl) : PE X (.Compare a [op] [b] pos) (teOf G W (iBin f A B)) :=
  PE.imp (pe_cmpR ho ha hb hm) (q_bin hr)
/-- ints -/
def fI (g : Int → Int → IV) : IV → IV → Option IV
  | .int i, .int j => some (g i j)
  | _, _ => none
def fIc (c : Int → Int → Bool) (g : Int → Int → IV) : IV → IV → Option IV
  | .int i, .int j => if c i j then some (g i j) else none
  | _, _ => none
theorem Fz.int_inv {G : Gx} {F : AP1} {H : Hp} {x : V} {i : Int} (h : Fz G F H x (.int i)) : x = .int i := by cases h; rfl
theorem Fz.bl_inv {G : Gx} {F : AP1} {H : Hp} {x : V} {i : Bool} (h : Fz G F H x (.bl i)) : x = .bl i := by cases h; rfl
theorem Fz.str_inv {G : Gx} {F : AP1} {H : Hp} {x : V} {i : Str} (h : Fz G F H x (.str i)) : x = .str i := by cases h; rfl
theorem of_I {g : Int → Int → V} {g' : Int → Int → IV} (hg : ∀ F H i j, Fz G F H (g i j) (g' i j)) : OpF G (rI0 g) (fI g') := by
  intro F H x y dx dy d Q hx hy hf k
  unfold fI at hf
  split at hf
  · cases hx.int_inv; cases hy.int_inv
    cases hf
    exact ⟨_, _, rfl, rfl, k _ _ _ (Fr.refl _ _) (hg F H _ _)⟩
  · cases hf
theorem of_Ic {C : Int → Int → Prop} {c : Int → Int → Bool} {g : Int → Int → V} {g' : Int → Int → IV} (hc : ∀ i j, c i j = true → C i j) (hg : ∀ F H i j, Fz G F H (g i j) (g' i j)) : OpF G (rI C g) (fIc c g') := by
  intro F H x y dx dy d Q hx hy hf k
  unfold fIc at hf
  split at hf
  · cases hx.int_inv; cases hy.int_inv
    split at hf
    · rename_i hcc
      cases hf
      exact ⟨_, _, rfl, rfl, hc _ _ hcc, k _ _ _ (Fr.refl _ _) (hg F H _ _)⟩
    · cases hf
  · cases hf
def oAdd := fI fun i j => .int (i + j)
def oSub := fI fun i j => .int (i - j)
def mulC (i j : Int) : Bool := (decide (-(2 ^ 64) < i) && decide (i < 2 ^ 64)) || (decide (-(2 ^ 64) < j) && decide (j < 2 ^ 64))
def oMul := fIc mulC fun i j => .int (i * j)
def oDiv := fIc (fun _ j => decide (0 < j) && decide (j < 1073741824)) fun i j => .int (i / j)
def oMod := fIc (fun _ j => decide (0 < j)) fun i j => .int (i % j)
def oPow := fIc (fun i j => decide (0 ≤ j) && decide (j ≤ 1000000) && decide (i.natAbs < 2 ^ 64)) fun i j => .int (i ^ j.toNat)
def oLt := fI fun i j => .bl (decide (i < j))
def oLe := fI fun i j => .bl (decide (i ≤ j))
def oGt := fI fun i j => .bl (decide (j < i))
def oGe := fI fun i j => .bl (decide (j ≤ i))
theorem m_add {a b : Expr} {A B : E} {pos : Pos} (ha : PE X a (teOf G W A)) (hb : PE X b (teOf G W B)) : PE X (.BinOp a .Add b pos) (teOf G W (iBin oAdd A B)) := m_bin op_add (of_I fun _ _ _ _ => .int _) ha hb
theorem m_sub {a b : Expr} {A B : E} {pos : Pos} (ha : PE X a (teOf G W A)) (hb : PE X b (teOf G W B)) : PE X (.BinOp a .Sub b pos) (teOf G W (iBin oSub A B)) := m_bin op_sub (of_I fun _ _ _ _ => .int _) ha hb
theorem m_mul {a b : Expr} {A B : E} {pos : Pos} (ha : PE X a (teOf G W A)) (hb : PE X b (teOf G W B)) : PE X (.BinOp a .Mult b pos) (teOf G W (iBin oMul A B)) :=
  m_bin op_mul (of_Ic (fun i j h => by
    simp only [mulC, Bool.or_eq_true, Bool.and_eq_true, decide_eq_true_eq] at h
    exact h) fun _ _ _ _ => .int _) ha hb
theorem m_div {a b : Expr} {A B : E} {pos : Pos} (ha : PE X a (teOf G W A)) (hb : PE X b (teOf G W B)) : PE X (.BinOp a .FloorDiv b pos) (teOf G W (iBin oDiv A B)) :=
  m_bin op_fdiv (of_Ic (fun i j h => by simp only [Bool.and_eq_true, decide_eq_true_eq] at h; exact h) fun _ _ _ _ => .int _) ha hb
theorem m_mod {a b : Expr} {A B : E} {pos : Pos} (ha : PE X a (teOf G W A)) (hb : PE X b (teOf G W B)) : PE X (.BinOp a .Mod b pos) (teOf G W (iBin oMod A B)) :=
  m_bin op_mod (of_Ic (fun i j h => by simp only [decide_eq_true_eq] at h; exact h) fun _ _ _ _ => .int _) ha hb
theorem m_pow {a b : Expr} {A B : E} {pos : Pos} (ha : PE X a (teOf G W A)) (hb : PE X b (teOf G W B)) : PE X (.BinOp a .Pow b pos) (teOf G W (iBin oPow A B)) :=
  m_bin op_pow (of_Ic (fun i j h => by simp only [Bool.and_eq_true, decide_eq_true_eq] at h; exact ⟨h.1.1, h.1.2, h.2⟩) fun _ _ _ _ => .int _) ha hb
theorem m_lt {a b : Expr} {A B : E} {pos : Pos} (ha : PE X a (teOf G W A)) (hb : PE X b (teOf G W B)) : PE X (.Compare a [.Lt] [b] pos) (teOf G W (iBin oLt A B)) := m_cmp op_lt (of_I fun _ _ _ _ => .bl _) ha hb
theorem m_le {a b : Expr} {A B : E} {pos : Pos} (ha : PE X a (teOf G W A)) (hb : PE X b (teOf G W B)) : PE X (.Compare a [.LtE] [b] pos) (teOf G W (iBin oLe A B)) := m_cmp op_le (of_I fun _ _ _ _ => .bl _) ha hb
theorem m_gt {a b : Expr} {A B : E} {pos : Pos} (ha : PE X a (teOf G W A)) (hb : PE X b (teOf G W B)) : PE X (.Compare a [.Gt] [b] pos) (teOf G W (iBin oGt A B)) := m_cmp op_gt (of_I fun _ _ _ _ => .bl _) ha hb
theorem m_ge {a b : Expr} {A B : E} {pos : Pos} (ha : PE X a (teOf G W A)) (hb : PE X b (teOf G W B)) : PE X (.Compare a [.GtE] [b] pos) (teOf G W (iBin oGe A B)) := m_cmp op_ge (of_I fun _ _ _ _ => .bl _) ha hb
/-- a < b < c -/
def iChain (f g : IV → IV → Option IV) (A B C : E) : E := fun ρ => (A ρ).bind fun x ρ1 => (B ρ1).bind fun y ρ2 => match f x y with
  | some (.bl true) => (C ρ2).bind fun z ρ3 => ofO (g y z) ρ3
  | some (.bl false) => .ok (.bl false) ρ2
  | _ => .no
theorem q_chain {r r' : R2} {f g : IV → IV → Option IV} {A B C : E} (hr : OpF G r f) (hr' : OpF G r' g) : ∀ σ H Q, teOf G W (iChain f g A B C) σ H Q → tChain r r' (teOf G W A) (teOf G W B) (teOf G W C) σ H Q := by
  rintro σ H Q ⟨ρ, F, fp, e, h⟩
  refine oc_bind e h fun x dx ρ1 H1 F1 fp1 s1 e1 r1 h1 => ?_
  refine oc_bind e1 h1 fun y dy ρ2 H2 F2 fp2 s2 e2 r2 h2 => ?_
  have r1' : Fz G F2 H2 x dx := Fz.mono (e1.stq s2) r1
  cases hf : f dx dy with
  | none => rw [hf] at h2; exact h2.elim
  | some d =>
    rw [hf] at h2
    refine hr F2 H2 x y dx dy d _ r1' r2 hf fun v H' F' fr z => ?_
    cases d with
    | bl b =>
      cases z.bl_inv
      refine ⟨b, rfl, ?_⟩
      cases b with
      | true =>
        refine oc_bind (e2.fr fr) (Oc.step (fr.stp _) h2) fun w dw ρ3 H3 F3 fp3 s3 e3 r3 h3 => ?_
        have r2' : Fz G F3 H3 y dy := Fz.mono ((e2.fr fr).stq s3) (r2.mono fr.stq)
        cases hg : g dy dw with
        | none => rw [hg] at h3; exact h3.elim
        | some d =>
          rw [hg] at h3
          exact hr' F3 H3 y w dy dw d Q r2' r3 hg fun v H' F' g z => oc_ok h3 e3 g z
      | false => exact oc_ok h2 e2 fr (.bl _)
    | _ => exact h2.elim
theorem m_chain {op op' : CmpOp} {a b c : Expr} {A B C : E} {r r' : R2} {f g : IV → IV → Option IV} {pos : Pos} (ho : OpR X (compareOp op) r) (ho' : OpR X (compareOp op') r') (hr : OpF G r f) (hr' : OpF G r' g)
    (ha : PE X a (teOf G W A)) (hb : PE X b (teOf G W B)) (hc : PE X c (teOf G W C)) (hm : lastMarks [op, op'] [b, c] = false := by with_unfolding_all rfl) :
    PE X (.Compare a [op, op'] [b, c] pos) (teOf G W (iChain f g A B C)) := PE.imp (pe_chain ho ho' ha hb hc hm) (q_chain hr hr')
end
end MR
set_option maxRecDepth 100000
set_option maxHeartbeats 4000000
/-! MirC: truth, tests, and/or, displays, items, built-ins. -/
namespace MR
open PySem L2
section
variable {X : Cx} {G : Gx} {W : WX}
/-! ### truth -/
def tru : IV → Option Bool
  | .non => some false
  | .bl b => some b
  | .int i => some (i != 0)
  | .tup xs => some (!xs.isEmpty)
  | .lst xs => some (!xs.isEmpty)
  | .dic xs => some (!xs.isEmpty)
  | .str s => if s.length ≤ big then some ((s.length : Int) != 0) else none
  | _ => none
theorem FzA.empty {F : AP1} {H : Hp} {vs : List V} {ds : List IV} (h : FzA G F H vs ds) : vs.isEmpty = ds.isEmpty := by cases h <;> rfl
theorem FzP.empty {F : AP1} {H : Hp} {κ : Type} {vs : List (κ × V)} {ds : List (κ × IV)} (h : FzP G F H vs ds) : vs.isEmpty = ds.isEmpty := by cases h <;> rfl
theorem tru_ok {F : AP1} {H : Hp} {x : V} {d : IV} {b : Bool} (h : Fz G F H x d) (ht : tru d = some b) : TruV G.K x H b := by
  cases h with
  | non => cases ht; exact rfl
  | bl b => cases ht; exact rfl
  | int i => cases ht; exact rfl
  | str s =>
    simp only [tru] at ht
    split at ht
    · rename_i hz
      cases ht
      exact ⟨Nat.le_trans hz big_line, rfl⟩
    · cases ht
  | ty n => cases ht
  | cl c => cases ht
  | tup h a z => cases ht; exact Or.inr (Or.inl ⟨_, h, by rw [a.empty]⟩)
  | lst f h a z => cases ht; exact Or.inl ⟨_, SqL.of h, by rw [a.empty]⟩
  | scr h z => cases ht
  | dic f h a z => cases ht; exact Or.inr (Or.inr ⟨_, h, by rw [a.empty]⟩)
  | ins f h a => cases ht
  | err0 f h => cases ht
  | errD f h f2 h2 a => cases ht
def iTest (A : E) : EB := fun ρ => (A ρ).bind fun d ρ1 => ofO (tru d) ρ1
theorem q_test (o : Ok X G W) {A : E} : ∀ σ H Q, ttOf G W (iTest A) σ H Q → (fun σ H Q => teOf G W A σ H fun x H' => ∃ k, TruV X.K x H' k ∧ Q k H' : TT) σ H Q := by
  rintro σ H Q ⟨ρ, F, fp, e, h⟩
  refine oc_bind e h fun x dx ρ1 H1 F1 fp1 s1 e1 r1 h1 => ?_
  cases ht : tru dx with
  | none => rw [ht] at h1; exact h1.elim
  | some b =>
    rw [ht] at h1
    exact ⟨b, by rw [o.K]; exact MR.tru_ok r1 ht, oc_okR h1 e1 rfl⟩
theorem n_truth (o : Ok X G W) {a : Expr} {A : E} (ha : PE X a (teOf G W A)) (he : ∀ whole, isTrue a X.env whole = (do let v ← whole; standAt a.pos; holding [v] (truthy v)) := by intro _; rfl) : PT X a (ttOf G W (iTest A)) :=
  PT.imp (pt_truth ha he) (q_test o)
def iCmp (f : IV → IV → Option IV) (A B : E) : EB := fun ρ => (A ρ).bind fun x ρ1 => (B ρ1).bind fun y ρ2 => match f x y with
  | some (.bl b) => .ok b ρ2
  | _ => .no
theorem q_cmp {r : R2} {f : IV → IV → Option IV} {A B : E} (hr : OpF G r f) : ∀ σ H Q, ttOf G W (iCmp f A B) σ H Q → tTest (tOp r (teOf G W A) (teOf G W B)) σ H Q := by
  rintro σ H Q ⟨ρ, F, fp, e, h⟩
  refine oc_bind e h fun x dx ρ1 H1 F1 fp1 s1 e1 r1 h1 => ?_
  refine oc_bind e1 h1 fun y dy ρ2 H2 F2 fp2 s2 e2 r2 h2 => ?_
  have r1' : Fz G F2 H2 x dx := Fz.mono (e1.stq s2) r1
  split at h2
  · rename_i b hf
    refine hr F2 H2 x y dx dy _ _ r1' r2 hf fun v H' F' g z => ?_
    cases z.bl_inv
    exact ⟨b, rfl, h2 b H' F' fp2 (g.stp _) (e2.fr g) rfl⟩
  · exact h2.elim
theorem n_cmp {op : CmpOp} {a b : Expr} {A B : E} {r : R2} {f : IV → IV → Option IV} {pos : Pos} (ho : OpR X (compareOp op) r) (hr : OpF G r f) (ha : PE X a (teOf G W A)) (hb : PE X b (teOf G W B))
    (hm : behindInMarks op b = false := by first | exact nobehind _ (by decide) (by decide) | rfl) : PT X (.Compare a [op] [b] pos) (ttOf G W (iCmp f A B)) := PT.imp (pt_cmpR ho ha hb hm) (q_cmp hr)
theorem n_lt {a b : Expr} {A B : E} {pos : Pos} (ha : PE X a (teOf G W A)) (hb : PE X b (teOf G W B)) : PT X (.Compare a [.Lt] [b] pos) (ttOf G W (iCmp oLt A B)) := n_cmp op_lt (of_I fun _ _ _ _ => .bl _) ha hb
theorem n_le {a b : Expr} {A B : E} {pos : Pos} (ha : PE X a (teOf G W A)) (hb : PE X b (teOf G W B)) : PT X (.Compare a [.LtE] [b] pos) (ttOf G W (iCmp oLe A B)) := n_cmp op_le (of_I fun _ _ _ _ => .bl _) ha hb
theorem n_gt {a b : Expr} {A B : E} {pos : Pos} (ha : PE X a (teOf G W A)) (hb : PE X b (teOf G W B)) : PT X (.Compare a [.Gt] [b] pos) (ttOf G W (iCmp oGt A B)) := n_cmp op_gt (of_I fun _ _ _ _ => .bl _) ha hb
theorem n_ge {a b : Expr} {A B : E} {pos : Pos} (ha : PE X a (teOf G W A)) (hb : PE X b (teOf G W B)) : PT X (.Compare a [.GtE] [b] pos) (ttOf G W (iCmp oGe A B)) := n_cmp op_ge (of_I fun _ _ _ _ => .bl _) ha hb
/-- a < b < c -/
def iChainT (f g : IV → IV → Option IV) (A B C : E) : EB := fun ρ => (A ρ).bind fun x ρ1 => (B ρ1).bind fun y ρ2 => match f x y with
  | some (.bl true) => (C ρ2).bind fun z ρ3 => match g y z with
    | some (.bl b) => .ok b ρ3
    | _ => .no
  | some (.bl false) => .ok false ρ2
  | _ => .no
theorem q_chainT {r r' : R2} {f g : IV → IV → Option IV} {A B C : E} (hr : OpF G r f) (hr' : OpF G r' g) : ∀ σ H Q, ttOf G W (iChainT f g A B C) σ H Q → tTest (tChain r r' (teOf G W A) (teOf G W B) (teOf G W C)) σ H Q := by
  rintro σ H Q ⟨ρ, F, fp, e, h⟩
  refine oc_bind e h fun x dx ρ1 H1 F1 fp1 s1 e1 r1 h1 => ?_
  refine oc_bind e1 h1 fun y dy ρ2 H2 F2 fp2 s2 e2 r2 h2 => ?_
  have r1' : Fz G F2 H2 x dx := Fz.mono (e1.stq s2) r1
  split at h2
  · rename_i hf
    refine hr F2 H2 x y dx dy _ _ r1' r2 hf fun v H' F' fr z => ?_
    cases z.bl_inv
    refine ⟨true, rfl, ?_⟩
    refine oc_bind (e2.fr fr) (Oc.step (fr.stp _) h2) fun w dw ρ3 H3 F3 fp3 s3 e3 r3 h3 => ?_
    have r2' : Fz G F3 H3 y dy := Fz.mono ((e2.fr fr).stq s3) (r2.mono fr.stq)
    split at h3
    · rename_i b hg
      refine hr' F3 H3 y w dy dw _ _ r2' r3 hg fun v H' F' g z => ?_
      cases z.bl_inv
      exact ⟨b, rfl, h3 b H' F' fp3 (g.stp _) (e3.fr g) rfl⟩
    · exact h3.elim
  · rename_i hf
    refine hr F2 H2 x y dx dy _ _ r1' r2 hf fun v H' F' fr z => ?_
    cases z.bl_inv
    exact ⟨false, rfl, false, rfl, h2 false H' F' fp2 (fr.stp _) (e2.fr fr) rfl⟩
  · exact h2.elim
theorem n_chain {op op' : CmpOp} {a b c : Expr} {A B C : E} {r r' : R2} {f g : IV → IV → Option IV} {pos : Pos} (ho : OpR X (compareOp op) r) (ho' : OpR X (compareOp op') r') (hr : OpF G r f) (hr' : OpF G r' g)
    (ha : PE X a (teOf G W A)) (hb : PE X b (teOf G W B)) (hc : PE X c (teOf G W C)) (hm : lastMarks [op, op'] [b, c] = false := by with_unfolding_all rfl) : PT X (.Compare a [op, op'] [b, c] pos) (ttOf G W (iChainT f g A B C)) := PT.imp (pt_chain ho ho' ha hb hc hm) (q_chainT hr hr')
/-! ### and, or, not -/
def iAndT (A B : EB) : EB := fun ρ => (A ρ).bind fun b ρ1 => if b = true then B ρ1 else .ok false ρ1
def iOrT (A B : EB) : EB := fun ρ => (A ρ).bind fun b ρ1 => if b = true then .ok true ρ1 else B ρ1
def iNotT (A : EB) : EB := fun ρ => (A ρ).bind fun b ρ1 => .ok (!b) ρ1
theorem q_andT {A B : EB} : ∀ σ H Q, ttOf G W (iAndT A B) σ H Q → tAnd (ttOf G W A) (ttOf G W B) σ H Q := by
  rintro σ H Q ⟨ρ, F, fp, e, h⟩
  refine oc_bind e h fun x dx ρ1 H1 F1 fp1 s1 e1 r1 h1 => ?_
  obtain rfl : x = dx := r1
  cases x with
  | true => exact ⟨ρ1, F1, fp1, e1, h1⟩
  | false => exact oc_okR h1 e1 rfl
theorem q_orT {A B : EB} : ∀ σ H Q, ttOf G W (iOrT A B) σ H Q → tOr (ttOf G W A) (ttOf G W B) σ H Q := by
  rintro σ H Q ⟨ρ, F, fp, e, h⟩
  refine oc_bind e h fun x dx ρ1 H1 F1 fp1 s1 e1 r1 h1 => ?_
  obtain rfl : x = dx := r1
  cases x with
  | true => exact oc_okR h1 e1 rfl
  | false => exact ⟨ρ1, F1, fp1, e1, h1⟩
theorem q_notT {A : EB} : ∀ σ H Q, ttOf G W (iNotT A) σ H Q → tNot (ttOf G W A) σ H Q := by
  rintro σ H Q ⟨ρ, F, fp, e, h⟩
  refine oc_bind e h fun x dx ρ1 H1 F1 fp1 s1 e1 r1 h1 => ?_
  obtain rfl : x = dx := r1
  exact oc_okR h1 e1 rfl
theorem n_not {a : Expr} {A : EB} {pos : Pos} (ha : PT X a (ttOf G W A)) : PT X (.UnaryOp .Not a pos) (ttOf G W (iNotT A)) := PT.imp (pt_not ha) q_notT
theorem w_and1 {a : Expr} {A : EB} {pos : Pos} (ha : PT X a (ttOf G W A)) : PW X (.BoolOp .And [a] pos) (ttOf G W A) := pw_and1 ha
theorem w_or1 {a : Expr} {A : EB} {pos : Pos} (ha : PT X a (ttOf G W A)) : PW X (.BoolOp .Or [a] pos) (ttOf G W A) := pw_or1 ha
theorem w_and {a b : Expr} {rest : List Expr} {A B : EB} {pos : Pos} (ha : PT X a (ttOf G W A)) (hb : PW X (.BoolOp .And (b :: rest) pos) (ttOf G W B)) : PW X (.BoolOp .And (a :: b :: rest) pos) (ttOf G W (iAndT A B)) := PW.imp (pw_and ha hb) q_andT
theorem w_or {a b : Expr} {rest : List Expr} {A B : EB} {pos : Pos} (ha : PT X a (ttOf G W A)) (hb : PW X (.BoolOp .Or (b :: rest) pos) (ttOf G W B)) : PW X (.BoolOp .Or (a :: b :: rest) pos) (ttOf G W (iOrT A B)) := PW.imp (pw_or ha hb) q_orT
theorem n_w {a : Expr} {A : EB} (h : PW X a (ttOf G W A)) : PT X a (ttOf G W A) := h.pt
/-- as values -/
def iAnd (A B : E) : E := fun ρ => (A ρ).bind fun d ρ1 => match tru d with
  | some true => B ρ1
  | some false => .ok d ρ1
  | none => .no
def iOr (A B : E) : E := fun ρ => (A ρ).bind fun d ρ1 => match tru d with
  | some true => .ok d ρ1
  | some false => B ρ1
  | none => .no
def iNot (A : E) : E := fun ρ => (A ρ).bind fun d ρ1 => match tru d with
  | some b => .ok (.bl (!b)) ρ1
  | none => .no
theorem q_and (o : Ok X G W) {A B : E} : ∀ σ H Q, teOf G W (iAnd A B) σ H Q → tAndT X.K (teOf G W A) (teOf G W B) σ H Q := by
  rintro σ H Q ⟨ρ, F, fp, e, h⟩
  refine oc_bind e h fun x dx ρ1 H1 F1 fp1 s1 e1 r1 h1 => ?_
  cases ht : tru dx with
  | none => rw [ht] at h1; exact h1.elim
  | some b =>
    rw [ht] at h1
    refine ⟨b, by rw [o.K]; exact MR.tru_ok r1 ht, ?_⟩
    cases b with
    | true => exact ⟨ρ1, F1, fp1, e1, h1⟩
    | false => exact oc_okR h1 e1 r1
theorem q_or (o : Ok X G W) {A B : E} : ∀ σ H Q, teOf G W (iOr A B) σ H Q → tOrT X.K (teOf G W A) (teOf G W B) σ H Q := by
  rintro σ H Q ⟨ρ, F, fp, e, h⟩
  refine oc_bind e h fun x dx ρ1 H1 F1 fp1 s1 e1 r1 h1 => ?_
  cases ht : tru dx with
  | none => rw [ht] at h1; exact h1.elim
  | some b =>
    rw [ht] at h1
    refine ⟨b, by rw [o.K]; exact MR.tru_ok r1 ht, ?_⟩
    cases b with
    | true => exact oc_okR h1 e1 r1
    | false => exact ⟨ρ1, F1, fp1, e1, h1⟩
theorem q_not (o : Ok X G W) {A : E} : ∀ σ H Q, teOf G W (iNot A) σ H Q → tNotT X.K (teOf G W A) σ H Q := by
  rintro σ H Q ⟨ρ, F, fp, e, h⟩
  refine oc_bind e h fun x dx ρ1 H1 F1 fp1 s1 e1 r1 h1 => ?_
  cases ht : tru dx with
  | none => rw [ht] at h1; exact h1.elim
  | some b =>
    rw [ht] at h1
    exact ⟨b, by rw [o.K]; exact MR.tru_ok r1 ht, oc_okR h1 e1 (Fz.bl _)⟩
theorem m_one {op : BoolOp} {a : Expr} {A : E} {pos : Pos} (h : PE X a (teOf G W A)) : PE X (.BoolOp op [a] pos) (teOf G W A) := pe_one h
theorem m_and (o : Ok X G W) {a b : Expr} {rest : List Expr} {A B : E} {pos : Pos} (ha : PE X a (teOf G W A)) (hb : PE X (.BoolOp .And (b :: rest) pos) (teOf G W B)) : PE X (.BoolOp .And (a :: b :: rest) pos) (teOf G W (iAnd A B)) := PE.imp (pe_andT ha hb) (q_and o)
theorem m_or (o : Ok X G W) {a b : Expr} {rest : List Expr} {A B : E} {pos : Pos} (ha : PE X a (teOf G W A)) (hb : PE X (.BoolOp .Or (b :: rest) pos) (teOf G W B)) : PE X (.BoolOp .Or (a :: b :: rest) pos) (teOf G W (iOr A B)) := PE.imp (pe_orT ha hb) (q_or o)
theorem m_not (o : Ok X G W) {a : Expr} {A : E} {pos : Pos} (ha : PE X a (teOf G W A)) : PE X (.UnaryOp .Not a pos) (teOf G W (iNot A)) := PE.imp (pe_notT ha) (q_not o)
def iNeg (A : E) : E := fun ρ => (A ρ).bind fun d ρ1 => match d with
  | .int i => .ok (.int (-i)) ρ1
  | _ => .no
theorem q_neg {A : E} : ∀ σ H Q, teOf G W (iNeg A) σ H Q → tUn (rU fun i => .int (-i)) (teOf G W A) σ H Q := by
  rintro σ H Q ⟨ρ, F, fp, e, h⟩
  refine oc_bind e h fun x dx ρ1 H1 F1 fp1 s1 e1 r1 h1 => ?_
  cases dx with
  | int i => cases (Fz.int_inv r1); exact ⟨i, rfl, oc_okR h1 e1 (Fz.int _)⟩
  | _ => exact h1.elim
theorem m_neg {a : Expr} {A : E} {pos : Pos} (ha : PE X a (teOf G W A)) : PE X (.UnaryOp .USub a pos) (teOf G W (iNeg A)) := PE.imp (pe_un un_neg ha) q_neg
/-- a if c else b -/
def iIf (C : EB) (A B : E) : E := fun ρ => (C ρ).bind fun b ρ1 => if b = true then A ρ1 else B ρ1
theorem q_if {C : EB} {A B : E} : ∀ σ H Q, teOf G W (iIf C A B) σ H Q → tIf (ttOf G W C) (teOf G W A) (teOf G W B) σ H Q := by
  rintro σ H Q ⟨ρ, F, fp, e, h⟩
  refine oc_bind e h fun x dx ρ1 H1 F1 fp1 s1 e1 r1 h1 => ?_
  obtain rfl : x = dx := r1
  cases x with
  | true => exact ⟨ρ1, F1, fp1, e1, h1⟩
  | false => exact ⟨ρ1, F1, fp1, e1, h1⟩
theorem m_if {c a b : Expr} {C : EB} {A B : E} {pos : Pos} (hc : PT X c (ttOf G W C)) (ha : PE X a (teOf G W A)) (hb : PE X b (teOf G W B)) : PE X (.IfExp c a b pos) (teOf G W (iIf C A B)) := PE.imp (pe_ifExp hc ha hb) q_if
/-! ### lists of expressions -/
def iNil : EA := fun ρ => .ok [] ρ
def iCons (A : E) (B : EA) : EA := fun ρ => (A ρ).bind fun x ρ1 => (B ρ1).bind fun xs ρ2 => .ok (x :: xs) ρ2
theorem q_nil : ∀ σ H Q, taOf G W iNil σ H Q → tNil σ H Q := by
  rintro σ H Q ⟨ρ, F, fp, e, h⟩
  exact oc_okR h e .nil
theorem q_cons {A : E} {B : EA} : ∀ σ H Q, taOf G W (iCons A B) σ H Q → tCons (teOf G W A) (taOf G W B) σ H Q := by
  rintro σ H Q ⟨ρ, F, fp, e, h⟩
  refine oc_bind e h fun x dx ρ1 H1 F1 fp1 s1 e1 r1 h1 => ?_
  refine oc_bind e1 h1 fun y dy ρ2 H2 F2 fp2 s2 e2 r2 h2 => ?_
  exact oc_okR h2 e2 (FzA.cons (Fz.mono (e1.stq s2) r1) r2)
theorem a_nil : PA X [] (taOf G W iNil) := PA.imp pa_nil q_nil
theorem a_cons {e : Expr} {es : List Expr} {A : E} {B : EA} (ha : PE X e (teOf G W A)) (hb : PA X es (taOf G W B)) (hs : starEach (e :: es) X.env = (false, eval e X.env) :: starEach es X.env := by rfl) : PA X (e :: es) (taOf G W (iCons A B)) := PA.imp (pa_cons ha hb hs) q_cons
/-- a tuple -/
def iTup (A : EA) : E := fun ρ => (A ρ).bind fun xs ρ1 => if xs.length ≤ 1000 then .ok (.tup xs) ρ1 else .no
theorem FzA.len {F : AP1} {H : Hp} : ∀ {vs : List V} {ds : List IV}, FzA G F H vs ds → vs.length = ds.length
  | _, _, .nil => rfl
  | _, _, .cons _ t => by rw [List.length_cons, List.length_cons, FzA.len t]
theorem FzP.len {F : AP1} {H : Hp} {κ : Type} : ∀ {vs : List (κ × V)} {ds : List (κ × IV)}, FzP G F H vs ds → vs.length = ds.length
  | _, _, .nil => rfl
  | _, _, .cons _ t => by rw [List.length_cons, List.length_cons, FzP.len t]
theorem q_tup {A : EA} : ∀ σ H Q, teOf G W (iTup A) σ H Q → tTup (taOf G W A) σ H Q := by
  rintro σ H Q ⟨ρ, F, fp, e, h⟩
  refine oc_bind e h fun xs ds ρ1 H1 F1 fp1 s1 e1 r1 h1 => ?_
  have hl : xs.length = ds.length := FzA.len r1
  by_cases hz : ds.length ≤ 1000
  · have hz2 : xs.length ≤ big := by rw [hl]; exact Nat.le_trans hz (by decide)
    simp only [if_pos hz] at h1
    refine ⟨Nat.le_trans hz2 big_line, fun p hp => oc_ok h1 e1 (Fr.new hp) ?_⟩
    exact .tup (SqT.of upd_same) (FzA.mono (Fr.new hp).stq r1) hz2
  · simp only [if_neg hz] at h1
    exact h1.elim
theorem m_tup {es : List Expr} {A : EA} {x1} {pos : Pos} (ha : PA X es (taOf G W A)) : PE X (.Tuple es x1 pos) (teOf G W (iTup A)) := PE.imp (pe_tup ha) q_tup
end
end MR
set_option maxRecDepth 100000
set_option maxHeartbeats 4000000
/-! MirD: data and ==, in; items; slices; built-ins by values; own results. -/
namespace MR
open PySem L2
/-! ### data -/
mutual
def pd : IV → PyData
  | .non => .none
  | .bl b => .bool b
  | .int i => .int i
  | .str s => .str s
  | .tup xs => .tuple (pdA xs)
  | .lst xs => .list (pdA xs)
  | _ => .none
def pdA : List IV → List PyData
  | [] => []
  | x :: xs => pd x :: pdA xs
end
mutual
def pln : IV → Bool
  | .non => true
  | .bl _ => true
  | .int _ => true
  | .str _ => true
  | .tup xs => plnA xs
  | .lst xs => plnA xs
  | _ => false
def plnA : List IV → Bool
  | [] => true
  | x :: xs => pln x && plnA xs
end
section
variable {X : Cx} {G : Gx} {W : WX}
mutual
theorem Fz.dp {F : AP1} {H : Hp} : ∀ {v : V} {d : IV}, Fz G F H v d → pln d = true → Dp G.K H v (pd d)
  | _, _, .non, _ => .non
  | _, _, .bl b, _ => .bl b
  | _, _, .int i, _ => .int i
  | _, _, .str s, _ => .str s
  | _, _, .ty n, h => by simp [pln] at h
  | _, _, .cl n, h => by simp [pln] at h
  | _, _, .tup h a z, p => .tup h (FzA.dp a (by simpa only [pln] using p))
  | _, _, .lst f h a z, p => .lst (SqL.of h) (FzA.dp a (by simpa only [pln] using p))
  | _, _, .scr h z, p => by simp [pln] at p
  | _, _, .dic f h a z, h2 => by simp [pln] at h2
  | _, _, .ins f h a, h2 => by simp [pln] at h2
theorem FzA.dp {F : AP1} {H : Hp} : ∀ {vs : List V} {ds : List IV}, FzA G F H vs ds → plnA ds = true → DpAll G.K H vs (pdA ds)
  | _, _, .nil, _ => .nil
  | _, _, .cons h t, p => by
    simp only [plnA, Bool.and_eq_true] at p
    exact .cons (Fz.dp h p.1) (FzA.dp t p.2)
end
/-- can be compared -/
def shp (d : IV) : Bool := pln d && SeqAt.shaped (pd d)
def oEq (x y : IV) : Option IV := if (shp x && shp y) = true then some (.bl (PyData.eqv (pd x) (pd y))) else none
def oNe (x y : IV) : Option IV := if (shp x && shp y) = true then some (.bl (!PyData.eqv (pd x) (pd y))) else none
theorem shp_and {x y : IV} (h : (shp x && shp y) = true) : (pln x = true ∧ SeqAt.shaped (pd x) = true) ∧ (pln y = true ∧ SeqAt.shaped (pd y) = true) := by
  simp only [shp, Bool.and_eq_true] at h
  exact h
theorem of_eq : OpF G (rEqD G.K) oEq := by
  intro F H x y dx dy d Q hx hy hf k
  unfold oEq at hf
  split at hf
  · rename_i hs
    obtain ⟨⟨p1, s1⟩, p2, s2⟩ := shp_and hs
    cases hf
    exact ⟨_, _, hx.dp p1, hy.dp p2, s1, s2, k _ _ _ (Fr.refl _ _) (.bl _)⟩
  · cases hf
theorem of_ne : OpF G (rNeD G.K) oNe := by
  intro F H x y dx dy d Q hx hy hf k
  unfold oNe at hf
  split at hf
  · rename_i hs
    obtain ⟨⟨p1, s1⟩, p2, s2⟩ := shp_and hs
    cases hf
    exact ⟨_, _, hx.dp p1, hy.dp p2, s1, s2, k _ _ _ (Fr.refl _ _) (.bl _)⟩
  · cases hf
theorem opEq (o : Ok X G W) : OpR X (compareOp .Eq) (rEqD G.K) := by
  have h := op_eqD (X := X) (by have := o.hu; omega)
  rwa [o.K] at h
theorem opNe (o : Ok X G W) : OpR X (compareOp .NotEq) (rNeD G.K) := by
  have h := op_neD (X := X) (by have := o.hu; omega)
  rwa [o.K] at h
theorem m_eq (o : Ok X G W) {a b : Expr} {A B : E} {pos : Pos} (ha : PE X a (teOf G W A)) (hb : PE X b (teOf G W B)) : PE X (.Compare a [.Eq] [b] pos) (teOf G W (iBin oEq A B)) := m_cmp (opEq o) of_eq ha hb
theorem m_ne (o : Ok X G W) {a b : Expr} {A B : E} {pos : Pos} (ha : PE X a (teOf G W A)) (hb : PE X b (teOf G W B)) : PE X (.Compare a [.NotEq] [b] pos) (teOf G W (iBin oNe A B)) := m_cmp (opNe o) of_ne ha hb
theorem n_eq (o : Ok X G W) {a b : Expr} {A B : E} {pos : Pos} (ha : PE X a (teOf G W A)) (hb : PE X b (teOf G W B)) : PT X (.Compare a [.Eq] [b] pos) (ttOf G W (iCmp oEq A B)) := n_cmp (opEq o) of_eq ha hb
theorem n_ne (o : Ok X G W) {a b : Expr} {A B : E} {pos : Pos} (ha : PE X a (teOf G W A)) (hb : PE X b (teOf G W B)) : PT X (.Compare a [.NotEq] [b] pos) (ttOf G W (iCmp oNe A B)) := n_cmp (opNe o) of_ne ha hb
/-! ### is None -/
def isN : IV → Bool
  | .non => true
  | _ => false
def oIs (x y : IV) : Option IV := match y with
  | .non => some (.bl (isN x))
  | _ => none
def oIsnt (x y : IV) : Option IV := match y with
  | .non => some (.bl (!isN x))
  | _ => none
theorem Fz.isN {F : AP1} {H : Hp} {v : V} {d : IV} (h : Fz G F H v d) : decide (v = .non) = isN d := by cases h <;> rfl
theorem of_is : OpF G (fun x y H Q => y = .non ∧ Q (.bl (decide (x = .non))) H) oIs := by
  intro F H x y dx dy d Q hx hy hf k
  unfold oIs at hf
  split at hf
  · cases hy; cases hf
    exact ⟨rfl, k _ _ _ (Fr.refl _ _) (by rw [hx.isN]; exact .bl _)⟩
  · cases hf
theorem of_isnt : OpF G (fun x y H Q => y = .non ∧ Q (.bl (!decide (x = .non))) H) oIsnt := by
  intro F H x y dx dy d Q hx hy hf k
  unfold oIsnt at hf
  split at hf
  · cases hy; cases hf
    exact ⟨rfl, k _ _ _ (Fr.refl _ _) (by rw [hx.isN]; exact .bl _)⟩
  · cases hf
theorem m_is {a b : Expr} {A B : E} {pos : Pos} (ha : PE X a (teOf G W A)) (hb : PE X b (teOf G W B)) : PE X (.Compare a [.Is] [b] pos) (teOf G W (iBin oIs A B)) := m_cmp op_isN of_is ha hb
theorem m_isnt {a b : Expr} {A B : E} {pos : Pos} (ha : PE X a (teOf G W A)) (hb : PE X b (teOf G W B)) : PE X (.Compare a [.IsNot] [b] pos) (teOf G W (iBin oIsnt A B)) := m_cmp op_notN of_isnt ha hb
theorem n_is {a b : Expr} {A B : E} {pos : Pos} (ha : PE X a (teOf G W A)) (hb : PE X b (teOf G W B)) : PT X (.Compare a [.Is] [b] pos) (ttOf G W (iCmp oIs A B)) := n_cmp op_isN of_is ha hb
theorem n_isnt {a b : Expr} {A B : E} {pos : Pos} (ha : PE X a (teOf G W A)) (hb : PE X b (teOf G W B)) : PT X (.Compare a [.IsNot] [b] pos) (ttOf G W (iCmp oIsnt A B)) := n_cmp op_notN of_isnt ha hb
/-! ### in -/
def rInU (K : Frag) (neg : Bool) : R2 := fun x y H Q => ∃ d ds, Dp K H x d ∧ (Dp K H y (.list ds) ∨ Dp K H y (.tuple ds)) ∧ SeqAt.shaped d = true ∧ SeqAt.shaped (.list ds) = true ∧ Q (.bl (if neg then !ds.any fun z => PyData.eqv z d else ds.any fun z => PyData.eqv z d)) H
theorem op_inU (hu : X.A.units + 65 < cLine) : OpR X (compareOp .In) (rInU X.K false) := by
  intro pins s σ H x y v u Q I rx ry h
  obtain ⟨d, ds, hd, he, sd, se, q⟩ := h
  obtain ⟨as, r1⟩ := Dp.reads I d x v hd rx
  rcases he with he | he
  · obtain ⟨bs, r2⟩ := Dp.reads I (.list ds) y u he ry
    exact SeqAt.in_list_reads r2 r1 (SeqAt.canLay_of_shaped se) (SeqAt.canLay_of_shaped sd) (PyProof.Rows.room_in_shaped sd hu) ⟨.bl _, H, I, rfl, q⟩
  · obtain ⟨bs, r2⟩ := Dp.reads I (.tuple ds) y u he ry
    exact SeqAt.in_tuple_reads r2 r1 (SeqAt.canLay_of_shaped se) (SeqAt.canLay_of_shaped sd) (PyProof.Rows.room_in_shaped sd hu) ⟨.bl _, H, I, rfl, q⟩
theorem op_notInU (hu : X.A.units + 65 < cLine) : OpR X (compareOp .NotIn) (rInU X.K true) := by
  intro pins s σ H x y v u Q I rx ry h
  obtain ⟨d, ds, hd, he, sd, se, q⟩ := h
  obtain ⟨as, r1⟩ := Dp.reads I d x v hd rx
  rcases he with he | he
  · obtain ⟨bs, r2⟩ := Dp.reads I (.list ds) y u he ry
    exact SeqAt.notIn_list_reads r2 r1 (SeqAt.canLay_of_shaped se) (SeqAt.canLay_of_shaped sd) (PyProof.Rows.room_in_shaped sd hu) ⟨.bl _, H, I, rfl, q⟩
  · obtain ⟨bs, r2⟩ := Dp.reads I (.tuple ds) y u he ry
    exact SeqAt.notIn_tuple_reads r2 r1 (SeqAt.canLay_of_shaped se) (SeqAt.canLay_of_shaped sd) (PyProof.Rows.room_in_shaped sd hu) ⟨.bl _, H, I, rfl, q⟩
def seqOf : IV → Option (List IV)
  | .lst xs => some xs
  | .tup xs => some xs
  | _ => none
def oIn (neg : Bool) (x y : IV) : Option IV := match seqOf y with
  | some ds => if (shp x && shp (.lst ds)) = true then some (.bl (if neg then !(pdA ds).any fun z => PyData.eqv z (pd x) else (pdA ds).any fun z => PyData.eqv z (pd x))) else none
  | none => none
theorem of_in (neg : Bool) : OpF G (rInU G.K neg) (oIn neg) := by
  intro F H x y dx dy d Q hx hy hf k
  unfold oIn at hf
  split at hf
  · rename_i ds hds
    split at hf
    · rename_i hs
      obtain ⟨⟨p1, s1⟩, p2, s2⟩ := shp_and hs
      cases hf
      have p3 : plnA ds = true := by simpa only [pln] using p2
      have s3 : SeqAt.shaped (.list (pdA ds)) = true := by simpa only [pd] using s2
      refine ⟨_, pdA ds, hx.dp p1, ?_, s1, s3, k _ _ _ (Fr.refl _ _) (.bl _)⟩
      cases dy with
      | lst ys => cases hds; exact Or.inl (by have := hy.dp (by simpa only [pln] using p3); simpa only [pd] using this)
      | tup ys => cases hds; exact Or.inr (by have := hy.dp (by simpa only [pln] using p3); simpa only [pd] using this)
      | _ => cases hds
    · cases hf
  · cases hf
theorem opIn (o : Ok X G W) : OpR X (compareOp .In) (rInU G.K false) := by
  have h := op_inU (X := X) (by have := o.hu; omega)
  rwa [o.K] at h
theorem opNotIn (o : Ok X G W) : OpR X (compareOp .NotIn) (rInU G.K true) := by
  have h := op_notInU (X := X) (by have := o.hu; omega)
  rwa [o.K] at h
theorem m_in (o : Ok X G W) {a b : Expr} {A B : E} {pos : Pos} (ha : PE X a (teOf G W A)) (hb : PE X b (teOf G W B)) (hm : behindInMarks .In b = false := by rfl) : PE X (.Compare a [.In] [b] pos) (teOf G W (iBin (oIn false) A B)) := m_cmp (opIn o) (of_in _) ha hb hm
theorem m_notin (o : Ok X G W) {a b : Expr} {A B : E} {pos : Pos} (ha : PE X a (teOf G W A)) (hb : PE X b (teOf G W B)) (hm : behindInMarks .NotIn b = false := by rfl) : PE X (.Compare a [.NotIn] [b] pos) (teOf G W (iBin (oIn true) A B)) := m_cmp (opNotIn o) (of_in _) ha hb hm
theorem n_in (o : Ok X G W) {a b : Expr} {A B : E} {pos : Pos} (ha : PE X a (teOf G W A)) (hb : PE X b (teOf G W B)) (hm : behindInMarks .In b = false := by rfl) : PT X (.Compare a [.In] [b] pos) (ttOf G W (iCmp (oIn false) A B)) := n_cmp (opIn o) (of_in _) ha hb hm
theorem n_notin (o : Ok X G W) {a b : Expr} {A B : E} {pos : Pos} (ha : PE X a (teOf G W A)) (hb : PE X b (teOf G W B)) (hm : behindInMarks .NotIn b = false := by rfl) : PT X (.Compare a [.NotIn] [b] pos) (ttOf G W (iCmp (oIn true) A B)) := n_cmp (opNotIn o) (of_in _) ha hb hm
/-! ### items -/
def oIx (x y : IV) : Option IV := match seqOf x, y with
  | some ds, .int i => atI ds i
  | _, _ => none
theorem FzA.get {F : AP1} {H : Hp} : ∀ {vs : List V} {ds : List IV} {i : Nat} {d : IV}, FzA G F H vs ds → ds[i]? = some d → ∃ v, vs[i]? = some v ∧ Fz G F H v d
  | _, _, _, _, .nil, e => by simp at e
  | _, _, 0, _, .cons h t, e => by simp at e; subst e; exact ⟨_, rfl, h⟩
  | _, _, i + 1, d, .cons h t, e => by
    obtain ⟨v, h1, h2⟩ := FzA.get (i := i) (d := d) t (by simpa using e)
    exact ⟨v, by simpa using h1, h2⟩
theorem FzA.at {F : AP1} {H : Hp} {vs : List V} {ds : List IV} {i : Int} {d : IV} (h : FzA G F H vs ds) (e : atI ds i = some d) : ∃ v, atI vs i = some v ∧ Fz G F H v d := by
  unfold atI at e ⊢
  rw [h.len]
  cases hi : ixN ds.length i with
  | none => rw [hi] at e; cases e
  | some j =>
    rw [hi] at e
    exact h.get e
theorem of_ix : OpF G (rIx G.K) oIx := by
  intro F H x y dx dy d Q hx hy hf k
  unfold oIx at hf
  split at hf
  · rename_i ds i hds
    cases hy.int_inv
    cases hx with
    | tup h a z => cases hds; obtain ⟨v, e1, e2⟩ := a.at hf; exact Or.inr (Or.inl ⟨_, _, _, _, rfl, rfl, h, e1, k _ _ _ (Fr.refl _ _) e2⟩)
    | lst f h a z => cases hds; obtain ⟨v, e1, e2⟩ := a.at hf; exact Or.inl ⟨_, _, _, _, rfl, rfl, SqL.of h, e1, k _ _ _ (Fr.refl _ _) e2⟩
    | _ => cases hds
  · cases hf
theorem m_ix (o : Ok X G W) {a b : Expr} {A B : E} {pos : Pos} (ha : PE X a (teOf G W A)) (hb : PE X b (teOf G W B)) (hs : PlainIx b := by exact fun _ _ => rfl) : PE X (.Subscript a b pos) (teOf G W (iBin oIx A B)) := by
  have h := ix_seq (X := X)
  rw [o.K] at h
  exact PE.imp (pe_ix h ha hb hs) (q_bin of_ix)
/-- d[k] of a dict -/
def ivKey : IV → Option Key
  | .int i => some (.inl i)
  | .str s => some (.inr s)
  | _ => none
def lookD (kvs : List (Key × IV)) (k : Key) : Option IV := (kvs.find? fun kv => decide (kv.1 = k)).map (·.2)
def oDg (x y : IV) : Option IV := match x, ivKey y with
  | .dic ds, some k => lookD ds k
  | _, _ => none
theorem FzP.look {F : AP1} {H : Hp} : ∀ {vs : List (Key × V)} {ds : List (Key × IV)} {k : Key} {d : IV}, FzP G F H vs ds → lookD ds k = some d → ∃ v, valV vs k = some v ∧ Fz G F H v d
  | _, _, _, _, .nil, e => by simp [lookD] at e
  | _, _, k', d', .cons (k := k) (v := v) (d := d) (vs := vs) (ds := ds) h t, e => by
    by_cases hk : k = k'
    · have e' : d = d' := by
        unfold lookD at e
        rw [List.find?_cons_of_pos (by simpa using hk)] at e
        simpa using e
      subst e'
      refine ⟨v, ?_, h⟩
      unfold valV
      rw [List.find?_cons_of_pos (by simpa using hk)]
      rfl
    · have e' : lookD ds k' = some d' := by
        unfold lookD at e ⊢
        rwa [List.find?_cons_of_neg (by simpa using hk)] at e
      obtain ⟨w, e1, e2⟩ := FzP.look t e'
      refine ⟨w, ?_, e2⟩
      unfold valV at e1 ⊢
      rwa [List.find?_cons_of_neg (by simpa using hk)]
theorem Fz.key {F : AP1} {H : Hp} {v : V} {d : IV} {k : Key} (h : Fz G F H v d) (e : ivKey d = some k) : v = kV k := by
  cases h <;> first | (cases e; rfl) | cases e
theorem q_dg {A B : E} : ∀ σ H Q, teOf G W (iBin oDg A B) σ H Q → tDGet (teOf G W A) (teOf G W B) σ H Q := by
  rintro σ H Q ⟨ρ, F, fp, e, h⟩
  refine oc_bind e h fun x dx ρ1 H1 F1 fp1 s1 e1 r1 h1 => ?_
  refine oc_bind e1 h1 fun y dy ρ2 H2 F2 fp2 s2 e2 r2 h2 => ?_
  have r1' : Fz G F2 H2 x dx := Fz.mono (e1.stq s2) r1
  cases hf : oDg dx dy with
  | none => rw [hf] at h2; exact h2.elim
  | some d =>
    rw [hf] at h2
    unfold oDg at hf
    split at hf
    · rename_i ds k hk
      cases Fz.key r2 hk
      cases r1' with
      | dic f hp a z =>
        obtain ⟨v, e3, e4⟩ := a.look hf
        exact ⟨_, v, rfl, by rw [← e3]; exact DGet.k hp, oc_okR h2 e2 e4⟩
    · cases hf
theorem m_dg (o : Ok X G W) {a b : Expr} {A B : E} {pos : Pos} (ha : PE X a (teOf G W A)) (hb : PE X b (teOf G W B)) (hs : NoSl b := by exact fun _ _ => rfl) : PE X (.Subscript a b pos) (teOf G W (iBin oDg A B)) :=
  PE.imp (pe_dget (by have := o.hu; omega) ha hb hs) q_dg
/-- x[y], x a sequence or a dict -/
theorem PE.or {e : Expr} {t t' : TE} (h : PE X e t) (h' : PE X e t') : PE X e (fun σ H Q => t σ H Q ∨ t' σ H Q) := ⟨fun pins s σ H Q I w => w.elim (h.run pins s σ H Q I) (h'.run pins s σ H Q I)⟩
def oIt (x y : IV) : Option IV := match x with
  | .dic _ => oDg x y
  | _ => oIx x y
theorem q_it {A B : E} : ∀ σ H Q, teOf G W (iBin oIt A B) σ H Q → tOp (rIx G.K) (teOf G W A) (teOf G W B) σ H Q ∨ tDGet (teOf G W A) (teOf G W B) σ H Q := by
  rintro σ H Q ⟨ρ, F, fp, e, h⟩
  by_cases hd : ∃ ds ρ1, A ρ = .ok (.dic ds) ρ1
  · obtain ⟨ds, ρ1, hA⟩ := hd
    refine Or.inr (q_dg σ H Q ⟨ρ, F, fp, e, ?_⟩)
    have hx : iBin oDg A B ρ = iBin oIt A B ρ := by unfold iBin; rw [hA]; rfl
    rw [hx]; exact h
  · refine Or.inl (q_bin of_ix σ H Q ⟨ρ, F, fp, e, ?_⟩)
    have hx : iBin oIx A B ρ = iBin oIt A B ρ := by
      unfold iBin
      cases hA : A ρ with
      | ok d ρ1 =>
        have hn : ∀ y, oIx d y = oIt d y := fun y => by
          cases d with
          | dic ds => exact (hd ⟨ds, ρ1, hA⟩).elim
          | _ => rfl
        simp only [Rz.bind, hn]
      | ex c p ρ1 => rfl
      | no => rfl
    rw [hx]; exact h
theorem m_it (o : Ok X G W) {a b : Expr} {A B : E} {pos : Pos} (ha : PE X a (teOf G W A)) (hb : PE X b (teOf G W B)) (hs : PlainIx b := by exact fun _ _ => rfl) (hs' : NoSl b := by exact fun _ _ => rfl) : PE X (.Subscript a b pos) (teOf G W (iBin oIt A B)) := by
  have h := ix_seq (X := X)
  rw [o.K] at h
  exact PE.imp (PE.or (pe_ix h ha hb hs) (pe_dget (by have := o.hu; omega) ha hb hs')) q_it
/-! ### built-ins by values -/
def CallF (G : Gx) (r : List V → Hp → VK → Prop) (f : List IV → Option IV) : Prop := ∀ F H xs ds d (Q : VK), FzA G F H xs ds → f ds = some d →
  (∀ v H' F', Fr H F H' F' → Fz G F' H' v d → Q v H') → r xs H Q
def iCall (f : List IV → Option IV) (A : EA) : E := fun ρ => (A ρ).bind fun xs ρ1 => ofO (f xs) ρ1
theorem q_call {r : List V → Hp → VK → Prop} {f : List IV → Option IV} {A : EA} (hr : CallF G r f) : ∀ σ H Q, teOf G W (iCall f A) σ H Q → tCB r (taOf G W A) σ H Q := by
  rintro σ H Q ⟨ρ, F, fp, e, h⟩
  refine oc_bind e h fun xs ds ρ1 H1 F1 fp1 s1 e1 r1 h1 => ?_
  cases hf : f ds with
  | none => rw [hf] at h1; exact h1.elim
  | some d =>
    rw [hf] at h1
    exact hr F1 H1 xs ds d Q r1 hf fun v H' F' g z => oc_ok h1 e1 g z
theorem m_callB {id : String} {x : Str} {e : Expr} {es : List Expr} {p pos : Pos} {r : List V → Hp → VK → Prop} {f : List IV → Option IV} {A : EA} (hc : CallR X (.builtin id) r) (hr : CallF G r f) (hg : Gl X x) (hm : X.mg x = none) (hv : bootBuiltins x = some (.builtin id))
    (ha : PA X (e :: es) (taOf G W A)) (hn : x ≠ "__name__" := by decide) (hdb : (x == ("__debug__" : Str)) = false := by decide)
    (he : starEach (e :: es) X.env = (false, eval e X.env) :: starEach es X.env := by rfl) (hpl : (backTo pos (starEach es X.env)).any (·.1) = false := by rfl) : PE X (.Call (.Name x p) (e :: es) [] pos) (teOf G W (iCall f A)) :=
  PE.imp (pe_callB hc hg hm hv ha hn hdb he hpl) (q_call hr)
theorem m_callTy {T : String} {x : Str} {e : Expr} {es : List Expr} {p pos : Pos} {r : List V → Hp → VK → Prop} {f : List IV → Option IV} {A : EA} (hc : CallR X (.type T) r) (hr : CallF G r f) (hg : Gl X x) (hm : X.mg x = none) (hv : bootBuiltins x = some (.type T))
    (ha : PA X (e :: es) (taOf G W A)) (hn : x ≠ "__name__" := by decide) (hdb : (x == ("__debug__" : Str)) = false := by decide)
    (he : starEach (e :: es) X.env = (false, eval e X.env) :: starEach es X.env := by rfl) (hpl : (backTo pos (starEach es X.env)).any (·.1) = false := by rfl) : PE X (.Call (.Name x p) (e :: es) [] pos) (teOf G W (iCall f A)) :=
  PE.imp (pe_callTy hc hg hm hv ha hn hdb he hpl) (q_call hr)
end
end MR
set_option maxRecDepth 100000
set_option maxHeartbeats 4000000
/-! MirE: own results, displays of lists; what is walked; comprehensions. -/
namespace MR
open PySem L2
/-! ### an own result: new objects that nobody else knows -/
structure New1 (H H' : Hp) (F' : AP1) (fp' : FPt) (q : AP1) : Prop where
  old : ∀ a, q a → H a = none
  tr : ∀ a, q a → H' a ≠ none
  nf : ∀ a, q a → ¬ F' a
  np : ∀ a, q a → ¬ un fp' a
  ni : ∀ a o, q a → H' a = some o → ¬ Imm o
def OcO (G : Gx) (W : WX) (σ : L2.St) (H : Hp) (F : AP1) (fp : FPt) (r : Rz IV) (Q : VK) : Prop := match r with
  | .ok d ρ' => ∀ v H' F' fp' q, Stp H F (un fp) H' F' (un fp') → EnvR G F' H' σ ρ' fp' → Own G F' H' v d q → New1 H H' F' fp' q → Q v H'
  | .ex c p ρ' => ∀ d H' F' fp', Stp H F (un fp) H' F' (un fp') → EnvR G F' H' σ ρ' fp' → ExD G F' H' d p → W (G.ecl c) d σ H'
  | .no => False
def toOf (G : Gx) (W : WX) (m : E) : TE := fun σ H Q => ∃ ρ F fp, EnvR G F H σ ρ fp ∧ OcO G W σ H F fp (m ρ) Q
section
variable {X : Cx} {G : Gx} {W : WX} {σ : L2.St} {H H1 : Hp} {F F1 : AP1} {fp fp1 : FPt} {ρ : Env}
theorem OcO.step {r : Rz IV} {Q : VK} (s : Stp H F (un fp) H1 F1 (un fp1)) (h : OcO G W σ H F fp r Q) : OcO G W σ H1 F1 fp1 r Q := by
  cases r with
  | ok d ρ' => exact fun v H' F' fp' q t e r n => h v H' F' fp' q (s.trans t) e r ⟨fun a z => s.dom a (n.old a z), n.tr, n.nf, n.np, n.ni⟩
  | ex c p ρ' => exact fun d H' F' fp' t e r => h d H' F' fp' (s.trans t) e r
  | no => exact h
theorem ocO_bind {α β : Type} {R : Gx → L2.St → AP1 → Hp → β → α → Prop} {m : Env → Rz α} {k : α → Env → Rz IV} {Q : VK} {P : β → Hp → Prop} (e : EnvR G F H σ ρ fp) (h : OcO G W σ H F fp ((m ρ).bind k) Q)
    (hk : ∀ x d ρ1 H1 F1 fp1, Stp H F (un fp) H1 F1 (un fp1) → EnvR G F1 H1 σ ρ1 fp1 → R G σ F1 H1 x d → OcO G W σ H1 F1 fp1 (k d ρ1) Q → P x H1) : tOf R G W m σ H P := by
  refine ⟨ρ, F, fp, e, ?_⟩
  cases hm : m ρ with
  | ok d ρ1 =>
    rw [hm] at h
    exact fun v H' F' fp' t e' r => hk v d ρ1 H' F' fp' t e' r (OcO.step t h)
  | ex c p ρ' => rw [hm] at h; exact h
  | no => rw [hm] at h; exact h
/-- at the end: a new list at p -/
theorem ocO_new {ds : List IV} {Q : VK} {p : Addr} {vs : List V} (h : OcO G W σ H F fp (.ok (.lst ds) ρ) Q) (e : EnvR G F H σ ρ fp) (hp : H p = none) (a : FzA G F H vs ds) (z : vs.length ≤ big) : Q (.ref p) (upd H p (.lst vs)) := by
  have fr : Fr H F (upd H p (.lst vs)) F := Fr.new hp
  refine h (.ref p) _ F fp (fun b => b = p) (fr.stp _) (e.fr fr) (.lst upd_same (FzA.mono fr.stq a) z fun _ => Iff.rfl) ⟨?_, ?_, ?_, ?_, ?_⟩
  · intro b hb; rw [hb]; exact hp
  · intro b hb q; rw [hb, upd_same] at q; cases q
  · intro b hb f; rw [hb] at f; exact e.ft p f hp
  · rintro b hb ⟨i, q⟩; rw [hb] at q; exact e.tr i p q hp
  · intro b o hb q; rw [hb, upd_same] at q; cases q; exact fun z => z
end
end MR
set_option maxRecDepth 100000
set_option maxHeartbeats 4000000
/-! MirF: displays of lists; targets; what is walked; comprehensions. -/
namespace MR
open PySem L2
abbrev W0 : WX := fun _ _ _ _ => False
section
variable {X : Cx} {G : Gx} {W : WX}
/-! ### freezing -/
theorem EnvR.more {F : AP1} {H : Hp} {σ : L2.St} {ρ : Env} {fp : FPt} {q : AP1} (e : EnvR G F H σ ρ fp) (n1 : ∀ a, q a → ¬ un fp a) (n2 : ∀ a, q a → H a ≠ none) : EnvR G (fun a => F a ∨ q a) H σ ρ fp := by
  have s : Stq H F H (fun a => F a ∨ q a) := ⟨fun _ _ z _ => z, fun _ _ z _ => z, fun _ f => Or.inl f⟩
  refine ⟨fun i d z => ?_, fun i d z => ?_, e.dis, fun i a z f => ?_, e.tr, e.ni, fun a f => ?_, e.len⟩
  · obtain ⟨w, e1, e2⟩ := e.fz i d z
    exact ⟨w, e1, e2.mono s⟩
  · obtain ⟨w, e1, e2⟩ := e.ow i d z
    exact ⟨w, e1, e2.mono s fun _ _ z _ => z⟩
  · rcases f with f | f
    · exact e.nf i a z f
    · exact n1 a f ⟨i, z⟩
  · rcases f with f | f
    · exact e.ft a f
    · exact n2 a f
theorem q_frz {m : E} (hc : ∀ ρ d ρ', m ρ = .ok d ρ' → canFz d = true) : ∀ σ H Q, teOf G W m σ H Q → toOf G W m σ H Q := by
  rintro σ H Q ⟨ρ, F, fp, e, h⟩
  refine ⟨ρ, F, fp, e, ?_⟩
  cases hm : m ρ with
  | ok d ρ' =>
    rw [hm] at h
    intro v H' F' fp' q s e' r n
    refine h v H' (fun a => F' a ∨ q a) fp' ⟨s.keep, fun a f => Or.inl (s.frm a f), fun a f => ?_, s.pnew, s.dom⟩ (e'.more n.np n.tr) (r.freeze (hc ρ d ρ' hm))
    rcases f with f | f
    · exact s.fnew a f
    · exact Or.inr (Or.inr (n.old a f))
  | ex c p ρ' => rw [hm] at h; exact h
  | no => rw [hm] at h; exact h
theorem m_frz {e : Expr} {m : E} (h : PE X e (toOf G W m)) (hc : ∀ ρ d ρ', m ρ = .ok d ρ' → canFz d = true) : PE X e (teOf G W m) := PE.imp h (q_frz hc)
/-! ### a list is written -/
def iLst (A : EA) : E := fun ρ => (A ρ).bind fun xs ρ1 => if xs.length ≤ 1000 then .ok (.lst xs) ρ1 else .no
theorem Rz.bind_ok {α β : Type} {r : Rz α} {k : α → Env → Rz β} {b : β} {ρ' : Env} (h : r.bind k = .ok b ρ') : ∃ a ρ, r = .ok a ρ ∧ k a ρ = .ok b ρ' := by
  cases r with
  | ok a ρ => exact ⟨a, ρ, rfl, h⟩
  | ex c p ρ => cases h
  | no => cases h
theorem iLst_fz (A : EA) : ∀ ρ d ρ', iLst A ρ = .ok d ρ' → canFz d = true := by
  intro ρ d ρ' h
  obtain ⟨xs, ρ1, _, h1⟩ := Rz.bind_ok h
  split at h1
  · cases h1; rfl
  · cases h1
theorem q_lst {A : EA} : ∀ σ H Q, toOf G W (iLst A) σ H Q → tLst (taOf G W A) σ H Q := by
  rintro σ H Q ⟨ρ, F, fp, e, h⟩
  refine ocO_bind e h fun xs ds ρ1 H1 F1 fp1 s1 e1 r1 h1 => ?_
  have hl : xs.length = ds.length := FzA.len r1
  by_cases hz : ds.length ≤ 1000
  · have hz2 : xs.length ≤ big := by rw [hl]; exact Nat.le_trans hz (by decide)
    simp only [if_pos hz] at h1
    exact ⟨Nat.le_trans hz2 big_line, fun p hp => ocO_new h1 e1 hp r1 hz2⟩
  · simp only [if_neg hz] at h1
    exact h1.elim
theorem o_lst {es : List Expr} {A : EA} {pos : Pos} (ha : PA X es (taOf G W A)) : PE X (.List es pos) (toOf G W (iLst A)) := PE.imp (pe_lst ha) q_lst
theorem m_lst {es : List Expr} {A : EA} {pos : Pos} (ha : PA X es (taOf G W A)) : PE X (.List es pos) (teOf G W (iLst A)) := m_frz (o_lst ha) (iLst_fz A)
/-! ### slots stored -/
theorem get_set {α : Type} {l : List α} {i j : Nat} {x y : α} (h : (l.set i x)[j]? = some y) : (j = i ∧ y = x ∧ i < l.length) ∨ (j ≠ i ∧ l[j]? = some y) := by
  by_cases e : j = i
  · subst e
    by_cases hl : j < l.length
    · rw [List.getElem?_set_self hl] at h
      exact Or.inl ⟨rfl, (Option.some.inj h).symm, hl⟩
    · have : (l.set j x)[j]? = none := List.getElem?_eq_none_iff.mpr (by rw [List.length_set]; omega)
      rw [this] at h; cases h
  · rw [List.getElem?_set_ne (Ne.symm e)] at h
    exact Or.inr ⟨e, h⟩
theorem EnvR.setFz {F : AP1} {H : Hp} {σ : L2.St} {ρ : Env} {fp : FPt} {i : Nat} {v : V} {d : IV} (e : EnvR G F H σ ρ fp) (r : Fz G F H v d) : EnvR G F H (σ.set i (some v)) (ρ.set i (.fz d)) fp := by
  refine ⟨fun j d' z => ?_, fun j d' z => ?_, e.dis, e.nf, e.tr, e.ni, e.ft, by rw [List.length_set, List.length_set]; exact e.len⟩
  · rcases get_set z with ⟨rfl, z1, hl⟩ | ⟨hj, z⟩
    · cases z1
      exact ⟨v, List.getElem?_set_self (by rw [← e.len]; exact hl), r⟩
    · obtain ⟨w, e1, e2⟩ := e.fz j d' z
      exact ⟨w, by rw [List.getElem?_set_ne (Ne.symm hj)]; exact e1, e2⟩
  · rcases get_set z with ⟨rfl, z1, hl⟩ | ⟨hj, z⟩
    · cases z1
    · obtain ⟨w, e1, e2⟩ := e.ow j d' z
      exact ⟨w, by rw [List.getElem?_set_ne (Ne.symm hj)]; exact e1, e2⟩
theorem EnvR.setUn {F : AP1} {H : Hp} {σ : L2.St} {ρ : Env} {fp : FPt} {i : Nat} {o : Option V} (e : EnvR G F H σ ρ fp) : EnvR G F H (σ.set i o) (ρ.set i .un) fp := by
  refine ⟨fun j d' z => ?_, fun j d' z => ?_, e.dis, e.nf, e.tr, e.ni, e.ft, by rw [List.length_set, List.length_set]; exact e.len⟩
  · rcases get_set z with ⟨rfl, z1, hl⟩ | ⟨hj, z⟩
    · cases z1
    · obtain ⟨w, e1, e2⟩ := e.fz j d' z
      exact ⟨w, by rw [List.getElem?_set_ne (Ne.symm hj)]; exact e1, e2⟩
  · rcases get_set z with ⟨rfl, z1, hl⟩ | ⟨hj, z⟩
    · cases z1
    · obtain ⟨w, e1, e2⟩ := e.ow j d' z
      exact ⟨w, by rw [List.getElem?_set_ne (Ne.symm hj)]; exact e1, e2⟩
def wipeE (ρ : Env) : List Nat → Env
  | [] => ρ
  | v :: vs => (wipeE ρ vs).set v .un
theorem EnvR.wipe {F : AP1} {H : Hp} {σ : L2.St} {ρ : Env} {fp : FPt} (e : EnvR G F H σ ρ fp) : ∀ vs : List Nat, EnvR G F H (L2.wipe σ vs) (wipeE ρ vs) fp
  | [] => e
  | v :: vs => (EnvR.wipe e vs).setUn
def keepF (ρ : Env) (v : Nat) : Sl := match ρ[v]? with
  | some (.fz d) => .fz d
  | _ => .un
def restE (ρ : Env) (ρc : Env) : List Nat → Env
  | [] => ρc
  | v :: vs => (restE ρ ρc vs).set v (keepF ρ v)
theorem restE_len (ρ ρc : Env) : ∀ vs : List Nat, (restE ρ ρc vs).length = ρc.length
  | [] => rfl
  | v :: vs => by unfold restE; rw [List.length_set, restE_len ρ ρc vs]
theorem restE_get {ρ ρc : Env} {j : Nat} {x : Sl} : ∀ {vs : List Nat}, (restE ρ ρc vs)[j]? = some x → (j ∈ vs ∧ x = keepF ρ j) ∨ (j ∉ vs ∧ ρc[j]? = some x)
  | [], h => Or.inr ⟨by simp, h⟩
  | v :: vs, h => by
    unfold restE at h
    rcases get_set h with ⟨rfl, z, _⟩ | ⟨hj, z⟩
    · exact Or.inl ⟨List.mem_cons_self, z⟩
    · rcases restE_get z with ⟨m, z⟩ | ⟨m, z⟩
      · exact Or.inl ⟨List.mem_cons_of_mem _ m, z⟩
      · exact Or.inr ⟨fun q => by rcases List.mem_cons.mp q with q | q; exact hj q; exact m q, z⟩
/-- behind a block: its own slots are those from ahead of it -/
theorem EnvR.rest {F : AP1} {H : Hp} {σ σ2 : L2.St} {ρ ρc : Env} {fp : FPt} {vs : List Nat} (e : EnvR G F H σ2 ρc fp) (hw : L2.wipe σ2 vs = L2.wipe σ vs)
    (old : ∀ (i : Nat) d, ρ[i]? = some (.fz d) → ∃ v, σ[i]? = some (some v) ∧ Fz G F H v d) : EnvR G F H σ (restE ρ ρc vs) fp := by
  have same : ∀ j, j ∉ vs → σ[j]? = σ2[j]? := fun j hj => by
    have h := congrArg (fun l : L2.St => l[j]?) hw
    simp only [wipe_out hj] at h
    exact h.symm
  have len : σ2.length = σ.length := by
    have h := congrArg List.length hw
    rwa [wipe_length, wipe_length] at h
  refine ⟨fun j d z => ?_, fun j d z => ?_, e.dis, e.nf, e.tr, e.ni, e.ft, by rw [restE_len, e.len, len]⟩
  · rcases restE_get z with ⟨m, z⟩ | ⟨m, z⟩
    · unfold keepF at z
      split at z
      · rename_i d' hd
        cases z
        exact old j d hd
      · cases z
    · rw [same j m]
      exact e.fz j d z
  · rcases restE_get z with ⟨m, z⟩ | ⟨m, z⟩
    · unfold keepF at z
      split at z <;> cases z
    · rw [same j m]
      exact e.ow j d z
/-! ### targets -/
abbrev TM := IV → Env → Option Env
def tgN (i : Nat) : TM := fun d ρ => some (ρ.set i (.fz d))
def tgs : List TM → List IV → Env → Option Env
  | [], [], ρ => some ρ
  | t :: ts, d :: ds, ρ => (t d ρ).bind (tgs ts ds)
  | _, _, _ => none
def tgT (ts : List TM) : TM := fun d ρ => match d with
  | .tup ds => tgs ts ds ρ
  | _ => none
def SetOnly (l : List Nat) (σ σ' : L2.St) : Prop := σ'.length = σ.length ∧ ∀ i, i ∉ l → σ'[i]? = σ[i]?
theorem SetOnly.refl (l : List Nat) (σ : L2.St) : SetOnly l σ σ := ⟨rfl, fun _ _ => rfl⟩
theorem SetOnly.trans {l l' : List Nat} {a b c : L2.St} (h : SetOnly l a b) (k : SetOnly l' b c) : SetOnly (l ++ l') a c :=
  ⟨k.1.trans h.1, fun i hi => (k.2 i fun m => hi (List.mem_append_right _ m)).trans (h.2 i fun m => hi (List.mem_append_left _ m))⟩
theorem SetOnly.set (i : Nat) (σ : L2.St) (o : Option V) : SetOnly [i] σ (σ.set i o) :=
  ⟨List.length_set .., fun j hj => List.getElem?_set_ne fun e => hj (by rw [e]; exact List.mem_cons_self)⟩
def tgOf (G : Gx) (l : List Nat) (t : TM) : TG := fun v σ H Q => ∃ ρ F fp d, EnvR G F H σ ρ fp ∧ Fz G F H v d ∧ match t d ρ with
  | some ρ' => ∀ σ' fp', EnvR G F H σ' ρ' fp' → (∀ a, un fp' a → un fp a) → SetOnly l σ σ' → Q σ' H
  | none => False
def tgsOf (G : Gx) (l : List Nat) (ts : List TM) : TGs := fun vs σ H Q => ∃ ρ F fp ds, EnvR G F H σ ρ fp ∧ FzA G F H vs ds ∧ match tgs ts ds ρ with
  | some ρ' => ∀ σ' fp', EnvR G F H σ' ρ' fp' → (∀ a, un fp' a → un fp a) → SetOnly l σ σ' → Q σ' H
  | none => False
theorem PG.imp {e : Expr} {t t' : TG} (h : PG X e t) (q : ∀ v σ H Q, t' v σ H Q → t v σ H Q) : PG X e t' := ⟨fun pins s σ H v u Q I r w => h.run pins s σ H v u Q I r (q _ _ _ _ w)⟩
theorem PGs.imp {e : List Expr} {t t' : TGs} (h : PGs X e t) (q : ∀ v σ H Q, t' v σ H Q → t v σ H Q) : PGs X e t' := ⟨fun pins s σ H v u Q I r w => h.run pins s σ H v u Q I r (q _ _ _ _ w)⟩
theorem g_name (i : Nat) {x : Str} {pos : Pos} (hN : X.N.Nodup) (hi : X.N[i]? = some x := by rfl) (hx : Loc X.env.scope x := by first | exact Or.inl rfl | exact Or.inr rfl) (hf : X.fn x = true ∨ X.env.scope.names.lookup x = some .local := by first | exact .inl rfl | exact .inr rfl) : PG X (.Name x pos) (tgOf G [i] (tgN i)) :=
  PG.imp (pg_name hN hi hx hf) fun v σ H Q ⟨ρ, F, fp, d, e, r, h⟩ => h _ _ (e.setFz r) (fun _ z => z) (SetOnly.set _ _ _)
theorem gs_nil : PGs X [] (tgsOf G [] []) := PGs.imp pgs_nil fun vs σ H Q ⟨ρ, F, fp, ds, e, r, h⟩ => by
  cases r with
  | nil => exact ⟨rfl, h σ fp e (fun _ z => z) (SetOnly.refl _ _)⟩
  | cons _ _ => exact h.elim
theorem gs_cons {e : Expr} {es : List Expr} {l l' : List Nat} {t : TM} {ts : List TM} (h1 : PG X e (tgOf G l t)) (h2 : PGs X es (tgsOf G l' ts))
    (hw : (assignEach (e :: es) X.env).map (·.2) = assign e X.env :: (assignEach es X.env).map (·.2) := by rfl) : PGs X (e :: es) (tgsOf G (l ++ l') (t :: ts)) := PGs.imp (pgs_cons h1 h2 hw) fun vs σ H Q ⟨ρ, F, fp, ds, en, r, h⟩ => by
  cases r with
  | nil => exact h.elim
  | @cons v vs d ds rv rs =>
    refine ⟨v, vs, rfl, ρ, F, fp, d, en, rv, ?_⟩
    simp only [tgs] at h
    cases ht : t d ρ with
    | none => rw [ht] at h; exact h.elim
    | some ρ1 =>
      rw [ht] at h
      intro σ1 fp1 e1 p1 s1
      refine ⟨ρ1, F, fp1, ds, e1, rs, ?_⟩
      have h' : match tgs ts ds ρ1 with | some ρ' => ∀ σ' fp', EnvR G F H σ' ρ' fp' → (∀ a, un fp' a → un fp a) → SetOnly (l ++ l') σ σ' → Q σ' H | none => False := h
      cases hs : tgs ts ds ρ1 with
      | none => rw [hs] at h'; exact h'.elim
      | some ρ2 =>
        rw [hs] at h'
        exact fun σ2 fp2 e2 p2 s2 => h' σ2 fp2 e2 (fun a z => p1 a (p2 a z)) (s1.trans s2)
theorem g_tup (o : Ok X G W) {es : List Expr} {k : Nat} {pos : Pos} {l : List Nat} {ts : List TM} (h : PGs X es (tgsOf G l ts)) (hl : ts.length = es.length := by rfl)
    (hn : (assignEach es X.env).length = es.length := by rfl) (hst : (assignEach es X.env).findIdx? (·.1) = none := by rfl) : PG X (.Tuple es k pos) (tgOf G l (tgT ts)) :=
  PG.imp (pg_tup o.calm h hn hst) fun v σ H Q ⟨ρ, F, fp, d, e, r, w⟩ => by
    cases r with
    | @tup p vs ds hq a z =>
      have tl : ∀ (ts : List TM) (ds : List IV) (ρ : Env) (ρ' : Env), tgs ts ds ρ = some ρ' → ds.length = ts.length := by
        intro ts
        induction ts with
        | nil => intro ds ρ ρ' h; cases ds with
          | nil => rfl
          | cons _ _ => cases h
        | cons t ts ih => intro ds ρ ρ' h; cases ds with
          | nil => cases h
          | cons d ds =>
            simp only [tgs] at h
            obtain ⟨ρ1, _, h2⟩ := Option.bind_eq_some_iff.mp h
            rw [List.length_cons, List.length_cons, ih ds ρ1 ρ' h2]
      have w' : match tgs ts ds ρ with | some ρ' => ∀ σ' fp', EnvR G F H σ' ρ' fp' → (∀ a, un fp' a → un fp a) → SetOnly l σ σ' → Q σ' H | none => False := w
      cases hs : tgs ts ds ρ with
      | none => rw [hs] at w'; exact w'.elim
      | some ρ2 =>
        refine ⟨p, vs, rfl, by rw [o.K]; exact hq, by rw [a.len, tl _ _ _ _ hs, hl], ρ, F, fp, ds, e, a, w'⟩
    | _ => exact w.elim
end
end MR
set_option maxRecDepth 100000
set_option maxHeartbeats 4000000
/-! MirG: what is walked; comprehensions. -/
namespace MR
open PySem L2
section
variable {X : Cx} {G : Gx} {W : WX}
/-- an iterator that gives these items, whatever else happens -/
def Feeds (G : Gx) (J : It) (F : AP1) (H : Hp) (ds : List IV) : Prop := ∀ F' H', Stq H F H' F' →
  (∀ i, ds.length ≤ i → J.stop i H') ∧ ∀ (i : Nat) d, ds[i]? = some d → J.go i H' ∧ ∀ x H'', J.yld i H' x H'' → ∃ F'', Fr H' F' H'' F'' ∧ Fz G F'' H'' x d
theorem Stq.trans {H H1 H2 : Hp} {F F1 F2 : AP1} (a : Stq H F H1 F1) (b : Stq H1 F1 H2 F2) : Stq H F H2 F2 :=
  ⟨fun x o h f => b.fkeep x o (a.fkeep x o h f) (a.frm x f), fun x o h m => b.imm x o (a.imm x o h m) m, fun x f => b.frm x (a.frm x f)⟩
theorem Stq.refl (H : Hp) (F : AP1) : Stq H F H F := ⟨fun _ _ h _ => h, fun _ _ h _ => h, fun _ f => f⟩
theorem Feeds.mono {J : It} {F F' : AP1} {H H' : Hp} {ds : List IV} (s : Stq H F H' F') (h : Feeds G J F H ds) : Feeds G J F' H' ds := fun F2 H2 t => h F2 H2 (s.trans t)
def RF (G : Gx) (_ : L2.St) (F : AP1) (H : Hp) (J : It) (ds : List IV) : Prop := Feeds G J F H ds ∧ ds.length ≤ big
abbrev EL := Env → Rz (List IV)
abbrev tiOf (G : Gx) (W : WX) (m : EL) : TI := tOf RF G W m
theorem PI.imp {tg e : Expr} {t t' : TI} (h : PI X tg e t) (q : ∀ σ H Q, t' σ H Q → t σ H Q) : PI X tg e t' := ⟨fun pins s σ H Q I w => h.run pins s σ H Q I (q _ _ _ w)⟩
theorem PI.or {tg e : Expr} {t t' : TI} (h : PI X tg e t) (h' : PI X tg e t') : PI X tg e (fun σ H Q => t σ H Q ∨ t' σ H Q) := ⟨fun pins s σ H Q I w => w.elim (h.run pins s σ H Q I) (h'.run pins s σ H Q I)⟩
theorem feeds_list {F : AP1} {H : Hp} {p : Addr} {vs : List V} {ds : List IV} (hs : ∀ F' H', Stq H F H' F' → SqL G.K H' p vs) (a : FzA G F H vs ds) : Feeds G (Itl G.K p) F H ds := by
  intro F' H' s
  have q := hs F' H' s
  refine ⟨fun i hi => ⟨vs, q, by rw [a.len]; exact hi⟩, fun i d hd => ?_⟩
  obtain ⟨v, e1, e2⟩ := (a.mono s).get hd
  refine ⟨⟨vs, v, q, e1⟩, fun x H'' y => ?_⟩
  obtain ⟨rfl, y⟩ := y
  have := y vs q
  rw [e1] at this
  cases this
  exact ⟨F', Fr.refl _ _, e2⟩
theorem feeds_tup {F : AP1} {H : Hp} {p : Addr} {vs : List V} {ds : List IV} (h : SqT G.K H p vs) (a : FzA G F H vs ds) : Feeds G (Itt G.K p) F H ds := by
  intro F' H' s
  have q := sqT_imm s.imm h
  refine ⟨fun i hi => ⟨vs, q, by rw [a.len]; exact hi⟩, fun i d hd => ?_⟩
  obtain ⟨v, e1, e2⟩ := (a.mono s).get hd
  refine ⟨⟨vs, v, q, e1⟩, fun x H'' y => ?_⟩
  obtain ⟨rfl, y⟩ := y
  have := y vs q
  rw [e1] at this
  cases this
  exact ⟨F', Fr.refl _ _, e2⟩
/-- a list, a tuple, the script -/
def itOf : IV → Option (List IV)
  | .lst xs => some xs
  | .tup xs => some xs
  | .scr ns => some (ns.map .int)
  | _ => none
theorem fz_ints {F : AP1} {H : Hp} : ∀ (ns : List Int), FzA G F H (ns.map V.int) (ns.map IV.int)
  | [] => .nil
  | n :: ns => .cons (.int n) (fz_ints ns)
def iSeq (A : E) : EL := fun ρ => (A ρ).bind fun d ρ1 => ofO (itOf d) ρ1
theorem q_seq {A : E} : ∀ σ H Q, tiOf G W (iSeq A) σ H Q → iList G.K (teOf G W A) σ H Q ∨ L2.iTup G.K (teOf G W A) σ H Q := by
  rintro σ H Q ⟨ρ, F, fp, e, h⟩
  cases hA : A ρ with
  | no => exact (by unfold iSeq at h; rw [hA] at h; exact h : False).elim
  | ex c p ρ1 =>
    refine Or.inl ⟨ρ, F, fp, e, ?_⟩
    unfold iSeq at h
    rw [hA] at h ⊢
    exact h
  | ok d ρ1 =>
    unfold iSeq at h
    rw [hA] at h
    cases d with
    | lst ds =>
      refine Or.inl ⟨ρ, F, fp, e, ?_⟩
      rw [hA]
      intro v H' F' fp' s e' r
      have h' : Oc RF G W σ H F fp (.ok ds ρ1) Q := h
      cases r with
      | @lst p vs _ f hp a z =>
        exact ⟨p, rfl, ⟨vs, SqL.of hp⟩, h' _ H' F' fp' s e' ⟨feeds_list (fun F2 H2 t => SqL.of (t.fkeep _ _ hp f)) a, by rw [← a.len]; exact z⟩⟩
    | scr ns =>
      refine Or.inl ⟨ρ, F, fp, e, ?_⟩
      rw [hA]
      intro v H' F' fp' s e' r
      have h' : Oc RF G W σ H F fp (.ok (ns.map .int) ρ1) Q := h
      cases r with
      | @scr p ns hp z =>
        exact ⟨p, rfl, ⟨_, stL_sq hp⟩, h' _ H' F' fp' s e' ⟨feeds_list (fun F2 H2 t => stL_sq (stL_imm t.imm hp)) (fz_ints ns), by rw [List.length_map]; exact Nat.le_trans z (by decide)⟩⟩
    | tup ds =>
      refine Or.inr ⟨ρ, F, fp, e, ?_⟩
      rw [hA]
      intro v H' F' fp' s e' r
      have h' : Oc RF G W σ H F fp (.ok ds ρ1) Q := h
      cases r with
      | @tup p vs _ hp a z => exact ⟨p, rfl, ⟨vs, hp⟩, h' _ H' F' fp' s e' ⟨feeds_tup hp a, by rw [← a.len]; exact z⟩⟩
    | _ => exact h.elim
theorem i_seq (o : Ok X G W) {tg l : Expr} {A : E} (ha : PE X l (teOf G W A)) : PI X tg l (tiOf G W (iSeq A)) := by
  have h := PI.or (pi_list (tg := tg) ha) (pi_tup (tg := tg) ha)
  rw [o.K] at h
  exact PI.imp h q_seq
/-- range -/
def ivR (lo : Int) (n : Nat) : List IV := (List.range n).map fun (k : Nat) => .int (lo + (k : Int))
theorem ivR_len (lo : Int) (n : Nat) : (ivR lo n).length = n := by unfold ivR; rw [List.length_map, List.length_range]
theorem ivR_get {lo : Int} {n i : Nat} {d : IV} (h : (ivR lo n)[i]? = some d) : i < n ∧ d = .int (lo + (i : Int)) := by
  have hl := (List.getElem?_eq_some_iff.mp h).1
  rw [ivR_len] at hl
  unfold ivR at h
  rw [List.getElem?_map, List.getElem?_range hl] at h
  exact ⟨hl, (Option.some.inj h).symm⟩
theorem feeds_rng {F : AP1} {H : Hp} {lo : Int} {n : Nat} : Feeds G (Itr lo n) F H (ivR lo n) := by
  intro F' H' s
  refine ⟨fun i hi => by rw [ivR_len] at hi; exact hi, fun i d hd => ?_⟩
  obtain ⟨hl, rfl⟩ := ivR_get hd
  refine ⟨hl, fun x H'' y => ?_⟩
  obtain ⟨rfl, rfl⟩ := y
  exact ⟨F', Fr.refl _ _, .int _⟩
def r1Of : List IV → Option (List IV)
  | [.int n] => if (decide (-1000000 ≤ n) && decide (n ≤ 1000000)) = true then some (ivR 0 n.toNat) else none
  | _ => none
def r2Of : List IV → Option (List IV)
  | [.int a, .int b] => if (decide (-1000000 ≤ a) && decide (a ≤ 1000000) && decide (-1000000 ≤ b) && decide (b ≤ 1000000) && decide (b - a ≤ 1000000)) = true then some (ivR a (b - a).toNat) else none
  | _ => none
def iOn (f : List IV → Option (List IV)) (A : EA) : EL := fun ρ => (A ρ).bind fun ds ρ1 => ofO (f ds) ρ1
theorem q_rng1 {A : EA} : ∀ σ H Q, tiOf G W (iOn r1Of A) σ H Q → iRng1 (taOf G W A) σ H Q := by
  rintro σ H Q ⟨ρ, F, fp, e, h⟩
  refine oc_bind e h fun xs ds ρ1 H1 F1 fp1 s1 e1 r1 h1 => ?_
  cases hf : r1Of ds with
  | none => rw [hf] at h1; exact h1.elim
  | some l =>
    rw [hf] at h1
    unfold r1Of at hf
    split at hf
    · rename_i n
      split at hf
      · rename_i hc
        simp only [Bool.and_eq_true, decide_eq_true_eq] at hc
        cases hf
        cases r1 with
        | cons r2 r3 =>
          cases r3
          cases r2.int_inv
          exact ⟨n, rfl, by omega, by omega, oc_okR h1 e1 ⟨feeds_rng, by rw [ivR_len]; unfold big; omega⟩⟩
      · cases hf
    · cases hf
theorem q_rng2 {A : EA} : ∀ σ H Q, tiOf G W (iOn r2Of A) σ H Q → iRng2 (taOf G W A) σ H Q := by
  rintro σ H Q ⟨ρ, F, fp, e, h⟩
  refine oc_bind e h fun xs ds ρ1 H1 F1 fp1 s1 e1 r1 h1 => ?_
  cases hf : r2Of ds with
  | none => rw [hf] at h1; exact h1.elim
  | some l =>
    rw [hf] at h1
    unfold r2Of at hf
    split at hf
    · rename_i a b
      split at hf
      · rename_i hc
        simp only [Bool.and_eq_true, decide_eq_true_eq] at hc
        cases hf
        cases r1 with
        | cons r2 r3 =>
          cases r3 with
          | cons r3 r4 =>
            cases r4
            cases r2.int_inv
            cases r3.int_inv
            exact ⟨a, b, rfl, ⟨by omega, by omega, by omega, by omega⟩, oc_okR h1 e1 ⟨feeds_rng, by rw [ivR_len]; unfold big; omega⟩⟩
      · cases hf
    · cases hf
theorem i_rng1 {tg a : Expr} {A : EA} {p pos : Pos} (hg : Gl X "range") (hm : X.mg "range" = none) (ha : PA X [a] (taOf G W A)) (hs : starEach [a] X.env = [(false, eval a X.env)] := by rfl) : PI X tg (.Call (.Name "range" p) [a] [] pos) (tiOf G W (iOn r1Of A)) :=
  PI.imp (pi_range1 hg hm ha hs) q_rng1
theorem i_rng2 {tg a b : Expr} {A : EA} {p pos : Pos} (hg : Gl X "range") (hm : X.mg "range" = none) (ha : PA X [a, b] (taOf G W A)) (hs : starEach [a, b] X.env = [(false, eval a X.env), (false, eval b X.env)] := by rfl) (hs2 : starEach [b] X.env = [(false, eval b X.env)] := by rfl) :
    PI X tg (.Call (.Name "range" p) [a, b] [] pos) (tiOf G W (iOn r2Of A)) := PI.imp (pi_range2 hg hm ha hs hs2) q_rng2
/-! ### comprehensions -/
def lcLoop (t : TM) (ts : EB) (el : E) (own : List Nat) : List IV → Env → Rz (List IV)
  | [], ρ => .ok [] ρ
  | d :: ds, ρ => match t d (wipeE ρ own) with
    | none => .no
    | some ρa => match ts ρa with
      | .ok false ρb => lcLoop t ts el own ds (restE ρ ρb own)
      | .ok true ρb => match el ρb with
        | .ok y ρc => (lcLoop t ts el own ds (restE ρ ρc own)).bind fun ys ρ' => .ok (y :: ys) ρ'
        | _ => .no
      | _ => .no
def iLc (M : EL) (t : TM) (ts : EB) (el : E) (own : List Nat) : E := fun ρ => (M ρ).bind fun ds ρ1 => (lcLoop t ts el own ds ρ1).bind fun xs ρ2 => .ok (.lst xs) ρ2
theorem iLc_fz (M : EL) (t : TM) (ts : EB) (el : E) (own : List Nat) : ∀ ρ d ρ', iLc M t ts el own ρ = .ok d ρ' → canFz d = true := by
  intro ρ d ρ' h
  obtain ⟨ds, ρ1, _, h1⟩ := Rz.bind_ok h
  obtain ⟨xs, ρ2, _, h2⟩ := Rz.bind_ok h1
  cases h2; rfl
def iYes : EB := fun ρ => .ok true ρ
theorem wipe_eq {l vs : List Nat} {σ σ2 : L2.St} (h : SetOnly l (L2.wipe σ vs) σ2) (hl : ∀ i ∈ l, i ∈ vs) : L2.wipe σ2 vs = L2.wipe σ vs := by
  have len : σ2.length = σ.length := by rw [h.1, wipe_length]
  apply List.ext_getElem?
  intro i
  by_cases hi : i ∈ vs
  · by_cases hlt : i < σ.length
    · have a : (L2.wipe σ2 vs)[i]? = some none := by
        cases e : (L2.wipe σ2 vs)[i]? with
        | none => have := List.getElem?_eq_none_iff.mp e; rw [wipe_length, len] at this; omega
        | some o => cases o with
          | none => rfl
          | some x => exact absurd hi (wipe_some e).2
      have b : (L2.wipe σ vs)[i]? = some none := by
        cases e : (L2.wipe σ vs)[i]? with
        | none => have := List.getElem?_eq_none_iff.mp e; rw [wipe_length] at this; omega
        | some o => cases o with
          | none => rfl
          | some x => exact absurd hi (wipe_some e).2
      rw [a, b]
    · rw [List.getElem?_eq_none_iff.mpr (by rw [wipe_length, len]; omega), List.getElem?_eq_none_iff.mpr (by rw [wipe_length]; omega)]
  · rw [wipe_out hi, h.2 i (fun m => hi (hl i m)), wipe_out hi]
theorem Stp.new {H : Hp} {F P : AP1} {p : Addr} {o : HO} (h : H p = none) : Stp H F P (upd H p o) F P := (Fr.new h).stp P
/-- an object that is not own, not frozen, not known before, is written -/
theorem EnvR.upd {F : AP1} {H : Hp} {σ : L2.St} {ρ : Env} {fp : FPt} {p : Addr} {o : HO} (e : EnvR G F H σ ρ fp) (n1 : ¬ F p) (n2 : ¬ un fp p) (hm : ∀ u, H p = some u → ¬ Imm u) : EnvR G F (L2.upd H p o) σ ρ fp := by
  have k : ∀ a u, a ≠ p → H a = some u → L2.upd H p o a = some u := fun a u h1 h2 => by rw [upd_ne h1]; exact h2
  have s : Stq H F (L2.upd H p o) F := ⟨fun a u h f => k a u (fun z => n1 (by rw [← z]; exact f)) h, fun a u h m => k a u (fun z => hm u (by rw [← z]; exact h) m) h, fun _ f => f⟩
  refine ⟨fun i d z => ?_, fun i d z => ?_, e.dis, e.nf, fun i a z q => ?_, fun i a u z q => ?_, fun a f q => ?_, e.len⟩
  · obtain ⟨w, e1, e2⟩ := e.fz i d z
    exact ⟨w, e1, e2.mono s⟩
  · obtain ⟨w, e1, e2⟩ := e.ow i d z
    exact ⟨w, e1, e2.mono s fun a u h f => k a u (fun z => n2 ⟨i, by rw [← z]; exact f⟩) h⟩
  · by_cases hp : a = p
    · rw [hp, upd_same] at q; cases q
    · rw [upd_ne hp] at q; exact e.tr i a z q
  · by_cases hp : a = p
    · exact (n2 ⟨i, by rw [← hp]; exact z⟩).elim
    · rw [upd_ne hp] at q; exact e.ni i a u z q
  · by_cases hp : a = p
    · exact n1 (by rw [← hp]; exact f)
    · rw [upd_ne hp] at q; exact e.ft a f q
theorem FzA.snoc {F : AP1} {H : Hp} : ∀ {vs : List V} {ds : List IV} {v : V} {d : IV}, FzA G F H vs ds → Fz G F H v d → FzA G F H (vs ++ [v]) (ds ++ [d])
  | _, _, _, _, .nil, h => .cons h .nil
  | _, _, _, _, .cons a t, h => .cons a (FzA.snoc t h)
/-- what holds between the turns of a comprehension -/
structure LcW (G : Gx) (W : WX) (σ : L2.St) (H1 : Hp) (F1 : AP1) (fp1 : FPt) (ds : List IV) (t : TM) (ts : EB) (el : E) (own : List Nat) (Q : VK) (D : Addr) (i : Nat) (H : Hp) (ρ : Env) (F : AP1) (fp : FPt) (acc : List V) (xs : List IV) : Prop where
  stp : Stp H1 F1 (un fp1) H F (un fp)
  env : EnvR G F H σ ρ fp
  at_ : H D = some (.lst acc)
  nf : ¬ F D
  np : ¬ un fp D
  fz : FzA G F H acc xs
  len : acc.length ≤ i
  rest : OcO G W σ H1 F1 fp1 ((lcLoop t ts el own (ds.drop i) ρ).bind fun ys ρ' => .ok (.lst (xs ++ ys)) ρ') Q
theorem q_lc {M : EL} {t : TM} {ts : EB} {el : E} {own l : List Nat} (hl : ∀ i ∈ l, i ∈ own) : ∀ σ H Q, toOf G W (iLc M t ts el own) σ H Q → tLc (tiOf G W M) (tgOf G l t) (ttOf G W0 ts) (teOf G W0 el) own σ H Q := by
  rintro σ H Q ⟨ρ, F, fp, e, h⟩
  refine ocO_bind e h fun J ds ρ1 H1 F1 fp1 s1 e1 r1 h1 => ?_
  obtain ⟨feeds, hbig⟩ := r1
  intro D hD
  refine ⟨fun i m H => m = ds.length - i ∧ i ≤ ds.length ∧ ∃ ρ F fp acc xs, LcW G W σ H1 F1 fp1 ds t ts el own Q D i H ρ F fp acc xs, ⟨ds.length, rfl, Nat.zero_le _, ρ1, F1, fp1, [], [], ?_⟩, ?_⟩
  · exact ⟨Stp.new hD, e1.fr (Fr.new hD), upd_same, fun f => e1.ft D f hD, fun ⟨i, q⟩ => e1.tr i D q hD, .nil, Nat.le_refl _, h1⟩
  rintro i m H' ⟨rfl, hi, ρ, F, fp, acc, xs, w⟩
  have fd := feeds F H' (e1.stq w.stp)
  by_cases hlt : i < ds.length
  · obtain ⟨d, hd⟩ : ∃ d, ds[i]? = some d := ⟨ds[i], List.getElem?_eq_getElem hlt⟩
    obtain ⟨go, yl⟩ := fd.2 i d hd
    have hdrop : ds.drop i = d :: ds.drop (i + 1) := by
      rw [List.drop_eq_getElem_cons hlt]
      congr 1
      rw [List.getElem?_eq_getElem hlt] at hd
      exact Option.some.inj hd
    refine Or.inr ⟨go, fun H2 => i + 1 ≤ ds.length ∧ ∃ ρ F fp acc xs, LcW G W σ H1 F1 fp1 ds t ts el own Q D (i + 1) H2 ρ F fp acc xs, fun H2 q => ⟨ds.length - (i + 1), by omega, rfl, q⟩, ?_⟩
    intro x H2 y
    obtain ⟨F2, fr, fx⟩ := yl x H2 y
    have rest := w.rest
    rw [hdrop] at rest
    have e2 : EnvR G F2 H2 σ ρ fp := w.env.fr fr
    have D2 : H2 D = some (.lst acc) := fr.keep _ _ w.at_
    have nD2 : ¬ F2 D := fun f => by
      rcases fr.fnew D f with g | ⟨g, _⟩
      · exact w.nf g
      · rw [w.at_] at g; cases g
    have st2 : Stp H1 F1 (un fp1) H2 F2 (un fp) := w.stp.trans (fr.stp _)
    simp only [lcLoop] at rest
    refine ⟨wipeE ρ own, F2, fp, d, e2.wipe own, fx, ?_⟩
    cases ht : t d (wipeE ρ own) with
    | none => rw [ht] at rest; exact rest.elim
    | some ρa =>
      rw [ht] at rest
      intro σ2 fp2 e3 p3 so
      have hw := wipe_eq so hl
      refine ⟨hw, ρa, F2, fp2, e3, ?_⟩
      have st3 : Stp H1 F1 (un fp1) H2 F2 (un fp2) := ⟨st2.keep, st2.frm, st2.fnew, fun a z => st2.pnew a (p3 a z), st2.dom⟩
      have e3' : Stq H2 F2 H2 F2 := Stq.refl _ _
      cases hts : ts ρa with
      | no => simp only [hts] at rest; exact rest.elim
      | ex c p ρb => simp only [hts] at rest; exact rest.elim
      | ok b ρb =>
        simp only [hts] at rest
        intro b' H3 F3 fp3 s3 e4 rb
        obtain rfl : b' = b := rb
        have D3 : H3 D = some (.lst acc) := s3.keep _ _ D2 fun z => w.np (p3 D z)
        have nD3 : ¬ F3 D := fun f => by
          rcases s3.fnew D f with g | g | g
          · exact nD2 g
          · exact w.np (p3 D g)
          · rw [D2] at g; cases g
        have nP3 : ¬ un fp3 D := fun f => by
          rcases s3.pnew D f with g | g
          · exact w.np (p3 D g)
          · rw [D2] at g; cases g
        have st4 : Stp H1 F1 (un fp1) H3 F3 (un fp3) := st3.trans s3
        have q3 : Stq H' F H3 F3 := fr.stq.trans (e3.stq s3)
        cases b' with
        | false =>
          simp only [Bool.false_eq_true, if_false]
          refine ⟨by omega, restE ρ ρb own, F3, fp3, acc, xs, st4, e4.rest hw fun j dj z => ?_, D3, nD3, nP3, w.fz.mono q3, by have := w.len; omega, rest⟩
          obtain ⟨v, g1, g2⟩ := w.env.fz j dj z
          exact ⟨v, g1, g2.mono q3⟩
        | true =>
          simp only [if_true]
          refine ⟨ρb, F3, fp3, e4, ?_⟩
          cases hel : el ρb with
          | no => simp only [hel] at rest; exact rest.elim
          | ex c p ρc => simp only [hel] at rest; exact rest.elim
          | ok y ρc =>
            simp only [hel] at rest
            intro v H4 F4 fp4 s4 e5 fv
            have D4 : H4 D = some (.lst acc) := s4.keep _ _ D3 nP3
            have nD4 : ¬ F4 D := fun f => by
              rcases s4.fnew D f with g | g | g
              · exact nD3 g
              · exact nP3 g
              · rw [D3] at g; cases g
            have nP4 : ¬ un fp4 D := fun f => by
              rcases s4.pnew D f with g | g
              · exact nP3 g
              · rw [D3] at g; cases g
            have st5 : Stp H1 F1 (un fp1) H4 F4 (un fp4) := st4.trans s4
            have q4 : Stq H' F H4 F4 := q3.trans (e4.stq s4)
            have hal : acc.length < big := by have := w.len; omega
            have e6 : EnvR G F4 (upd H4 D (.lst (acc ++ [v]))) σ (restE ρ ρc own) fp4 := by
              refine EnvR.upd (e5.rest hw fun j dj z => ?_) nD4 nP4 fun u z => ?_
              · obtain ⟨v, g1, g2⟩ := w.env.fz j dj z
                exact ⟨v, g1, g2.mono q4⟩
              · rw [D4] at z; cases z; exact fun z => z
            have st6 : Stp H1 F1 (un fp1) (upd H4 D (.lst (acc ++ [v]))) F4 (un fp4) := by
              refine ⟨fun a o z n => ?_, st5.frm, st5.fnew, st5.pnew, fun a z => ?_⟩
              · have : a ≠ D := fun q => by rw [q, hD] at z; cases z
                rw [upd_ne this]; exact st5.keep a o z n
              · by_cases hp : a = D
                · rw [hp, upd_same] at z; cases z
                · rw [upd_ne hp] at z; exact st5.dom a z
            have q5 : Stq H4 F4 (upd H4 D (.lst (acc ++ [v]))) F4 := by
              refine ⟨fun a o z f => ?_, fun a o z mm => ?_, fun _ f => f⟩
              · rw [upd_ne (fun q => nD4 (by rw [← q]; exact f))]; exact z
              · rw [upd_ne (fun q => by rw [q, D4] at z; cases z; exact mm)]; exact z
            refine ⟨acc, D4, Nat.lt_of_lt_of_le hal big_line, by omega, restE ρ ρc own, F4, fp4, acc ++ [v], xs ++ [y], st6, e6, upd_same, nD4, nP4, (FzA.snoc (w.fz.mono q4) fv).mono q5, by rw [List.length_append, List.length_singleton]; have := w.len; omega, ?_⟩
            have hr : ((lcLoop t ts el own (ds.drop (i + 1)) (restE ρ ρc own)).bind fun ys ρ' => Rz.ok (y :: ys) ρ').bind (fun ys ρ' => Rz.ok (IV.lst (xs ++ ys)) ρ')
                = (lcLoop t ts el own (ds.drop (i + 1)) (restE ρ ρc own)).bind fun ys ρ' => Rz.ok (IV.lst (xs ++ [y] ++ ys)) ρ' := by
              cases lcLoop t ts el own (ds.drop (i + 1)) (restE ρ ρc own) with
              | ok a b => simp only [Rz.bind, List.append_assoc, List.singleton_append]
              | ex c p b => rfl
              | no => rfl
            rw [← hr]; exact rest
  · refine Or.inl ⟨fd.1 i (by omega), ?_⟩
    have rest := w.rest
    have hn : ds.drop i = [] := List.drop_eq_nil_iff.mpr (by omega)
    rw [hn] at rest
    have rest' : OcO G W σ H1 F1 fp1 (.ok (.lst (xs ++ [])) ρ) Q := rest
    rw [List.append_nil] at rest'
    refine rest' (.ref D) H' F fp (fun a => a = D) w.stp w.env (.lst w.at_ w.fz (by have := w.len; omega) fun _ => Iff.rfl) ⟨?_, ?_, ?_, ?_, ?_⟩
    · intro a z; rw [z]; exact hD
    · intro a z q; rw [z, w.at_] at q; cases q
    · intro a z; rw [z]; exact w.nf
    · intro a z; rw [z]; exact w.np
    · intro a o z q; rw [z, w.at_] at q; cases q; exact fun z => z
theorem Ok.blk (o : Ok X G W) {s : Shared} {H : Hp} {scope : Scope} {cenv : PySem.Env} {fp : List Addr} : Ok (X.blk s H scope cenv fp) G W0 := ⟨o.K, o.calm, takes0, o.hu⟩
theorem o_lc (o : Ok X G W) {elt tg iter : Expr} {ifs : List Expr} {scope : Scope} {own : List (Str × Nat)} {pos : Pos} {M : EL} {t : TM} {l : List Nat} {ts : EB} {el : E} (hN : X.N.Nodup) (hi : PI X tg iter (tiOf G W M)) (ok : BlkOk X.N X.env.scope scope own)
    (hg : ∀ (s : Shared) (H : Hp) (C : Addr) (cl : List (Str × Addr)) (fp : List Addr), PG (X.blk s H scope (compEnvC scope cl C X.env) fp) tg (tgOf G l t)) (ht : ∀ (s : Shared) (H : Hp) (C : Addr) (cl : List (Str × Addr)) (fp : List Addr), PTs (X.blk s H scope (compEnvC scope cl C X.env) fp) ifs (ttOf G W0 ts))
    (he : ∀ (s : Shared) (H : Hp) (C : Addr) (cl : List (Str × Addr)) (fp : List Addr), PE (X.blk s H scope (compEnvC scope cl C X.env) fp) elt (teOf G W0 el)) (hl : ∀ i ∈ l, i ∈ own.map (·.2) := by decide) (hs : ∀ x, foldedSetIterable iter X.env x = pure x := by intro _; rfl) :
    PE X (.ListComp elt [⟨tg, iter, ifs, 0⟩] scope pos) (toOf G W (iLc M t ts el (own.map (·.2)))) := PE.imp (pe_lc o.calm hN hi ok hg ht he hs) (q_lc hl)
theorem PTs.imp {ifs : List Expr} {t t' : TT} (h : PTs X ifs t) (q : ∀ σ H Q, t' σ H Q → t σ H Q) : PTs X ifs t' := ⟨fun pins s σ H Q I w => h.run pins s σ H Q I (q _ _ _ w)⟩
theorem ts_nil : PTs X [] (ttOf G W iYes) := PTs.imp pts_nil fun σ H Q ⟨ρ, F, fp, e, h⟩ => oc_okR h e rfl
theorem ts_one {c : Expr} {t : EB} (h : PT X c (ttOf G W t)) : PTs X [c] (ttOf G W t) := pts_one h
theorem m_lc (o : Ok X G W) {elt tg iter : Expr} {ifs : List Expr} {scope : Scope} {own : List (Str × Nat)} {pos : Pos} {M : EL} {t : TM} {l : List Nat} {ts : EB} {el : E} (h : PE X (.ListComp elt [⟨tg, iter, ifs, 0⟩] scope pos) (toOf G W (iLc M t ts el (own.map (·.2))))) :
    PE X (.ListComp elt [⟨tg, iter, ifs, 0⟩] scope pos) (teOf G W (iLc M t ts el (own.map (·.2)))) := m_frz h (iLc_fz _ _ _ _ _)
end
end MR
set_option maxRecDepth 100000
set_option maxHeartbeats 4000000
/-! MirH: statements. -/
namespace MR
open PySem L2
inductive Fl where
  | nx (ρ : Env) | rt (d : IV) (ρ : Env) | bk (ρ : Env) | ct (ρ : Env) | ex (c : String) (p : List (Str × IV)) (ρ : Env) | no
abbrev S := Env → Fl
def Pn (pin : List Nat) (σ σ' : L2.St) : Prop := σ'.length = σ.length ∧ ∀ i ∈ pin, σ'[i]? = σ[i]?
theorem Pn.refl (pin : List Nat) (σ : L2.St) : Pn pin σ σ := ⟨rfl, fun _ _ => rfl⟩
theorem Pn.trans {pin : List Nat} {a b c : L2.St} (h : Pn pin a b) (k : Pn pin b c) : Pn pin a c := ⟨k.1.trans h.1, fun i m => (k.2 i m).trans (h.2 i m)⟩
theorem SetOnly.pn {l pin : List Nat} {σ σ' : L2.St} (h : SetOnly l σ σ') (d : ∀ i ∈ pin, i ∉ l) : Pn pin σ σ' := ⟨h.1, fun i m => h.2 i (d i m)⟩
def OcS (G : Gx) (W : WX) (pin : List Nat) (σ : L2.St) (H : Hp) (F : AP1) (fp : FPt) (r : Fl) (D : Ends) : Prop := match r with
  | .nx ρ' => ∀ σ' H' F' fp', Stp H F (un fp) H' F' (un fp') → EnvR G F' H' σ' ρ' fp' → Pn pin σ σ' → D.nx σ' H'
  | .bk ρ' => ∀ σ' H' F' fp', Stp H F (un fp) H' F' (un fp') → EnvR G F' H' σ' ρ' fp' → Pn pin σ σ' → D.bk σ' H'
  | .ct ρ' => ∀ σ' H' F' fp', Stp H F (un fp) H' F' (un fp') → EnvR G F' H' σ' ρ' fp' → Pn pin σ σ' → D.ct σ' H'
  | .rt d ρ' => ∀ v σ' H' F' fp', Stp H F (un fp) H' F' (un fp') → EnvR G F' H' σ' ρ' fp' → Pn pin σ σ' → Fz G F' H' v d → D.rt v H'
  | .ex c p ρ' => ∀ d σ' H' F' fp', Stp H F (un fp) H' F' (un fp') → EnvR G F' H' σ' ρ' fp' → Pn pin σ σ' → ExD G F' H' d p → W (G.ecl c) d σ' H'
  | .no => False
def tsOf (G : Gx) (W : WX) (pin : List Nat) (m : S) : TS := fun D σ H => ∃ ρ F fp, EnvR G F H σ ρ fp ∧ OcS G W pin σ H F fp (m ρ) D
section
variable {X : Cx} {G : Gx} {W : WX} {pin : List Nat} {σ σ1 : L2.St} {H H1 : Hp} {F F1 : AP1} {fp fp1 : FPt} {ρ : Env} {D : Ends}
theorem OcS.step {r : Fl} (s : Stp H F (un fp) H1 F1 (un fp1)) (p : Pn pin σ σ1) (h : OcS G W pin σ H F fp r D) : OcS G W pin σ1 H1 F1 fp1 r D := by
  cases r with
  | nx ρ' => exact fun σ' H' F' fp' t e q => h σ' H' F' fp' (s.trans t) e (p.trans q)
  | bk ρ' => exact fun σ' H' F' fp' t e q => h σ' H' F' fp' (s.trans t) e (p.trans q)
  | ct ρ' => exact fun σ' H' F' fp' t e q => h σ' H' F' fp' (s.trans t) e (p.trans q)
  | rt d ρ' => exact fun v σ' H' F' fp' t e q r => h v σ' H' F' fp' (s.trans t) e (p.trans q) r
  | ex c pp ρ' => exact fun d σ' H' F' fp' t e q r => h d σ' H' F' fp' (s.trans t) e (p.trans q) r
  | no => exact h
def Rz.bindS {α : Type} (r : Rz α) (k : α → Env → Fl) : Fl := match r with
  | .ok a ρ => k a ρ
  | .ex c p ρ => .ex c p ρ
  | .no => .no
theorem ocS_bind {α β : Type} {R : Gx → L2.St → AP1 → Hp → β → α → Prop} {m : Env → Rz α} {k : α → Env → Fl} {P : β → Hp → Prop} (e : EnvR G F H σ ρ fp) (h : OcS G W pin σ H F fp ((m ρ).bindS k) D)
    (hk : ∀ x d ρ1 H1 F1 fp1, Stp H F (un fp) H1 F1 (un fp1) → EnvR G F1 H1 σ ρ1 fp1 → R G σ F1 H1 x d → OcS G W pin σ H1 F1 fp1 (k d ρ1) D → P x H1) : tOf R G W m σ H P := by
  refine ⟨ρ, F, fp, e, ?_⟩
  cases hm : m ρ with
  | ok d ρ1 =>
    rw [hm] at h
    exact fun v H' F' fp' t e' r => hk v d ρ1 H' F' fp' t e' r (OcS.step t (Pn.refl _ _) h)
  | ex c p ρ' => rw [hm] at h; exact fun d H' F' fp' t e' r => h d σ H' F' fp' t e' (Pn.refl _ _) r
  | no => rw [hm] at h; exact h
/-- .. where the result is own -/
theorem ocS_bindO {m : E} {k : IV → Env → Fl} {P : VK} (e : EnvR G F H σ ρ fp) (h : OcS G W pin σ H F fp ((m ρ).bindS k) D)
    (hk : ∀ x d ρ1 H1 F1 fp1 q, Stp H F (un fp) H1 F1 (un fp1) → EnvR G F1 H1 σ ρ1 fp1 → Own G F1 H1 x d q → New1 H H1 F1 fp1 q → OcS G W pin σ H F fp (k d ρ1) D → P x H1) : toOf G W m σ H P := by
  refine ⟨ρ, F, fp, e, ?_⟩
  cases hm : m ρ with
  | ok d ρ1 =>
    rw [hm] at h
    exact fun v H' F' fp' q t e' r n => hk v d ρ1 H' F' fp' q t e' r n h
  | ex c p ρ' => rw [hm] at h; exact fun d H' F' fp' t e' r => h d σ H' F' fp' t e' (Pn.refl _ _) r
  | no => rw [hm] at h; exact h
theorem PS.imp {st : Stmt} {t t' : TS} (h : PS X st t) (q : ∀ D σ H, t' D σ H → t D σ H) : PS X st t' := ⟨fun pins s σ H D I w => h.run pins s σ H D I (q _ _ _ w)⟩
theorem PSs.imp {st : List Stmt} {t t' : TS} (h : PSs X st t) (q : ∀ D σ H, t' D σ H → t D σ H) : PSs X st t' := ⟨fun pins s σ H D I w => h.run pins s σ H D I (q _ _ _ w)⟩
/-! ### blocks -/
def sNx : S := fun ρ => .nx ρ
def sSeq (a b : S) : S := fun ρ => match a ρ with
  | .nx ρ' => b ρ'
  | r => r
theorem q_nx : ∀ D σ H, tsOf G W pin sNx D σ H → tNext D σ H := by
  rintro D σ H ⟨ρ, F, fp, e, h⟩
  exact h σ H F fp (Stp.refl _ _ _) e (Pn.refl _ _)
theorem q_seqS {a b : S} : ∀ D σ H, tsOf G W pin (sSeq a b) D σ H → tSeq (tsOf G W pin a) (tsOf G W pin b) D σ H := by
  rintro D σ H ⟨ρ, F, fp, e, h⟩
  refine ⟨ρ, F, fp, e, ?_⟩
  unfold sSeq at h
  cases ha : a ρ with
  | nx ρ' =>
    rw [ha] at h
    exact fun σ' H' F' fp' t e' p => ⟨ρ', F', fp', e', OcS.step t p h⟩
  | _ => rw [ha] at h; exact h
theorem b_nil : PSs X [] (tsOf G W pin sNx) := PSs.imp pss_nil q_nx
theorem b_one {st : Stmt} {a : S} (h : PS X st (tsOf G W pin a)) : PSs X [st] (tsOf G W pin a) := pss_one h
theorem b_cons {st : Stmt} {rest : List Stmt} {a b : S} (h : PS X st (tsOf G W pin a)) (k : PSs X rest (tsOf G W pin b)) : PSs X (st :: rest) (tsOf G W pin (sSeq a b)) := PSs.imp (pss_cons h k) q_seqS
def sPass : S := sNx
theorem s_pass {pos : Pos} : PS X (.Pass pos) (tsOf G W pin sNx) := PS.imp ps_pass q_nx
def sBk : S := fun ρ => .bk ρ
def sCt : S := fun ρ => .ct ρ
theorem s_break {pos : Pos} : PS X (.Break pos) (tsOf G W pin sBk) := PS.imp ps_break fun D σ H ⟨ρ, F, fp, e, h⟩ => h σ H F fp (Stp.refl _ _ _) e (Pn.refl _ _)
theorem s_continue {pos : Pos} : PS X (.Continue pos) (tsOf G W pin sCt) := PS.imp ps_continue fun D σ H ⟨ρ, F, fp, e, h⟩ => h σ H F fp (Stp.refl _ _ _) e (Pn.refl _ _)
/-- a way that is not gone -/
def sNo : S := fun _ => .no
theorem s_no {st : Stmt} : PS X st (tsOf G W pin sNo) := PS.imp ps_never fun D σ H ⟨ρ, F, fp, e, h⟩ => h
theorem b_no {st : List Stmt} : PSs X st (tsOf G W pin sNo) := PSs.imp pss_never fun D σ H ⟨ρ, F, fp, e, h⟩ => h
/-! ### stores -/
/-- x = e, e a value for all -/
def sSet (i : Nat) (m : E) : S := fun ρ => (m ρ).bindS fun d ρ1 => .nx (ρ1.set i (.fz d))
theorem q_set {i : Nat} {m : E} (hp : i ∉ pin) : ∀ D σ H, tsOf G W pin (sSet i m) D σ H → tAsg (teOf G W m) (gName i) D σ H := by
  rintro D σ H ⟨ρ, F, fp, e, h⟩
  refine ocS_bind e h fun x d ρ1 H1 F1 fp1 s1 e1 r1 h1 => ?_
  exact h1 _ H1 F1 fp1 (Stp.refl _ _ _) (e1.setFz r1) ((SetOnly.set i σ (some x)).pn fun j m z => hp (by rw [List.mem_singleton] at z; rw [← z]; exact m))
theorem s_set (i : Nat) {x : Str} {e : Expr} {m : E} {pos' pos : Pos} (hN : X.N.Nodup) (he : PE X e (teOf G W m)) (hi : X.N[i]? = some x := by rfl) (hx : Loc X.env.scope x := by first | exact Or.inl rfl | exact Or.inr rfl) (hp : i ∉ pin := by decide)
    (hs : swapsWith e (some (.Name x pos')) pos.line X.env = pure false := by rfl) (hf : X.fn x = true ∨ X.env.scope.names.lookup x = some .local := by first | exact .inl rfl | exact .inr rfl) : PS X (.Assign [.Name x pos'] e pos) (tsOf G W pin (sSet i m)) :=
  PS.imp (ps_set hN hi hx he hs hf) (q_set hp)
/-- x = e, e new: x's own -/
def sSetO (i : Nat) (m : E) : S := fun ρ => (m ρ).bindS fun d ρ1 => .nx (ρ1.set i (.ow d))
theorem EnvR.setOw {F : AP1} {H H0 : Hp} {σ : L2.St} {ρ : Env} {fp : FPt} {i : Nat} {v : V} {d : IV} {q : AP1} (e : EnvR G F H σ ρ fp) (r : Own G F H v d q) (n : New1 H0 H F fp q) : EnvR G F H (σ.set i (some v)) (ρ.set i (.ow d)) (fun j => if j = i then q else fp j) := by
  have fpi : ∀ j a, (if j = i then q else fp j) a → (j = i ∧ q a) ∨ (j ≠ i ∧ fp j a) := fun j a h => by
    by_cases hj : j = i
    · rw [if_pos hj] at h; exact Or.inl ⟨hj, h⟩
    · rw [if_neg hj] at h; exact Or.inr ⟨hj, h⟩
  refine ⟨fun j d' z => ?_, fun j d' z => ?_, fun j k a h1 h2 => ?_, fun j a h => ?_, fun j a h => ?_, fun j a o h => ?_, e.ft, by rw [List.length_set, List.length_set]; exact e.len⟩
  · rcases get_set z with ⟨rfl, z1, hl⟩ | ⟨hj, z⟩
    · cases z1
    · obtain ⟨w, e1, e2⟩ := e.fz j d' z
      exact ⟨w, by rw [List.getElem?_set_ne (Ne.symm hj)]; exact e1, e2⟩
  · rcases get_set z with ⟨rfl, z1, hl⟩ | ⟨hj, z⟩
    · cases z1
      exact ⟨v, List.getElem?_set_self (by rw [← e.len]; exact hl), by rw [if_pos rfl]; exact r⟩
    · obtain ⟨w, e1, e2⟩ := e.ow j d' z
      exact ⟨w, by rw [List.getElem?_set_ne (Ne.symm hj)]; exact e1, by rw [if_neg hj]; exact e2⟩
  · rcases fpi j a h1 with ⟨rfl, g⟩ | ⟨g1, g2⟩
    · rcases fpi k a h2 with ⟨rfl, _⟩ | ⟨_, g3⟩
      · rfl
      · exact (n.np a g ⟨_, g3⟩).elim
    · rcases fpi k a h2 with ⟨rfl, g3⟩ | ⟨_, g3⟩
      · exact (n.np a g3 ⟨_, g2⟩).elim
      · exact e.dis j k a g2 g3
  · rcases fpi j a h with ⟨_, g⟩ | ⟨_, g⟩
    · exact n.nf a g
    · exact e.nf j a g
  · rcases fpi j a h with ⟨_, g⟩ | ⟨_, g⟩
    · exact n.tr a g
    · exact e.tr j a g
  · rcases fpi j a h with ⟨_, g⟩ | ⟨_, g⟩
    · exact n.ni a o g
    · exact e.ni j a o g
theorem Stp.setOw {H H1 : Hp} {F F1 : AP1} {P : AP1} {fp1 : FPt} {i : Nat} {q : AP1} (s : Stp H F P H1 F1 (un fp1)) (n : ∀ a, q a → H a = none) : Stp H F P H1 F1 (un fun j => if j = i then q else fp1 j) :=
  ⟨s.keep, s.frm, s.fnew, fun a ⟨j, h⟩ => by
    have h' : (if j = i then q else fp1 j) a := h
    by_cases hj : j = i
    · rw [if_pos hj] at h'; exact Or.inr (n a h')
    · rw [if_neg hj] at h'; exact s.pnew a ⟨j, h'⟩, s.dom⟩
theorem q_setO {i : Nat} {m : E} (hp : i ∉ pin) : ∀ D σ H, tsOf G W pin (sSetO i m) D σ H → tAsg (toOf G W m) (gName i) D σ H := by
  rintro D σ H ⟨ρ, F, fp, e, h⟩
  refine ocS_bindO e h fun x d ρ1 H1 F1 fp1 q s1 e1 r1 n1 h1 => ?_
  exact h1 _ H1 F1 _ (s1.setOw n1.old) (e1.setOw r1 n1) ((SetOnly.set i σ (some x)).pn fun j m z => hp (by rw [List.mem_singleton] at z; rw [← z]; exact m))
theorem s_setO (i : Nat) {x : Str} {e : Expr} {m : E} {pos' pos : Pos} (hN : X.N.Nodup) (he : PE X e (toOf G W m)) (hi : X.N[i]? = some x := by rfl) (hx : Loc X.env.scope x := by first | exact Or.inl rfl | exact Or.inr rfl) (hp : i ∉ pin := by decide)
    (hs : swapsWith e (some (.Name x pos')) pos.line X.env = pure false := by rfl) (hf : X.fn x = true ∨ X.env.scope.names.lookup x = some .local := by first | exact .inl rfl | exact .inr rfl) : PS X (.Assign [.Name x pos'] e pos) (tsOf G W pin (sSetO i m)) :=
  PS.imp (ps_set hN hi hx he hs hf) (q_setO hp)
/-- target = e -/
def sAsg (t : TM) (m : E) : S := fun ρ => (m ρ).bindS fun d ρ1 => match t d ρ1 with
  | some ρ2 => .nx ρ2
  | none => .no
theorem q_asg {l : List Nat} {t : TM} {m : E} (hp : ∀ i ∈ pin, i ∉ l) : ∀ D σ H, tsOf G W pin (sAsg t m) D σ H → tAsg (teOf G W m) (tgOf G l t) D σ H := by
  rintro D σ H ⟨ρ, F, fp, e, h⟩
  refine ocS_bind e h fun x d ρ1 H1 F1 fp1 s1 e1 r1 h1 => ?_
  refine ⟨ρ1, F1, fp1, d, e1, r1, ?_⟩
  cases ht : t d ρ1 with
  | none => rw [ht] at h1; exact h1.elim
  | some ρ2 =>
    rw [ht] at h1
    exact fun σ' fp' e' p' so => h1 σ' H1 F1 fp' ⟨fun _ _ z _ => z, fun _ z => z, fun _ z => Or.inl z, fun a z => Or.inl (p' a z), fun _ z => z⟩ e' (so.pn hp)
theorem s_asg {tg e : Expr} {l : List Nat} {t : TM} {m : E} {pos : Pos} (he : PE X e (teOf G W m)) (hg : PG X tg (tgOf G l t)) (hp : ∀ i ∈ pin, i ∉ l := by decide) (hs : swapsWithSole [tg] e pos.line X.env = pure false := by rfl) (hw : swappedStores [tg] e X.env = pure none := by rfl)
    (h1 : (assignEach [tg] X.env).map (·.2) = [assign tg X.env] := by rfl) : PS X (.Assign [tg] e pos) (tsOf G W pin (sAsg t m)) := PS.imp (ps_asg he hg hs hw h1) (q_asg hp)
/-- a, b = e, f -/
def sPar (i j : Nat) (m : EA) : S := fun ρ => (m ρ).bindS fun ds ρ1 => match ds with
  | [a, b] => .nx ((ρ1.set i (.fz a)).set j (.fz b))
  | _ => .no
theorem q_par {i j : Nat} {m : EA} (hp : i ∉ pin) (hp' : j ∉ pin) : ∀ D σ H, tsOf G W pin (sPar i j m) D σ H → tPar i j (taOf G W m) D σ H := by
  rintro D σ H ⟨ρ, F, fp, e, h⟩
  refine ocS_bind e h fun xs ds ρ1 H1 F1 fp1 s1 e1 r1 h1 => ?_
  split at h1
  · rename_i a b
    cases r1 with
    | @cons va _ _ _ ra r2 =>
      cases r2 with
      | @cons vb _ _ _ rb r3 =>
        cases r3
        refine ⟨va, vb, rfl, h1 _ H1 F1 fp1 (Stp.refl _ _ _) ((e1.setFz ra).setFz rb) ?_⟩
        exact Pn.trans ((SetOnly.set i σ (some va)).pn fun k m z => hp (by rw [List.mem_singleton] at z; rw [← z]; exact m)) ((SetOnly.set j _ (some vb)).pn fun k m z => hp' (by rw [List.mem_singleton] at z; rw [← z]; exact m))
  · exact h1.elim
/-! ### if, return, an expression -/
def sIf (c : EB) (a b : S) : S := fun ρ => (c ρ).bindS fun k ρ1 => if k = true then a ρ1 else b ρ1
theorem q_ifS {c : EB} {a b : S} : ∀ D σ H, tsOf G W pin (sIf c a b) D σ H → tIfS (ttOf G W c) (tsOf G W pin a) (tsOf G W pin b) D σ H := by
  rintro D σ H ⟨ρ, F, fp, e, h⟩
  refine ocS_bind e h fun x d ρ1 H1 F1 fp1 s1 e1 r1 h1 => ?_
  obtain rfl : x = d := r1
  cases x with
  | true => exact ⟨ρ1, F1, fp1, e1, h1⟩
  | false => exact ⟨ρ1, F1, fp1, e1, h1⟩
theorem s_if {c : Expr} {a b : List Stmt} {C : EB} {A B : S} {pos : Pos} (hc : PT X c (ttOf G W C)) (ha : PSs X a (tsOf G W pin A)) (hb : PSs X b (tsOf G W pin B)) : PS X (.If c a b pos) (tsOf G W pin (sIf C A B)) := PS.imp (ps_if hc ha hb) q_ifS
def sRet (m : E) : S := fun ρ => (m ρ).bindS fun d ρ1 => .rt d ρ1
theorem q_ret {m : E} : ∀ D σ H, tsOf G W pin (sRet m) D σ H → tRet (teOf G W m) D σ H := by
  rintro D σ H ⟨ρ, F, fp, e, h⟩
  exact ocS_bind e h fun x d ρ1 H1 F1 fp1 s1 e1 r1 h1 => h1 x σ H1 F1 fp1 (Stp.refl _ _ _) e1 (Pn.refl _ _) r1
theorem s_ret {e : Expr} {m : E} {pos : Pos} (he : PE X e (teOf G W m)) : PS X (.Return (some e) pos) (tsOf G W pin (sRet m)) := PS.imp (ps_ret he) q_ret
def sDrop (m : E) : S := fun ρ => (m ρ).bindS fun _ ρ1 => .nx ρ1
theorem q_drop {m : E} : ∀ D σ H, tsOf G W pin (sDrop m) D σ H → tDrop (teOf G W m) D σ H := by
  rintro D σ H ⟨ρ, F, fp, e, h⟩
  exact ocS_bind e h fun x d ρ1 H1 F1 fp1 s1 e1 r1 h1 => h1 σ H1 F1 fp1 (Stp.refl _ _ _) e1 (Pn.refl _ _)
theorem s_expr {e : Expr} {m : E} {pos : Pos} (he : PE X e (teOf G W m)) (hs : swapsWith e none pos.line X.env = pure false := by rfl) : PS X (.Expr e pos) (tsOf G W pin (sDrop m)) := PS.imp (ps_expr he hs) q_drop
/-! ### for -/
def forLoop (t : TM) (body : S) : List IV → Env → Fl
  | [], ρ => .nx ρ
  | d :: ds, ρ => match t d ρ with
    | none => .no
    | some ρa => match body ρa with
      | .nx ρ' => forLoop t body ds ρ'
      | .ct ρ' => forLoop t body ds ρ'
      | .bk ρ' => .nx ρ'
      | r => r
def sFor (M : EL) (t : TM) (body : S) : S := fun ρ => (M ρ).bindS fun ds ρ1 => forLoop t body ds ρ1
theorem q_for {M : EL} {l : List Nat} {t : TM} {body : S} (hp : ∀ i ∈ pin, i ∉ l) : ∀ D σ H, tsOf G W pin (sFor M t body) D σ H → tFor (tiOf G W M) (tgOf G l t) (tsOf G W pin body) D σ H := by
  rintro D σ H ⟨ρ, F, fp, e, h⟩
  refine ocS_bind e h fun J ds ρ1 H1 F1 fp1 s1 e1 r1 h1 => ?_
  obtain ⟨feeds, hbig⟩ := r1
  refine ⟨fun i m σ' H' => m = ds.length - i ∧ i ≤ ds.length ∧ ∃ ρ F fp, Stp H1 F1 (un fp1) H' F (un fp) ∧ EnvR G F H' σ' ρ fp ∧ Pn pin σ σ' ∧ OcS G W pin σ H1 F1 fp1 (forLoop t body (ds.drop i) ρ) D,
    ⟨ds.length, rfl, Nat.zero_le _, ρ1, F1, fp1, Stp.refl _ _ _, e1, Pn.refl _ _, h1⟩, ?_⟩
  rintro i m σ' H' ⟨rfl, hi, ρ, F, fp, st, en, pn, w⟩
  have fd := feeds F H' (e1.stq st)
  by_cases hlt : i < ds.length
  · obtain ⟨d, hd⟩ : ∃ d, ds[i]? = some d := ⟨ds[i], List.getElem?_eq_getElem hlt⟩
    obtain ⟨go, yl⟩ := fd.2 i d hd
    have hdrop : ds.drop i = d :: ds.drop (i + 1) := by
      rw [List.drop_eq_getElem_cons hlt]
      congr 1
      rw [List.getElem?_eq_getElem hlt] at hd
      exact Option.some.inj hd
    refine Or.inr ⟨go, fun σ2 H2 => i + 1 ≤ ds.length ∧ ∃ ρ F fp, Stp H1 F1 (un fp1) H2 F (un fp) ∧ EnvR G F H2 σ2 ρ fp ∧ Pn pin σ σ2 ∧ OcS G W pin σ H1 F1 fp1 (forLoop t body (ds.drop (i + 1)) ρ) D,
      fun σ2 H2 q => ⟨ds.length - (i + 1), by omega, rfl, q⟩, ?_⟩
    intro x H2 y
    obtain ⟨F2, fr, fx⟩ := yl x H2 y
    rw [hdrop] at w
    simp only [forLoop] at w
    have e2 : EnvR G F2 H2 σ' ρ fp := en.fr fr
    have st2 : Stp H1 F1 (un fp1) H2 F2 (un fp) := st.trans (fr.stp _)
    refine ⟨ρ, F2, fp, d, e2, fx, ?_⟩
    cases ht : t d ρ with
    | none => rw [ht] at w; exact w.elim
    | some ρa =>
      rw [ht] at w
      intro σ2 fp2 e3 p3 so
      have st3 : Stp H1 F1 (un fp1) H2 F2 (un fp2) := ⟨st2.keep, st2.frm, st2.fnew, fun a z => st2.pnew a (p3 a z), st2.dom⟩
      have pn3 : Pn pin σ σ2 := pn.trans (so.pn hp)
      refine ⟨ρa, F2, fp2, e3, ?_⟩
      cases hb : body ρa with
      | nx ρ' =>
        simp only [hb] at w
        exact fun σ3 H3 F3 fp3 t3 e4 q3 => ⟨by omega, ρ', F3, fp3, st3.trans t3, e4, pn3.trans q3, w⟩
      | ct ρ' =>
        simp only [hb] at w
        exact fun σ3 H3 F3 fp3 t3 e4 q3 => ⟨by omega, ρ', F3, fp3, st3.trans t3, e4, pn3.trans q3, w⟩
      | bk ρ' =>
        simp only [hb] at w
        exact fun σ3 H3 F3 fp3 t3 e4 q3 => w σ3 H3 F3 fp3 (st3.trans t3) e4 (pn3.trans q3)
      | rt d' ρ' =>
        simp only [hb] at w
        exact fun v σ3 H3 F3 fp3 t3 e4 q3 r => w v σ3 H3 F3 fp3 (st3.trans t3) e4 (pn3.trans q3) r
      | ex c p ρ' =>
        simp only [hb] at w
        exact fun v σ3 H3 F3 fp3 t3 e4 q3 r => w v σ3 H3 F3 fp3 (st3.trans t3) e4 (pn3.trans q3) r
      | no => simp only [hb] at w; exact w
  · refine Or.inl ⟨fd.1 i (by omega), ?_⟩
    have hn : ds.drop i = [] := List.drop_eq_nil_iff.mpr (by omega)
    rw [hn] at w
    exact w σ' H' F fp st en pn
theorem s_for (o : Ok X G W) (hpa : PassesOwn (model X.prog X.w) X.A X.env X.xe) {tg iter : Expr} {body : List Stmt} {M : EL} {l : List Nat} {t : TM} {B : S} {pos : Pos} (hi : PI X tg iter (tiOf G W M)) (hg : PG X tg (tgOf G l t)) (hb : PSs X body (tsOf G W pin B)) (hp : ∀ i ∈ pin, i ∉ l := by decide)
    (hs : ∀ x, foldedSetIterable iter X.env x = pure x := by intro _; rfl) : PS X (.For tg iter body [] pos) (tsOf G W pin (sFor M t B)) := PS.imp (ps_for hpa o.calm hi hg hb hs) (q_for hp)
/-! ### while -/
def sWhile (c : EB) (body : S) : Nat → S
  | 0, _ => .no
  | n + 1, ρ => (c ρ).bindS fun k ρ1 => if k = true then (match body ρ1 with
      | .nx ρ' => sWhile c body n ρ'
      | .ct ρ' => sWhile c body n ρ'
      | .bk ρ' => .nx ρ'
      | r => r) else .nx ρ1
theorem q_while {c : EB} {body : S} (n : Nat) : ∀ D σ H, tsOf G W pin (sWhile c body n) D σ H → tWhile (ttOf G W c) (tsOf G W pin body) D σ H := by
  rintro D σ H ⟨ρ, F, fp, e, h⟩
  refine ⟨fun m σ' H' => ∃ ρ F fp, EnvR G F H' σ' ρ fp ∧ OcS G W pin σ' H' F fp (sWhile c body m ρ) D, ⟨n, ρ, F, fp, e, h⟩, ?_⟩
  rintro m σ' H' ⟨ρ, F, fp, e, h⟩
  cases m with
  | zero => exact h.elim
  | succ m =>
    refine ocS_bind e h fun x d ρ1 H1 F1 fp1 s1 e1 r1 h1 => ?_
    obtain rfl : x = d := r1
    cases x with
    | false => exact h1 σ' H1 F1 fp1 (Stp.refl _ _ _) e1 (Pn.refl _ _)
    | true =>
      simp only [if_true] at h1 ⊢
      refine ⟨fun σ2 H2 => ∃ ρ F fp, EnvR G F H2 σ2 ρ fp ∧ OcS G W pin σ2 H2 F fp (sWhile c body m ρ) D, fun σ2 H2 q => ⟨m, Nat.lt_succ_self _, q⟩, ρ1, F1, fp1, e1, ?_⟩
      cases hb : body ρ1 with
      | nx ρ' => rw [hb] at h1; exact fun σ3 H3 F3 fp3 t3 e3 q3 => ⟨ρ', F3, fp3, e3, OcS.step t3 q3 h1⟩
      | ct ρ' => rw [hb] at h1; exact fun σ3 H3 F3 fp3 t3 e3 q3 => ⟨ρ', F3, fp3, e3, OcS.step t3 q3 h1⟩
      | bk ρ' => rw [hb] at h1; exact h1
      | rt d' ρ' => rw [hb] at h1; exact h1
      | ex c p ρ' => rw [hb] at h1; exact h1
      | no => rw [hb] at h1; exact h1
theorem s_while (n : Nat) (hpa : PassesOwn (model X.prog X.w) X.A X.env X.xe) {c : Expr} {body : List Stmt} {C : EB} {B : S} {pos : Pos} (hc : PT X c (ttOf G W C)) (hb : PSs X body (tsOf G W pin B)) : PS X (.While c body [] pos) (tsOf G W pin (sWhile C B n)) := PS.imp (ps_while hpa hc hb) (q_while n)
end
end MR
set_option maxRecDepth 100000
set_option maxHeartbeats 4000000
/-! MirI: defs and their calls. -/
namespace MR
open PySem L2
inductive Rf where
  | ok (v : IV) (outs : List IV) | ex (c : String) (p : List (Str × IV)) (outs : List IV) | no
abbrev Fn := List IV → Rf
/-- the slots at a def's entry: lent ones are own -/
def envOf : List Bool → List IV → Env
  | true :: ks, d :: ds => .ow d :: envOf ks ds
  | false :: ks, d :: ds => .fz d :: envOf ks ds
  | _, _ => []
/-- .. behind it: outs, the lent ones' values -/
def envOut : List Bool → List IV → Env
  | true :: ks, d :: ds => .ow d :: envOut ks ds
  | false :: ks, ds => .un :: envOut ks ds
  | _, _ => []
def spOf (G : Gx) (ks : List Bool) (f : Fn) : Sp := fun vs H Q E => vs.length = ks.length ∧ ∃ ds F fp, ds.length = ks.length ∧ EnvR G F H (vs.map some) (envOf ks ds) fp ∧ (match f ds with
  | .ok d outs => ∀ v H' F' fp', Stp H F (un fp) H' F' (un fp') → EnvR G F' H' (vs.map some) (envOut ks outs) fp' → Fz G F' H' v d → Q v H'
  | .ex c p outs => ∀ d H' F' fp', Stp H F (un fp) H' F' (un fp') → EnvR G F' H' (vs.map some) (envOut ks outs) fp' → ExD G F' H' d p → E (G.ecl c) d H'
  | .no => False)
/-- the lent slots' values at the end -/
def outsOf : List Bool → Env → Option (List IV)
  | [], _ => some []
  | true :: ks, .ow d :: ρ => (outsOf ks ρ).map (d :: ·)
  | false :: ks, _ :: ρ => outsOf ks ρ
  | _, _ => none
def fnOf (n : Nat) (ks : List Bool) (body : S) : Fn := fun ds => match body (envOf ks ds ++ List.replicate (n - ks.length) .un) with
  | .rt d ρ => match outsOf ks ρ with
    | some outs => .ok d outs
    | none => .no
  | .nx ρ => match outsOf ks ρ with
    | some outs => .ok .non outs
    | none => .no
  | .ex c p ρ => match outsOf ks ρ with
    | some outs => .ex c p outs
    | none => .no
  | _ => .no
/-- the lent parameters' places -/
def pinOf : List Bool → Nat → List Nat
  | [], _ => []
  | true :: ks, i => i :: pinOf ks (i + 1)
  | false :: ks, i => pinOf ks (i + 1)
theorem pinOf_mem : ∀ {ks : List Bool} {i j : Nat}, j ∈ pinOf ks i ↔ ∃ k, j = i + k ∧ ks[k]? = some true
  | [], i, j => ⟨fun h => (by cases h), fun ⟨k, _, h⟩ => by simp at h⟩
  | true :: ks, i, j => by
    simp only [pinOf, List.mem_cons]
    constructor
    · rintro (h | h)
      · exact ⟨0, by omega, rfl⟩
      · obtain ⟨k, e, h⟩ := pinOf_mem.mp h
        exact ⟨k + 1, by omega, by simpa using h⟩
    · rintro ⟨k, e, h⟩
      cases k with
      | zero => exact Or.inl (by omega)
      | succ k => exact Or.inr (pinOf_mem.mpr ⟨k, by omega, by simpa using h⟩)
  | false :: ks, i, j => by
    simp only [pinOf]
    constructor
    · intro h
      obtain ⟨k, e, h⟩ := pinOf_mem.mp h
      exact ⟨k + 1, by omega, by simpa using h⟩
    · rintro ⟨k, e, h⟩
      cases k with
      | zero => simp at h
      | succ k => exact pinOf_mem.mpr ⟨k, by omega, by simpa using h⟩
theorem envOf_len : ∀ (ks : List Bool) (ds : List IV), ds.length = ks.length → (envOf ks ds).length = ks.length
  | [], [], _ => rfl
  | true :: ks, d :: ds, h => by simp only [envOf, List.length_cons]; rw [envOf_len ks ds (by simpa using h)]
  | false :: ks, d :: ds, h => by simp only [envOf, List.length_cons]; rw [envOf_len ks ds (by simpa using h)]
  | _ :: _, [], h => by simp at h
  | [], _ :: _, h => by simp at h
/-- the outs are told by the lent slots -/
theorem outs_get : ∀ {ks : List Bool} {ρ : Env} {outs : List IV}, outsOf ks ρ = some outs → (envOut ks outs).length = ks.length ∧
    ∀ (j : Nat) x, (envOut ks outs)[j]? = some x → x = .un ∨ (ks[j]? = some true ∧ ρ[j]? = some x)
  | [], ρ, outs, h => by cases h; exact ⟨rfl, fun j x e => by simp [envOut] at e⟩
  | true :: ks, [], outs, h => by simp [outsOf] at h
  | true :: ks, .un :: ρ, outs, h => by simp [outsOf] at h
  | true :: ks, .fz d :: ρ, outs, h => by simp [outsOf] at h
  | true :: ks, .ow d :: ρ, outs, h => by
    simp only [outsOf, Option.map_eq_some_iff] at h
    obtain ⟨o, h, rfl⟩ := h
    obtain ⟨h1, h2⟩ := outs_get h
    refine ⟨by simp only [envOut, List.length_cons, h1], fun j x e => ?_⟩
    cases j with
    | zero => simp only [envOut, List.getElem?_cons_zero, Option.some.injEq] at e; subst e; exact Or.inr ⟨rfl, rfl⟩
    | succ j =>
      simp only [envOut, List.getElem?_cons_succ] at e
      simpa using h2 j x e
  | false :: ks, [], outs, h => by simp [outsOf] at h
  | false :: ks, y :: ρ, outs, h => by
    simp only [outsOf] at h
    obtain ⟨h1, h2⟩ := outs_get h
    refine ⟨by simp only [envOut, List.length_cons, h1], fun j x e => ?_⟩
    cases j with
    | zero => simp only [envOut, List.getElem?_cons_zero, Option.some.injEq] at e; exact Or.inl e.symm
    | succ j =>
      simp only [envOut, List.getElem?_cons_succ] at e
      simpa using h2 j x e
section
variable {G : Gx} {F : AP1} {H : Hp}
/-- behind a body: the parameters' slots, the lent ones' values -/
theorem EnvR.outs {σ : L2.St} {ρ : Env} {fp : FPt} {ks : List Bool} {outs : List IV} {vs : List V} {N : List Str} (e : EnvR G F H σ ρ fp) (ho : outsOf ks ρ = some outs) (hv : vs.length = ks.length)
    (hp : ∀ (j : Nat), ks[j]? = some true → σ[j]? = (vs.map some)[j]?) : EnvR G F H (vs.map some) (envOut ks outs) fp := by
  obtain ⟨h1, h2⟩ := outs_get ho
  refine ⟨fun j d z => ?_, fun j d z => ?_, e.dis, e.nf, e.tr, e.ni, e.ft, by rw [h1, List.length_map, hv]⟩
  · rcases h2 j _ z with z | ⟨k, z⟩
    · cases z
    · obtain ⟨v, e1, e2⟩ := e.fz j d z
      exact ⟨v, by rw [← hp j k]; exact e1, e2⟩
  · rcases h2 j _ z with z | ⟨k, z⟩
    · cases z
    · obtain ⟨v, e1, e2⟩ := e.ow j d z
      exact ⟨v, by rw [← hp j k]; exact e1, e2⟩
theorem app_un {a : Env} {n j : Nat} {x : Sl} (h : (a ++ List.replicate n Sl.un)[j]? = some x) : a[j]? = some x ∨ x = .un := by
  by_cases hj : j < a.length
  · rw [List.getElem?_append_left hj] at h
    exact Or.inl h
  · rw [List.getElem?_append_right (by omega)] at h
    have := List.mem_of_getElem? h
    exact Or.inr (List.eq_of_mem_replicate this)
theorem EnvR.start {vs : List V} {ks : List Bool} {ds : List IV} {fp : FPt} {N : List Str} (e : EnvR G F H (vs.map some) (envOf ks ds) fp) (hv : vs.length = ks.length) :
    EnvR G F H (L2.start N vs) (envOf ks ds ++ List.replicate (N.length - ks.length) .un) fp := by
  have hl : (envOf ks ds).length = (vs.map some).length := e.len
  have left : ∀ (j : Nat) v, (vs.map some)[j]? = some (some v) → (L2.start N vs)[j]? = some (some v) := fun j v h => by
    unfold L2.start
    rw [List.getElem?_append_left (List.getElem?_eq_some_iff.mp h).1]
    exact h
  refine ⟨fun j d z => ?_, fun j d z => ?_, e.dis, e.nf, e.tr, e.ni, e.ft, ?_⟩
  · rcases app_un z with z | z
    · obtain ⟨v, e1, e2⟩ := e.fz j d z
      exact ⟨v, left j v e1, e2⟩
    · cases z
  · rcases app_un z with z | z
    · obtain ⟨v, e1, e2⟩ := e.ow j d z
      exact ⟨v, left j v e1, e2⟩
    · cases z
  · unfold L2.start
    rw [List.length_append, List.length_append, hl, List.length_replicate, List.length_replicate, hv]
/-- a def's body keeps its mirror's promise -/
theorem fn_body {vs : List V} {Q : VK} {E : XK} {ks : List Bool} {body : S} {N : List Str} (hks : ks.length ≤ N.length) (h : spOf G ks (fnOf N.length ks body) vs H Q E) :
    tsOf G (fun cls d _ H => E cls d H) (pinOf ks 0) body { nx := fun _ H' => Q .non H', rt := Q } (L2.start N vs) H := by
  obtain ⟨hv, ds, F, fp, hd, e, h⟩ := h
  refine ⟨_, F, fp, e.start hv, ?_⟩
  have pinS : ∀ σ' : L2.St, Pn (pinOf ks 0) (L2.start N vs) σ' → ∀ (j : Nat), ks[j]? = some true → σ'[j]? = (vs.map some)[j]? := fun σ' p j k => by
    have hj : j < ks.length := (List.getElem?_eq_some_iff.mp k).1
    rw [p.2 j (pinOf_mem.mpr ⟨j, by omega, k⟩)]
    unfold L2.start
    rw [List.getElem?_append_left (by rw [List.length_map, hv]; exact hj)]
  unfold fnOf at h
  cases hb : body (envOf ks ds ++ List.replicate (N.length - ks.length) Sl.un) with
  | nx ρ =>
    rw [hb] at h
    dsimp only at h
    cases ho : outsOf ks ρ with
    | none => rw [ho] at h; exact h.elim
    | some outs =>
      rw [ho] at h
      exact fun σ' H' F' fp' s e' p => h .non H' F' fp' s (e'.outs (N := N) ho hv (pinS σ' p)) .non
  | rt d ρ =>
    rw [hb] at h
    dsimp only at h
    cases ho : outsOf ks ρ with
    | none => rw [ho] at h; exact h.elim
    | some outs =>
      rw [ho] at h
      exact fun v σ' H' F' fp' s e' p r => h v H' F' fp' s (e'.outs (N := N) ho hv (pinS σ' p)) r
  | ex c p ρ =>
    rw [hb] at h
    dsimp only at h
    cases ho : outsOf ks ρ with
    | none => rw [ho] at h; exact h.elim
    | some outs =>
      rw [ho] at h
      exact fun d σ' H' F' fp' s e' p r => h d H' F' fp' s (e'.outs (N := N) ho hv (pinS σ' p)) r
  | bk ρ => rw [hb] at h; exact h.elim
  | ct ρ => rw [hb] at h; exact h.elim
  | no => rw [hb] at h; exact h.elim
end
section
variable {P : Program} {w : World} {K : Frag} {mg : Str → Option Value} {base : Heap}
/-- THE RULE for a def -/
theorem fn_ok {x qual : Str} {st : Stmt} {f : Addr} {fd : FuncData} {N ps : List Str} {k : Nat} {G : Gx} {ks : List Bool} {body : S} (F : Fun K x qual st f fd) (S : FnScope N ps (defScope st)) (hks : ks.length = ps.length) (hN : ks.length ≤ N.length)
    (hbody : ∀ (cdv : Value) (A : Around) (outer : List PySem.Env) (s : Shared) (H : Hp) (E : XK), Room k (A.deeper (PyProof.Rows.envOfC qual (defScope st) s.heap.objs.size f cdv)) →
      PSs (cxOf (L2.CX P w) P w K mg base N qual (defScope st) f cdv A outer s H E) (defBody st) (tsOf G (fun cls d _ H => E cls d H) (pinOf ks 0) body)) : FnOk P w K mg base (L2.CX P w) (k + 1) f fd ps (spOf G ks (fnOf N.length ks body)) :=
  F.okX S (fun vs H Q E h => by rw [← hks]; exact h.1) fun cdv A outer s H vs Q E hr h => ⟨_, hbody cdv A outer s H E hr, fn_body hN h⟩
end
end MR
set_option maxRecDepth 100000
set_option maxHeartbeats 4000000
/-! MirJ: calls of defs. -/
namespace MR
open PySem L2
/-- an argument: a value, or a slot that is lent -/
inductive Av where
  | v (d : IV) | s (i : Nat)
def RAv (G : Gx) (σ : L2.St) (F : AP1) (H : Hp) (v : V) : Av → Prop
  | .v d => Fz G F H v d
  | .s i => σ[i]? = some (some v)
inductive RAs (G : Gx) (σ : L2.St) (F : AP1) (H : Hp) : List V → List Av → Prop
  | nil : RAs G σ F H [] []
  | cons {v : V} {vs : List V} {a : Av} {as : List Av} : RAv G σ F H v a → RAs G σ F H vs as → RAs G σ F H (v :: vs) (a :: as)
theorem RAv.mono {G : Gx} {σ : L2.St} {F F' : AP1} {H H' : Hp} (q : Stq H F H' F') {v : V} {a : Av} (h : RAv G σ F H v a) : RAv G σ F' H' v a := by
  cases a with
  | v d => exact Fz.mono q h
  | s i => exact h
theorem RAs.mono {G : Gx} {σ : L2.St} {F F' : AP1} {H H' : Hp} (q : Stq H F H' F') : ∀ {vs : List V} {as : List Av}, RAs G σ F H vs as → RAs G σ F' H' vs as
  | _, _, .nil => .nil
  | _, _, .cons h t => .cons (h.mono q) (RAs.mono q t)
theorem RAs.len {G : Gx} {σ : L2.St} {F : AP1} {H : Hp} : ∀ {vs : List V} {as : List Av}, RAs G σ F H vs as → vs.length = as.length
  | _, _, .nil => rfl
  | _, _, .cons _ t => by rw [List.length_cons, List.length_cons, RAs.len t]
theorem RAs.get {G : Gx} {σ : L2.St} {F : AP1} {H : Hp} : ∀ {vs : List V} {as : List Av} {j : Nat} {v : V} {a : Av}, RAs G σ F H vs as → vs[j]? = some v → as[j]? = some a → RAv G σ F H v a
  | _, _, _, _, _, .nil, e, _ => by simp at e
  | _, _, 0, v, a, .cons h t, e1, e2 => by
    simp only [List.getElem?_cons_zero, Option.some.injEq] at e1 e2
    subst e1; subst e2; exact h
  | _, _, j + 1, v, a, .cons h t, e1, e2 => RAs.get (j := j) t (by simpa using e1) (by simpa using e2)
abbrev EAv := Env → Rz (List Av)
abbrev tjOf (G : Gx) (W : WX) (m : EAv) : TA := tOf RAs G W m
def jNil : EAv := fun ρ => .ok [] ρ
def jCons (A : E) (B : EAv) : EAv := fun ρ => (A ρ).bind fun x ρ1 => (B ρ1).bind fun xs ρ2 => .ok (.v x :: xs) ρ2
def jSlot (i : Nat) (B : EAv) : EAv := fun ρ => match ρ[i]? with
  | some (.ow _) => (B ρ).bind fun xs ρ1 => .ok (.s i :: xs) ρ1
  | some (.fz _) => (B ρ).bind fun xs ρ1 => .ok (.s i :: xs) ρ1
  | _ => .no
def gather : List Bool → List Av → Env → Option (List IV)
  | [], [], _ => some []
  | true :: ks, .s i :: as, ρ => match ρ[i]? with
    | some (.ow d) => (gather ks as ρ).map (d :: ·)
    | _ => none
  | false :: ks, .v d :: as, ρ => (gather ks as ρ).map (d :: ·)
  | _, _, _ => none
def slots : List Av → List Nat
  | [] => []
  | .s i :: as => i :: slots as
  | .v _ :: as => slots as
def scatter : List Bool → List Av → List IV → Env → Option Env
  | [], [], [], ρ => some ρ
  | true :: ks, .s i :: as, o :: outs, ρ => scatter ks as outs (ρ.set i (.ow o))
  | false :: ks, .v _ :: as, outs, ρ => scatter ks as outs ρ
  | _, _, _, _ => none
def callF (ks : List Bool) (fn : Fn) (as : List Av) (ρ : Env) : Rz IV := match gather ks as ρ with
  | none => .no
  | some ds => if (slots as).Nodup then (match fn ds with
    | .ok d outs => match scatter ks as outs ρ with
      | some ρ2 => .ok d ρ2
      | none => .no
    | .ex c p outs => match scatter ks as outs ρ with
      | some ρ2 => .ex c p ρ2
      | none => .no
    | .no => .no) else .no
def iCallF (ks : List Bool) (fn : Fn) (J : EAv) : E := fun ρ => (J ρ).bind (callF ks fn)
theorem gather_get : ∀ {ks : List Bool} {as : List Av} {ρ : Env} {ds : List IV}, gather ks as ρ = some ds → as.length = ks.length ∧ ds.length = ks.length ∧
    ∀ (j : Nat) k a d, ks[j]? = some k → as[j]? = some a → ds[j]? = some d → (k = true ∧ ∃ i, a = .s i ∧ ρ[i]? = some (.ow d)) ∨ (k = false ∧ a = .v d)
  | [], [], ρ, ds, h => by
    simp only [gather, Option.some.injEq] at h
    subst h
    exact ⟨rfl, rfl, fun j k a d e => by simp at e⟩
  | [], _ :: _, ρ, ds, h => by simp [gather] at h
  | true :: ks, [], ρ, ds, h => by simp [gather] at h
  | false :: ks, [], ρ, ds, h => by simp [gather] at h
  | true :: ks, .v d :: as, ρ, ds, h => by simp [gather] at h
  | false :: ks, .s i :: as, ρ, ds, h => by simp [gather] at h
  | true :: ks, .s i :: as, ρ, ds, h => by
    simp only [gather] at h
    split at h
    · rename_i d hd
      obtain ⟨ds', h', rfl⟩ := Option.map_eq_some_iff.mp h
      obtain ⟨h1, h2, h3⟩ := gather_get h'
      refine ⟨by simp [h1], by simp [h2], fun j k a d' e1 e2 e3 => ?_⟩
      cases j with
      | zero =>
        simp only [List.getElem?_cons_zero, Option.some.injEq] at e1 e2 e3
        subst e1; subst e2; subst e3
        exact Or.inl ⟨rfl, i, rfl, hd⟩
      | succ j => exact h3 j k a d' (by simpa using e1) (by simpa using e2) (by simpa using e3)
    · cases h
  | false :: ks, .v d :: as, ρ, ds, h => by
    simp only [gather] at h
    obtain ⟨ds', h', rfl⟩ := Option.map_eq_some_iff.mp h
    obtain ⟨h1, h2, h3⟩ := gather_get h'
    refine ⟨by simp [h1], by simp [h2], fun j k a d' e1 e2 e3 => ?_⟩
    cases j with
    | zero =>
      simp only [List.getElem?_cons_zero, Option.some.injEq] at e1 e2 e3
      subst e1; subst e2; subst e3
      exact Or.inr ⟨rfl, rfl⟩
    | succ j => exact h3 j k a d' (by simpa using e1) (by simpa using e2) (by simpa using e3)
theorem envOf_get : ∀ {ks : List Bool} {ds : List IV} {j : Nat} {x : Sl}, (envOf ks ds)[j]? = some x → ∃ k d, ks[j]? = some k ∧ ds[j]? = some d ∧ x = if k = true then .ow d else .fz d
  | [], ds, j, x, h => by cases ds <;> simp [envOf] at h
  | true :: ks, [], j, x, h => by simp [envOf] at h
  | false :: ks, [], j, x, h => by simp [envOf] at h
  | true :: ks, d :: ds, j, x, h => by
    cases j with
    | zero => simp only [envOf, List.getElem?_cons_zero, Option.some.injEq] at h; exact ⟨true, d, rfl, rfl, by rw [if_pos rfl]; exact h.symm⟩
    | succ j =>
      simp only [envOf, List.getElem?_cons_succ] at h
      obtain ⟨k, d', h1, h2, h3⟩ := envOf_get h
      exact ⟨k, d', by simpa using h1, by simpa using h2, h3⟩
  | false :: ks, d :: ds, j, x, h => by
    cases j with
    | zero => simp only [envOf, List.getElem?_cons_zero, Option.some.injEq] at h; exact ⟨false, d, rfl, rfl, by rw [if_neg (by decide)]; exact h.symm⟩
    | succ j =>
      simp only [envOf, List.getElem?_cons_succ] at h
      obtain ⟨k, d', h1, h2, h3⟩ := envOf_get h
      exact ⟨k, d', by simpa using h1, by simpa using h2, h3⟩
theorem slots_mem : ∀ {as : List Av} {j i : Nat}, as[j]? = some (.s i) → i ∈ slots as
  | [], j, i, h => by simp at h
  | .v d :: as, 0, i, h => by simp at h
  | .s k :: as, 0, i, h => by simp at h; subst h; simp [slots]
  | .v d :: as, j + 1, i, h => by simp only [slots]; exact slots_mem (j := j) (by simpa using h)
  | .s k :: as, j + 1, i, h => by simp only [slots]; exact List.mem_cons_of_mem _ (slots_mem (j := j) (by simpa using h))
theorem slots_inj : ∀ {as : List Av} {j j' i : Nat}, (slots as).Nodup → as[j]? = some (.s i) → as[j']? = some (.s i) → j = j'
  | [], j, j', i, n, h, h' => by simp at h
  | .v d :: as, 0, j', i, n, h, h' => by simp at h
  | .v d :: as, j + 1, 0, i, n, h, h' => by simp at h'
  | .v d :: as, j + 1, j' + 1, i, n, h, h' => congrArg (· + 1) (slots_inj (as := as) (j := j) (j' := j') (i := i) (by simpa only [slots] using n) (by simpa using h) (by simpa using h'))
  | .s k :: as, 0, 0, i, n, h, h' => rfl
  | .s k :: as, 0, j' + 1, i, n, h, h' => by
    simp only [slots, List.nodup_cons] at n
    simp at h; subst h
    exact (n.1 (slots_mem (j := j') (by simpa using h'))).elim
  | .s k :: as, j + 1, 0, i, n, h, h' => by
    simp only [slots, List.nodup_cons] at n
    simp at h'; subst h'
    exact (n.1 (slots_mem (j := j) (by simpa using h))).elim
  | .s k :: as, j + 1, j' + 1, i, n, h, h' => by
    simp only [slots, List.nodup_cons] at n
    exact congrArg (· + 1) (slots_inj (as := as) (j := j) (j' := j') (i := i) n.2 (by simpa using h) (by simpa using h'))
theorem scatter_get : ∀ {ks : List Bool} {as : List Av} {outs : List IV} {ρ ρ2 : Env}, scatter ks as outs ρ = some ρ2 → ρ2.length = ρ.length ∧
    ∀ (i : Nat) x, ρ2[i]? = some x → (∃ (j : Nat) (o : IV), as[j]? = some (.s i) ∧ (envOut ks outs)[j]? = some (.ow o) ∧ x = .ow o) ∨ ((∀ j : Nat, as[j]? ≠ some (.s i)) ∧ ρ[i]? = some x)
  | [], [], [], ρ, ρ2, h => by
    simp only [scatter, Option.some.injEq] at h
    subst h
    exact ⟨rfl, fun i x e => Or.inr ⟨fun j => by simp, e⟩⟩
  | [], [], _ :: _, ρ, ρ2, h => by simp [scatter] at h
  | [], _ :: _, outs, ρ, ρ2, h => by simp [scatter] at h
  | true :: ks, [], outs, ρ, ρ2, h => by simp [scatter] at h
  | false :: ks, [], outs, ρ, ρ2, h => by simp [scatter] at h
  | true :: ks, .v d :: as, outs, ρ, ρ2, h => by simp [scatter] at h
  | false :: ks, .s i :: as, outs, ρ, ρ2, h => by simp [scatter] at h
  | true :: ks, .s i :: as, [], ρ, ρ2, h => by simp [scatter] at h
  | true :: ks, .s i :: as, o :: outs, ρ, ρ2, h => by
    simp only [scatter] at h
    obtain ⟨h1, h2⟩ := scatter_get h
    refine ⟨by rw [h1, List.length_set], fun k x e => ?_⟩
    rcases h2 k x e with ⟨j, o', a1, a2, a3⟩ | ⟨a1, a2⟩
    · exact Or.inl ⟨j + 1, o', by simpa using a1, by simpa only [envOut, List.getElem?_cons_succ] using a2, a3⟩
    · rcases get_set a2 with ⟨rfl, rfl, _⟩ | ⟨hn, a2⟩
      · exact Or.inl ⟨0, o, rfl, rfl, rfl⟩
      · refine Or.inr ⟨fun j => ?_, a2⟩
        cases j with
        | zero => simp only [List.getElem?_cons_zero]; exact fun z => hn (by cases z; rfl)
        | succ j => simpa using a1 j
  | false :: ks, .v d :: as, outs, ρ, ρ2, h => by
    simp only [scatter] at h
    obtain ⟨h1, h2⟩ := scatter_get h
    refine ⟨h1, fun k x e => ?_⟩
    rcases h2 k x e with ⟨j, o', a1, a2, a3⟩ | ⟨a1, a2⟩
    · exact Or.inl ⟨j + 1, o', by simpa using a1, by simpa only [envOut, List.getElem?_cons_succ] using a2, a3⟩
    · refine Or.inr ⟨fun j => ?_, a2⟩
      cases j with
      | zero => simp
      | succ j => simpa using a1 j
theorem Own.congr {G : Gx} {F : AP1} {H : Hp} {v : V} {d : IV} {q q' : AP1} (h : Own G F H v d q) (e : ∀ a, q' a ↔ q a) : Own G F H v d q' := by
  cases h with
  | lst h a z k => exact .lst h a z fun x => (e x).trans (k x)
  | dic h a z k => exact .dic h a z fun x => (e x).trans (k x)
  | ins h a k => exact .ins h a fun x => (e x).trans (k x)
  | drw h1 h2 f h3 n1 z1 z2 k => exact .drw h1 h2 f h3 n1 z1 z2 fun x => (e x).trans (k x)
  | prs h z k => exact .prs h z fun x => (e x).trans (k x)
  | lds h a nd np z k => exact .lds h a nd np z fun x => (e x).trans (k x)
  | tab h t c k => exact .tab h t c fun x => (e x).trans (k x)
section
variable {X : Cx} {G : Gx} {W : WX} {σ : L2.St} {H : Hp} {F : AP1} {fp : FPt} {ρ : Env}
/-- the callee's slots -/
def fpC (as : List Av) (fp : FPt) : FPt := fun j a => ∃ i, as[j]? = some (.s i) ∧ fp i a
theorem call_env {ks : List Bool} {as : List Av} {ds : List IV} {vs : List V} (e : EnvR G F H σ ρ fp) (ra : RAs G σ F H vs as) (hg : gather ks as ρ = some ds) (nd : (slots as).Nodup) : EnvR G F H (vs.map some) (envOf ks ds) (fpC as fp) := by
  obtain ⟨l1, l2, hget⟩ := gather_get hg
  have lv := ra.len
  have at_ : ∀ (j : Nat) x, (envOf ks ds)[j]? = some x → ∃ k d v a, ks[j]? = some k ∧ ds[j]? = some d ∧ vs[j]? = some v ∧ as[j]? = some a ∧ (x = if k = true then .ow d else .fz d) ∧ RAv G σ F H v a ∧ ((k = true ∧ ∃ i, a = .s i ∧ ρ[i]? = some (.ow d)) ∨ (k = false ∧ a = .v d)) := fun j x h => by
    obtain ⟨k, d, h1, h2, h3⟩ := envOf_get h
    have hj : j < ks.length := (List.getElem?_eq_some_iff.mp h1).1
    have ha : as[j]? = some as[j] := List.getElem?_eq_getElem (by omega)
    have hv : vs[j]? = some vs[j] := List.getElem?_eq_getElem (by omega)
    exact ⟨k, d, _, _, h1, h2, hv, ha, h3, ra.get hv ha, hget j k _ d h1 ha h2⟩
  refine ⟨fun j d z => ?_, fun j d z => ?_, fun i j a ⟨x, h1, h2⟩ ⟨y, h3, h4⟩ => ?_, fun j a ⟨i, _, h⟩ => e.nf i a h, fun j a ⟨i, _, h⟩ => e.tr i a h, fun j a o ⟨i, _, h⟩ => e.ni i a o h, e.ft, by rw [envOf_len ks ds l2, List.length_map, lv, l1]⟩
  · obtain ⟨k, d', v, a, h1, h2, h3, h4, h5, h6, h7⟩ := at_ j _ z
    rcases h7 with ⟨rfl, i, rfl, h8⟩ | ⟨rfl, rfl⟩
    · cases h5
    · cases h5
      exact ⟨v, by rw [List.getElem?_map, h3]; rfl, h6⟩
  · obtain ⟨k, d', v, a, h1, h2, h3, h4, h5, h6, h7⟩ := at_ j _ z
    rcases h7 with ⟨rfl, i, rfl, h8⟩ | ⟨rfl, rfl⟩
    · cases h5
      obtain ⟨v', e1, e2⟩ := e.ow i d h8
      obtain rfl : v' = v := by
        have h6' : σ[i]? = some (some v) := h6
        rw [e1] at h6'
        exact Option.some.inj (Option.some.inj h6')
      refine ⟨v', by rw [List.getElem?_map, h3]; rfl, e2.congr fun b => ⟨fun ⟨i', q1, q2⟩ => ?_, fun q => ⟨i, h4, q⟩⟩⟩
      rw [h4] at q1
      cases q1
      exact q2
    · cases h5
  · have : x = y := e.dis x y a h2 h4
    subst this
    exact slots_inj nd h1 h3
/-- .. and back -/
def fpB (as : List Av) (fp fpc' : FPt) : FPt := fun i a => (∃ j : Nat, as[j]? = some (.s i) ∧ fpc' j a) ∨ ((∀ j : Nat, as[j]? ≠ some (.s i)) ∧ fp i a)
theorem call_back {ks : List Bool} {as : List Av} {outs : List IV} {vs : List V} {ρ2 : Env} {H' : Hp} {F' : AP1} {fpc' : FPt} {ρc : Env} (e : EnvR G F H σ ρ fp) (ra : RAs G σ F H vs as) (ec : EnvR G F H (vs.map some) ρc (fpC as fp)) (nd : (slots as).Nodup)
    (s : Stp H F (un (fpC as fp)) H' F' (un fpc')) (e' : EnvR G F' H' (vs.map some) (envOut ks outs) fpc') (hs : scatter ks as outs ρ = some ρ2) :
    EnvR G F' H' σ ρ2 (fpB as fp fpc') ∧ Stp H F (un fp) H' F' (un (fpB as fp fpc')) := by
  obtain ⟨l1, hget⟩ := scatter_get hs
  have sq := ec.stq s
  have notc : ∀ i a, (∀ j : Nat, as[j]? ≠ some (.s i)) → fp i a → ¬ un (fpC as fp) a := fun i a n h ⟨j, i', h1, h2⟩ => by
    have := e.dis i i' a h h2
    subst this
    exact n j h1
  have keepN : ∀ i, (∀ j : Nat, as[j]? ≠ some (.s i)) → ∀ a o, H a = some o → fp i a → H' a = some o := fun i n a o h p => s.keep a o h (notc i a n p)
  constructor
  · refine ⟨fun i d z => ?_, fun i d z => ?_, fun i k a h1 h2 => ?_, fun i a h f => ?_, fun i a h => ?_, fun i a o h q => ?_, e'.ft, by rw [l1, e.len]⟩
    · rcases hget i _ z with ⟨j, o, h1, h2, h3⟩ | ⟨h1, h2⟩
      · cases h3
      · obtain ⟨v, q1, q2⟩ := e.fz i d h2
        exact ⟨v, q1, q2.mono sq⟩
    · rcases hget i _ z with ⟨j, o, h1, h2, h3⟩ | ⟨h1, h2⟩
      · cases h3
        obtain ⟨v, q1, q2⟩ := e'.ow j d h2
        rw [List.getElem?_map] at q1
        cases hv : vs[j]? with
        | none => rw [hv] at q1; cases q1
        | some v0 =>
          rw [hv] at q1
          cases q1
          refine ⟨v, ra.get hv h1, q2.congr fun b => ⟨fun h => ?_, fun h => Or.inl ⟨j, h1, h⟩⟩⟩
          rcases h with ⟨j', h4, h5⟩ | ⟨h4, _⟩
          · rw [slots_inj nd h1 h4]; exact h5
          · exact (h4 j h1).elim
      · obtain ⟨v, q1, q2⟩ := e.ow i d h2
        refine ⟨v, q1, (q2.mono sq (keepN i h1)).congr fun b => ⟨fun h => ?_, fun h => Or.inr ⟨h1, h⟩⟩⟩
        rcases h with ⟨j, h4, _⟩ | ⟨_, h5⟩
        · exact (h1 j h4).elim
        · exact h5
    · rcases h1 with ⟨j, h1, h3⟩ | ⟨h1, h3⟩
      · rcases h2 with ⟨j', h2, h4⟩ | ⟨h2, h4⟩
        · have := e'.dis j j' a h3 h4
          subst this
          rw [h1] at h2
          cases h2
          rfl
        · rcases s.pnew a ⟨j, h3⟩ with q | q
          · exact (notc k a h2 h4 q).elim
          · exact (e.tr k a h4 q).elim
      · rcases h2 with ⟨j', h2, h4⟩ | ⟨h2, h4⟩
        · rcases s.pnew a ⟨j', h4⟩ with q | q
          · exact (notc i a h1 h3 q).elim
          · exact (e.tr i a h3 q).elim
        · exact e.dis i k a h3 h4
    · rcases h with ⟨j, h1, h3⟩ | ⟨h1, h3⟩
      · exact e'.nf j a h3 f
      · rcases s.fnew a f with q | q | q
        · exact e.nf i a h3 q
        · exact notc i a h1 h3 q
        · exact e.tr i a h3 q
    · rcases h with ⟨j, h1, h3⟩ | ⟨h1, h3⟩
      · exact e'.tr j a h3
      · exact fun q => e.tr i a h3 (s.dom a q)
    · rcases h with ⟨j, h1, h3⟩ | ⟨h1, h3⟩
      · exact e'.ni j a o h3 q
      · cases hu : H a with
        | none => exact (e.tr i a h3 hu).elim
        | some u =>
          have := keepN i h1 a u hu h3
          rw [q] at this
          cases this
          exact e.ni i a o h3 hu
  · have sub : ∀ a, un (fpC as fp) a → un fp a := fun a ⟨j, i, _, h⟩ => ⟨i, h⟩
    refine ⟨fun a o h n => s.keep a o h fun q => n (sub a q), s.frm, fun a f => ?_, fun a ⟨i, h⟩ => ?_, s.dom⟩
    · rcases s.fnew a f with q | q | q
      · exact Or.inl q
      · exact Or.inr (Or.inl (sub a q))
      · exact Or.inr (Or.inr q)
    · rcases h with ⟨j, h1, h3⟩ | ⟨h1, h3⟩
      · rcases s.pnew a ⟨j, h3⟩ with q | q
        · exact Or.inl (sub a q)
        · exact Or.inr q
      · exact Or.inl ⟨i, h3⟩
theorem call_sp {ks : List Bool} {fn : Fn} {as : List Av} {vs : List V} {Q : VK} (e : EnvR G F H σ ρ fp) (ra : RAs G σ F H vs as) (h : Oc RV G W σ H F fp (callF ks fn as ρ) Q) : spOf G ks fn vs H Q (fun cls d H => W cls d σ H) := by
  unfold callF at h
  cases hg : gather ks as ρ with
  | none => rw [hg] at h; exact h.elim
  | some ds =>
    rw [hg] at h
    dsimp only at h
    by_cases nd : (slots as).Nodup
    · rw [if_pos nd] at h
      obtain ⟨l1, l2, _⟩ := gather_get hg
      have ec := call_env e ra hg nd
      refine ⟨by rw [ra.len, l1], ds, F, _, l2, ec, ?_⟩
      cases hf : fn ds with
      | ok d outs =>
        rw [hf] at h
        dsimp only at h
        cases hs : scatter ks as outs ρ with
        | none => rw [hs] at h; exact h.elim
        | some ρ2 =>
          rw [hs] at h
          intro v H' F' fpc' s e' r
          obtain ⟨b1, b2⟩ := call_back e ra ec nd s e' hs
          exact h v H' F' _ b2 b1 r
      | ex c p outs =>
        rw [hf] at h
        dsimp only at h
        cases hs : scatter ks as outs ρ with
        | none => rw [hs] at h; exact h.elim
        | some ρ2 =>
          rw [hs] at h
          intro v H' F' fpc' s e' r
          obtain ⟨b1, b2⟩ := call_back e ra ec nd s e' hs
          exact h v H' F' _ b2 b1 r
      | no => rw [hf] at h; exact h.elim
    · rw [if_neg nd] at h; exact h.elim
theorem q_callF {ks : List Bool} {fn : Fn} {J : EAv} : ∀ σ H Q, teOf G W (iCallF ks fn J) σ H Q → tCallS (spOf G ks fn) (WE W) (tjOf G W J) σ H Q := by
  rintro σ H Q ⟨ρ, F, fp, e, h⟩
  exact oc_bind e h fun vs as ρ1 H1 F1 fp1 s1 e1 r1 h1 => call_sp e1 r1 h1
theorem j_nil : PA X [] (tjOf G W jNil) := PA.imp pa_nil fun σ H Q ⟨ρ, F, fp, e, h⟩ => oc_okR h e .nil
theorem j_cons {e : Expr} {es : List Expr} {A : E} {B : EAv} (ha : PE X e (teOf G W A)) (hb : PA X es (tjOf G W B)) (hs : starEach (e :: es) X.env = (false, eval e X.env) :: starEach es X.env := by rfl) : PA X (e :: es) (tjOf G W (jCons A B)) :=
  PA.imp (pa_cons ha hb hs) fun σ H Q ⟨ρ, F, fp, en, h⟩ => by
    refine oc_bind en h fun x dx ρ1 H1 F1 fp1 s1 e1 r1 h1 => ?_
    refine oc_bind e1 h1 fun y dy ρ2 H2 F2 fp2 s2 e2 r2 h2 => ?_
    exact oc_okR h2 e2 (RAs.cons (Fz.mono (e1.stq s2) r1) r2)
theorem j_slot (i : Nat) {x : Str} {pos : Pos} {es : List Expr} {B : EAv} (hb : PA X es (tjOf G W B)) (hN : X.N[i]? = some x := by rfl) (hv : Vis X.env.scope x := by first | exact Or.inl rfl | exact Or.inr (Or.inl rfl) | exact Or.inr (Or.inr rfl))
    (hd : (x == ("__debug__" : Str)) = false := by decide) (hcd : (x == ("__classdict__" : Str)) = false := by decide)
    (hs : starEach (.Name x pos :: es) X.env = (false, eval (.Name x pos) X.env) :: starEach es X.env := by rfl) : PA X (.Name x pos :: es) (tjOf G W (jSlot i B)) :=
  PA.imp (pa_cons (pe_var hN hv hd hcd) hb hs) fun σ H Q ⟨ρ, F, fp, en, h⟩ => by
    unfold jSlot at h
    split at h
    · rename_i d hd
      obtain ⟨v, q1, q2⟩ := en.ow i d hd
      refine ⟨v, q1, ?_⟩
      refine oc_bind en h fun y dy ρ2 H2 F2 fp2 s2 e2 r2 h2 => ?_
      exact oc_okR h2 e2 (RAs.cons q1 r2)
    · rename_i d hd
      obtain ⟨v, q1, q2⟩ := en.fz i d hd
      refine ⟨v, q1, ?_⟩
      refine oc_bind en h fun y dy ρ2 H2 F2 fp2 s2 e2 r2 h2 => ?_
      exact oc_okR h2 e2 (RAs.cons q1 r2)
    · exact h.elim
theorem m_call (o : Ok X G W) {k : Nat} {f : Addr} {fd : FuncData} {ps : List Str} {ks : List Bool} {fn : Fn} {x : Str} {e : Expr} {es : List Expr} {p pos : Pos} {J : EAv} (Fo : FnOk X.prog X.w X.K X.mg X.base (L2.CX X.prog X.w) k f fd ps (spOf G ks fn)) (hr : Room k X.A) (hg : Gl X x) (hm : X.mg x = some (.ref f))
    (hk : PySem.W.keepIn X.K (.ref f) = true) (hb : Binds X.K fd ps []) (ha : PA X (e :: es) (tjOf G W J)) (hdb : (x == ("__debug__" : Str)) = false := by decide)
    (he : starEach (e :: es) X.env = (false, eval e X.env) :: starEach es X.env := by rfl) (hpl : (backTo pos (starEach es X.env)).any (·.1) = false := by rfl) : PE X (.Call (.Name x p) (e :: es) [] pos) (teOf G W (iCallF ks fn J)) :=
  PE.imp (pe_callS Fo hr hg hm hk hb (fun σ => passAt o.tk σ) ha hdb he hpl) q_callF
end
end MR
set_option maxRecDepth 100000
set_option maxHeartbeats 4000000
/-! MirK: what is read where it stands (frozen, or a slot's own); operators and built-ins over it. -/
namespace MR
open PySem L2 PyProof.Rows
section
variable {X : Cx} {G : Gx} {W : WX} {σ : L2.St} {H : Hp} {F : AP1} {fp : FPt} {ρ : Env}
inductive Bz (G : Gx) (F : AP1) (H : Hp) : V → IV → Prop
  | fz {v : V} {d : IV} : Fz G F H v d → Bz G F H v d
  | lst {p : Addr} {vs : List V} {ds : List IV} : H p = some (.lst vs) → FzA G F H vs ds → vs.length ≤ big → Bz G F H (.ref p) (.lst ds)
  | dic {p : Addr} {vs : List (Key × V)} {ds : List (Key × IV)} : H p = some (.dK vs) → FzP G F H vs ds → vs.length ≤ big → Bz G F H (.ref p) (.dic ds)
  | ins {p dx : Addr} {c : String} {vs : List (Str × V)} {ds : List (Str × IV)} : H p = some (.ins (G.cls c) dx vs) → FzP G F H vs ds → Bz G F H (.ref p) (.ins c ds)
inductive BzA (G : Gx) (F : AP1) (H : Hp) : List V → List IV → Prop
  | nil : BzA G F H [] []
  | cons {v : V} {vs : List V} {d : IV} {ds : List IV} : Bz G F H v d → BzA G F H vs ds → BzA G F H (v :: vs) (d :: ds)
theorem Own.bz {v : V} {d : IV} {q : AP1} (h : Own G F H v d q) (hc : canFz d = true) : Bz G F H v d := by
  cases h with
  | lst h a z e => exact .lst h a z
  | dic h a z e => exact .dic h a z
  | ins h a e => exact .ins h a
  | drw => cases hc
  | prs => cases hc
  | lds => cases hc
  | tab => cases hc
/-- an argument's value now -/
def rs (a : Av) (ρ : Env) : Option IV := match a with
  | .v d => some d
  | .s i => match ρ[i]? with
    | some (.fz d) => some d
    | some (.ow d) => if canFz d = true then some d else none
    | _ => none
theorem RAv.bz {v : V} {a : Av} {d : IV} (e : EnvR G F H σ ρ fp) (r : RAv G σ F H v a) (h : rs a ρ = some d) : Bz G F H v d := by
  cases a with
  | v d' => cases h; exact .fz r
  | s i =>
    unfold rs at h
    have r' : σ[i]? = some (some v) := r
    dsimp only at h
    split at h
    · rename_i d' hd
      cases h
      obtain ⟨w, e1, e2⟩ := e.fz i _ hd
      rw [r'] at e1; cases e1
      exact .fz e2
    · rename_i d' hd
      split at h
      · rename_i hc
        cases h
        obtain ⟨w, e1, e2⟩ := e.ow i _ hd
        rw [r'] at e1; cases e1
        exact e2.bz hc
      · cases h
    · cases h
def rsA : List Av → Env → Option (List IV)
  | [], _ => some []
  | a :: as, ρ => (rs a ρ).bind fun d => (rsA as ρ).map (d :: ·)
theorem RAs.bz (e : EnvR G F H σ ρ fp) : ∀ {vs : List V} {as : List Av} {ds : List IV}, RAs G σ F H vs as → rsA as ρ = some ds → BzA G F H vs ds
  | _, _, _, .nil, h => by cases h; exact .nil
  | _, _, _, .cons r t, h => by
    simp only [rsA] at h
    obtain ⟨d, h1, h2⟩ := Option.bind_eq_some_iff.mp h
    obtain ⟨ds, h3, h4⟩ := Option.map_eq_some_iff.mp h2
    subst h4
    exact .cons (r.bz e h1) (RAs.bz e t h3)
/-! ### views -/
theorem Bz.seqL {v : V} {ds : List IV} (h : Bz G F H v (.lst ds)) : ∃ p vs, v = .ref p ∧ H p = some (.lst vs) ∧ FzA G F H vs ds ∧ vs.length ≤ big := by
  cases h with
  | fz h => cases h with
    | lst f h a z => exact ⟨_, _, rfl, h, a, z⟩
  | lst h a z => exact ⟨_, _, rfl, h, a, z⟩
theorem Bz.seqT {v : V} {ds : List IV} (h : Bz G F H v (.tup ds)) : ∃ p vs, v = .ref p ∧ SqT G.K H p vs ∧ FzA G F H vs ds ∧ vs.length ≤ big := by
  cases h with
  | fz h => cases h with
    | tup h a z => exact ⟨_, _, rfl, h, a, z⟩
theorem Bz.dicV {v : V} {ds : List (Key × IV)} (h : Bz G F H v (.dic ds)) : ∃ p vs, v = .ref p ∧ H p = some (.dK vs) ∧ FzP G F H vs ds ∧ vs.length ≤ big := by
  cases h with
  | fz h => cases h with
    | dic f h a z => exact ⟨_, _, rfl, h, a, z⟩
  | dic h a z => exact ⟨_, _, rfl, h, a, z⟩
theorem Bz.insV {v : V} {c : String} {ds : List (Str × IV)} (h : Bz G F H v (.ins c ds)) : ∃ p dx vs, v = .ref p ∧ H p = some (.ins (G.cls c) dx vs) ∧ FzP G F H vs ds := by
  cases h with
  | fz h => cases h with
    | ins f h a => exact ⟨_, _, _, rfl, h, a⟩
  | ins h a => exact ⟨_, _, _, rfl, h, a⟩
theorem Bz.int_inv {x : V} {i : Int} (h : Bz G F H x (.int i)) : x = .int i := by
  cases h with
  | fz h => exact h.int_inv
theorem Bz.bl_inv {x : V} {i : Bool} (h : Bz G F H x (.bl i)) : x = .bl i := by
  cases h with
  | fz h => exact h.bl_inv
theorem Bz.str_inv {x : V} {i : Str} (h : Bz G F H x (.str i)) : x = .str i := by
  cases h with
  | fz h => exact h.str_inv
theorem Bz.scrV {v : V} {ns : List Int} (h : Bz G F H v (.scr ns)) : ∃ p, v = .ref p ∧ StL G.K H p (ns.map V.int) ∧ ns.length ≤ 63 := by
  cases h with
  | fz h => cases h with
    | scr h z => exact ⟨_, rfl, h, z⟩
theorem Bz.dp {v : V} {d : IV} (h : Bz G F H v d) (p : pln d = true) : Dp G.K H v (pd d) := by
  cases h with
  | fz h => exact h.dp p
  | lst h a z => exact .lst (SqL.of h) (a.dp (by simpa only [pln] using p))
  | dic h a z => simp [pln] at p
  | ins h a => simp [pln] at p
theorem Bz.isN {v : V} {d : IV} (h : Bz G F H v d) : decide (v = .non) = MR.isN d := by
  cases h with
  | fz h => exact Fz.isN h
  | _ => rfl
theorem Bz.key {v : V} {d : IV} {k : Key} (h : Bz G F H v d) (e : ivKey d = some k) : v = kV k := by
  cases h with
  | fz h => exact Fz.key h e
  | _ => cases e
theorem Bz.tru {v : V} {d : IV} {b : Bool} (h : Bz G F H v d) (ht : MR.tru d = some b) : TruV G.K v H b := by
  cases h with
  | fz h => exact MR.tru_ok h ht
  | lst h a z => cases ht; exact Or.inl ⟨_, SqL.of h, by rw [a.empty]⟩
  | dic h a z => cases ht; exact Or.inr (Or.inr ⟨_, h, by rw [a.empty]⟩)
  | ins h a => cases ht
/-! ### values that are given up -/
/-- a slot's own value is frozen where it is used -/
def iMv (i : Nat) : E := fun ρ => match ρ[i]? with
  | some (.fz d) => .ok d ρ
  | some (.ow d) => if canFz d = true then .ok d (ρ.set i (.fz d)) else .no
  | _ => .no
theorem EnvR.frz {i : Nat} {d : IV} {v : V} (e : EnvR G F H σ ρ fp) (hi : ρ[i]? = some (.ow d)) (hv : σ[i]? = some (some v)) (r : Own G F H v d (fp i)) (hc : canFz d = true) :
    EnvR G (fun a => F a ∨ fp i a) H σ (ρ.set i (.fz d)) (fun j a => j ≠ i ∧ fp j a) := by
  have s : Stq H F H (fun a => F a ∨ fp i a) := ⟨fun _ _ z _ => z, fun _ _ z _ => z, fun _ f => Or.inl f⟩
  refine ⟨fun j d' z => ?_, fun j d' z => ?_, fun j k a h1 h2 => e.dis j k a h1.2 h2.2, fun j a h f => ?_, fun j a h => e.tr j a h.2, fun j a o h => e.ni j a o h.2, fun a f => ?_, by rw [List.length_set]; exact e.len⟩
  · rcases get_set z with ⟨rfl, z1, hl⟩ | ⟨hj, z⟩
    · cases z1
      exact ⟨v, hv, r.freeze hc⟩
    · obtain ⟨w, e1, e2⟩ := e.fz j d' z
      exact ⟨w, e1, e2.mono s⟩
  · rcases get_set z with ⟨rfl, z1, hl⟩ | ⟨hj, z⟩
    · cases z1
    · obtain ⟨w, e1, e2⟩ := e.ow j d' z
      exact ⟨w, e1, (e2.mono s fun _ _ z _ => z).congr fun a => ⟨fun h => h.2, fun h => ⟨hj, h⟩⟩⟩
  · rcases f with f | f
    · exact e.nf j a h.2 f
    · exact h.1 (e.dis j i a h.2 f)
  · rcases f with f | f
    · exact e.ft a f
    · exact e.tr i a f
theorem Stp.frz {i : Nat} (H : Hp) (F : AP1) (fp : FPt) : Stp H F (un fp) H (fun a => F a ∨ fp i a) (un fun j a => j ≠ i ∧ fp j a) :=
  ⟨fun _ _ h _ => h, fun _ f => Or.inl f, fun a f => f.elim Or.inl fun h => Or.inr (Or.inl ⟨i, h⟩), fun a ⟨j, h⟩ => Or.inl ⟨j, h.2⟩, fun _ h => h⟩
theorem q_mv {i : Nat} : ∀ σ H Q, teOf G W (iMv i) σ H Q → tVar i σ H Q := by
  rintro σ H Q ⟨ρ, F, fp, e, h⟩
  unfold iMv at h
  split at h
  · rename_i d hd
    obtain ⟨v, e1, e2⟩ := e.fz i d hd
    exact ⟨v, e1, oc_ok h e (Fr.refl _ _) e2⟩
  · rename_i d hd
    obtain ⟨v, e1, e2⟩ := e.ow i d hd
    split at h
    · rename_i hc
      exact ⟨v, e1, h v H _ _ (Stp.frz H F fp) (e.frz hd e1 e2 hc) (e2.freeze hc)⟩
    · exact h.elim
  · exact h.elim
theorem m_mv (i : Nat) {x : Str} {pos : Pos} (hN : X.N[i]? = some x := by rfl) (hv : Vis X.env.scope x := by first | exact Or.inl rfl | exact Or.inr (Or.inl rfl) | exact Or.inr (Or.inr rfl)) (hd : (x == ("__debug__" : Str)) = false := by decide)
    (hcd : (x == ("__classdict__" : Str)) = false := by decide) : PE X (.Name x pos) (teOf G W (iMv i)) := PE.imp (pe_var hN hv hd hcd) q_mv
/-! ### operands -/
abbrev EV := Env → Rz Av
abbrev tvOf (G : Gx) (W : WX) (m : EV) : TE := tOf (fun G σ F H v a => RAv G σ F H v a) G W m
def vE (A : E) : EV := fun ρ => (A ρ).bind fun d ρ1 => .ok (.v d) ρ1
def vS (i : Nat) : EV := fun ρ => match ρ[i]? with
  | some (.ow _) => .ok (.s i) ρ
  | some (.fz _) => .ok (.s i) ρ
  | _ => .no
theorem v_e {e : Expr} {A : E} (h : PE X e (teOf G W A)) : PE X e (tvOf G W (vE A)) := PE.imp h fun σ H Q ⟨ρ, F, fp, e, w⟩ => oc_bind e w fun x dx ρ1 H1 F1 fp1 s1 e1 r1 h1 => oc_okR h1 e1 r1
theorem v_s (i : Nat) {x : Str} {pos : Pos} (hN : X.N[i]? = some x := by rfl) (hv : Vis X.env.scope x := by first | exact Or.inl rfl | exact Or.inr (Or.inl rfl) | exact Or.inr (Or.inr rfl)) (hd : (x == ("__debug__" : Str)) = false := by decide)
    (hcd : (x == ("__classdict__" : Str)) = false := by decide) : PE X (.Name x pos) (tvOf G W (vS i)) := PE.imp (pe_var hN hv hd hcd) fun σ H Q ⟨ρ, F, fp, e, h⟩ => by
  unfold vS at h
  split at h
  · rename_i d hd
    obtain ⟨v, e1, e2⟩ := e.ow i d hd
    exact ⟨v, e1, oc_okR h e e1⟩
  · rename_i d hd
    obtain ⟨v, e1, e2⟩ := e.fz i d hd
    exact ⟨v, e1, oc_okR h e e1⟩
  · exact h.elim
/-- an operator's rule answers as f, what is read standing frozen or own -/
def OpB (G : Gx) (r : R2) (f : IV → IV → Option IV) : Prop := ∀ F H x y dx dy d (Q : VK), Bz G F H x dx → Bz G F H y dy → f dx dy = some d →
  (∀ v H' F', Fr H F H' F' → Fz G F' H' v d → Q v H') → r x y H Q
theorem OpB.toF {r : R2} {f : IV → IV → Option IV} (h : OpB G r f) : OpF G r f := fun F H x y dx dy d Q hx hy hf k => h F H x y dx dy d Q (.fz hx) (.fz hy) hf k
def rs2 (f : IV → IV → Option IV) (a b : Av) (ρ : Env) : Option IV := match rs a ρ, rs b ρ with
  | some x, some y => f x y
  | _, _ => none
def iBinV (f : IV → IV → Option IV) (A B : EV) : E := fun ρ => (A ρ).bind fun a ρ1 => (B ρ1).bind fun b ρ2 => ofO (rs2 f a b ρ2) ρ2
theorem iBinV_E {f : IV → IV → Option IV} {A B : E} : iBinV f (vE A) (vE B) = iBin f A B := by
  funext ρ
  unfold iBinV iBin vE
  cases A ρ with
  | ok d ρ1 =>
    simp only [Rz.bind]
    cases B ρ1 with
    | ok d ρ1 => rfl
    | ex c p ρ => rfl
    | no => rfl
  | ex c p ρ => rfl
  | no => rfl
theorem rs2_some {f : IV → IV → Option IV} {a b : Av} {d : IV} (h : rs2 f a b ρ = some d) : ∃ x y, rs a ρ = some x ∧ rs b ρ = some y ∧ f x y = some d := by
  unfold rs2 at h
  split at h
  · rename_i x y h1 h2
    exact ⟨x, y, h1, h2, h⟩
  · cases h
theorem q_binV {r : R2} {f : IV → IV → Option IV} {A B : EV} (hr : OpB G r f) : ∀ σ H Q, teOf G W (iBinV f A B) σ H Q → tOp r (tvOf G W A) (tvOf G W B) σ H Q := by
  rintro σ H Q ⟨ρ, F, fp, e, h⟩
  refine oc_bind e h fun x a ρ1 H1 F1 fp1 s1 e1 r1 h1 => ?_
  refine oc_bind e1 h1 fun y b ρ2 H2 F2 fp2 s2 e2 r2 h2 => ?_
  have r1' : RAv G σ F2 H2 x a := RAv.mono (e1.stq s2) r1
  cases hf : rs2 f a b ρ2 with
  | none => rw [hf] at h2; exact h2.elim
  | some d =>
    rw [hf] at h2
    obtain ⟨dx, dy, g1, g2, g3⟩ := rs2_some hf
    exact hr F2 H2 x y dx dy d Q (r1'.bz e2 g1) (RAv.bz e2 r2 g2) g3 fun v H' F' g z => oc_ok h2 e2 g z
theorem m_binV {op : Operator} {a b : Expr} {A B : EV} {r : R2} {f : IV → IV → Option IV} {pos : Pos} (ho : OpR X (binaryOp op) r) (hr : OpB G r f) (ha : PE X a (tvOf G W A)) (hb : PE X b (tvOf G W B)) : PE X (.BinOp a op b pos) (teOf G W (iBinV f A B)) :=
  PE.imp (pe_op ho ha hb) (q_binV hr)
theorem m_cmpV {op : CmpOp} {a b : Expr} {A B : EV} {r : R2} {f : IV → IV → Option IV} {pos : Pos} (ho : OpR X (compareOp op) r) (hr : OpB G r f) (ha : PE X a (tvOf G W A)) (hb : PE X b (tvOf G W B))
    (hm : behindInMarks op b = false := by first | exact nobehind _ (by decide) (by decide) | rfl) : PE X (.Compare a [op] [b] pos) (teOf G W (iBinV f A B)) :=
  PE.imp (pe_cmpR ho ha hb hm) (q_binV hr)
def iCmpV (f : IV → IV → Option IV) (A B : EV) : EB := fun ρ => (A ρ).bind fun a ρ1 => (B ρ1).bind fun b ρ2 => match rs2 f a b ρ2 with
  | some (.bl k) => .ok k ρ2
  | _ => .no
theorem q_cmpV {r : R2} {f : IV → IV → Option IV} {A B : EV} (hr : OpB G r f) : ∀ σ H Q, ttOf G W (iCmpV f A B) σ H Q → tTest (tOp r (tvOf G W A) (tvOf G W B)) σ H Q := by
  rintro σ H Q ⟨ρ, F, fp, e, h⟩
  refine oc_bind e h fun x a ρ1 H1 F1 fp1 s1 e1 r1 h1 => ?_
  refine oc_bind e1 h1 fun y b ρ2 H2 F2 fp2 s2 e2 r2 h2 => ?_
  have r1' : RAv G σ F2 H2 x a := RAv.mono (e1.stq s2) r1
  split at h2
  · rename_i k hf
    obtain ⟨dx, dy, g1, g2, g3⟩ := rs2_some hf
    refine hr F2 H2 x y dx dy _ _ (r1'.bz e2 g1) (RAv.bz e2 r2 g2) g3 fun v H' F' g z => ?_
    cases z.bl_inv
    exact ⟨k, rfl, h2 k H' F' fp2 (g.stp _) (e2.fr g) rfl⟩
  · exact h2.elim
theorem n_cmpV {op : CmpOp} {a b : Expr} {A B : EV} {r : R2} {f : IV → IV → Option IV} {pos : Pos} (ho : OpR X (compareOp op) r) (hr : OpB G r f) (ha : PE X a (tvOf G W A)) (hb : PE X b (tvOf G W B))
    (hm : behindInMarks op b = false := by first | exact nobehind _ (by decide) (by decide) | rfl) : PT X (.Compare a [op] [b] pos) (ttOf G W (iCmpV f A B)) := PT.imp (pt_cmpR ho ha hb hm) (q_cmpV hr)
theorem ob_eq : OpB G (rEqD G.K) oEq := by
  intro F H x y dx dy d Q hx hy hf k
  unfold oEq at hf
  split at hf
  · rename_i hs
    obtain ⟨⟨p1, s1⟩, p2, s2⟩ := shp_and hs
    cases hf
    exact ⟨_, _, hx.dp p1, hy.dp p2, s1, s2, k _ _ _ (Fr.refl _ _) (.bl _)⟩
  · cases hf
theorem ob_ne : OpB G (rNeD G.K) oNe := by
  intro F H x y dx dy d Q hx hy hf k
  unfold oNe at hf
  split at hf
  · rename_i hs
    obtain ⟨⟨p1, s1⟩, p2, s2⟩ := shp_and hs
    cases hf
    exact ⟨_, _, hx.dp p1, hy.dp p2, s1, s2, k _ _ _ (Fr.refl _ _) (.bl _)⟩
  · cases hf
theorem m_eqV (o : Ok X G W) {a b : Expr} {A B : EV} {pos : Pos} (ha : PE X a (tvOf G W A)) (hb : PE X b (tvOf G W B)) : PE X (.Compare a [.Eq] [b] pos) (teOf G W (iBinV oEq A B)) := m_cmpV (opEq o) ob_eq ha hb
theorem m_neV (o : Ok X G W) {a b : Expr} {A B : EV} {pos : Pos} (ha : PE X a (tvOf G W A)) (hb : PE X b (tvOf G W B)) : PE X (.Compare a [.NotEq] [b] pos) (teOf G W (iBinV oNe A B)) := m_cmpV (opNe o) ob_ne ha hb
theorem n_eqV (o : Ok X G W) {a b : Expr} {A B : EV} {pos : Pos} (ha : PE X a (tvOf G W A)) (hb : PE X b (tvOf G W B)) : PT X (.Compare a [.Eq] [b] pos) (ttOf G W (iCmpV oEq A B)) := n_cmpV (opEq o) ob_eq ha hb
theorem n_neV (o : Ok X G W) {a b : Expr} {A B : EV} {pos : Pos} (ha : PE X a (tvOf G W A)) (hb : PE X b (tvOf G W B)) : PT X (.Compare a [.NotEq] [b] pos) (ttOf G W (iCmpV oNe A B)) := n_cmpV (opNe o) ob_ne ha hb
theorem ob_in (neg : Bool) : OpB G (rInU G.K neg) (oIn neg) := by
  intro F H x y dx dy d Q hx hy hf k
  unfold oIn at hf
  split at hf
  · rename_i ds hds
    split at hf
    · rename_i hs
      obtain ⟨⟨p1, s1⟩, p2, s2⟩ := shp_and hs
      cases hf
      have p3 : plnA ds = true := by simpa only [pln] using p2
      have s3 : SeqAt.shaped (.list (pdA ds)) = true := by simpa only [pd] using s2
      refine ⟨_, pdA ds, hx.dp p1, ?_, s1, s3, k _ _ _ (Fr.refl _ _) (.bl _)⟩
      cases dy with
      | lst ys => cases hds; exact Or.inl (by have := hy.dp (by simpa only [pln] using p3); simpa only [pd] using this)
      | tup ys => cases hds; exact Or.inr (by have := hy.dp (by simpa only [pln] using p3); simpa only [pd] using this)
      | _ => cases hds
    · cases hf
  · cases hf
theorem m_inV (o : Ok X G W) {a b : Expr} {A B : EV} {pos : Pos} (ha : PE X a (tvOf G W A)) (hb : PE X b (tvOf G W B)) (hm : behindInMarks .In b = false := by rfl) : PE X (.Compare a [.In] [b] pos) (teOf G W (iBinV (oIn false) A B)) := m_cmpV (opIn o) (ob_in _) ha hb hm
theorem m_notinV (o : Ok X G W) {a b : Expr} {A B : EV} {pos : Pos} (ha : PE X a (tvOf G W A)) (hb : PE X b (tvOf G W B)) (hm : behindInMarks .NotIn b = false := by rfl) : PE X (.Compare a [.NotIn] [b] pos) (teOf G W (iBinV (oIn true) A B)) := m_cmpV (opNotIn o) (ob_in _) ha hb hm
theorem n_inV (o : Ok X G W) {a b : Expr} {A B : EV} {pos : Pos} (ha : PE X a (tvOf G W A)) (hb : PE X b (tvOf G W B)) (hm : behindInMarks .In b = false := by rfl) : PT X (.Compare a [.In] [b] pos) (ttOf G W (iCmpV (oIn false) A B)) := n_cmpV (opIn o) (ob_in _) ha hb hm
theorem n_notinV (o : Ok X G W) {a b : Expr} {A B : EV} {pos : Pos} (ha : PE X a (tvOf G W A)) (hb : PE X b (tvOf G W B)) (hm : behindInMarks .NotIn b = false := by rfl) : PT X (.Compare a [.NotIn] [b] pos) (ttOf G W (iCmpV (oIn true) A B)) := n_cmpV (opNotIn o) (ob_in _) ha hb hm
/-! items -/
theorem ob_ix : OpB G (rIx G.K) oIx := by
  intro F H x y dx dy d Q hx hy hf k
  unfold oIx at hf
  split at hf
  · rename_i ds i hds
    cases hy.int_inv
    cases dx with
    | lst xs =>
      cases hds
      obtain ⟨p, vs, rfl, h, a, z⟩ := hx.seqL
      obtain ⟨v, e1, e2⟩ := a.at hf
      exact Or.inl ⟨_, _, _, _, rfl, rfl, SqL.of h, e1, k _ _ _ (Fr.refl _ _) e2⟩
    | tup xs =>
      cases hds
      obtain ⟨p, vs, rfl, h, a, z⟩ := hx.seqT
      obtain ⟨v, e1, e2⟩ := a.at hf
      exact Or.inr (Or.inl ⟨_, _, _, _, rfl, rfl, h, e1, k _ _ _ (Fr.refl _ _) e2⟩)
    | _ => cases hds
  · cases hf
/-- an item of a sequence or of a dict -/
def rDg : R2 := fun x y H Q => ∃ a v, x = .ref a ∧ DGet H a y (some v) ∧ Q v H
theorem ix_dg (hu : X.A.units + 1 < cLine) : IxR X rDg := by
  intro value slice pins s σ H x y v u Q I rx ry h hs
  obtain ⟨a, w, ex, g, q⟩ := h
  subst ex
  obtain rfl : v = Value.ref a := rx
  exact tail_any (dict_typeIs I g) PySem.F.slot_dict_getitem.lookup (d_getItem hu I g ry fun w' s3 I3 rw' => ⟨w, H, I3, rw', q⟩) hs
theorem ob_dg : OpB G rDg oDg := by
  intro F H x y dx dy d Q hx hy hf k
  unfold oDg at hf
  split at hf
  · rename_i ds kk hk
    cases Bz.key hy hk
    obtain ⟨p, vs, rfl, h, a, z⟩ := hx.dicV
    obtain ⟨v, e3, e4⟩ := a.look hf
    exact ⟨_, v, rfl, by rw [← e3]; exact DGet.k h, k _ _ _ (Fr.refl _ _) e4⟩
  · cases hf
theorem ob_it : OpB G (fun x y H Q => rIx G.K x y H Q ∨ rDg x y H Q) oIt := by
  intro F H x y dx dy d Q hx hy hf k
  cases dx with
  | dic ds => exact Or.inr (ob_dg F H x y _ dy d Q hx hy hf k)
  | lst ds => exact Or.inl (ob_ix F H x y _ dy d Q hx hy hf k)
  | tup ds => exact Or.inl (ob_ix F H x y _ dy d Q hx hy hf k)
  | _ => cases hf
theorem m_itV (o : Ok X G W) {a b : Expr} {A B : EV} {pos : Pos} (ha : PE X a (tvOf G W A)) (hb : PE X b (tvOf G W B)) (hs : PlainIx b := by exact fun _ _ => rfl) : PE X (.Subscript a b pos) (teOf G W (iBinV oIt A B)) := by
  have h := IxR.or (ix_seq (X := X)) (ix_dg (by have := o.hu; omega))
  rw [o.K] at h
  exact PE.imp (pe_ix h ha hb hs) (q_binV ob_it)
/-! truth -/
def iTestV (A : EV) : EB := fun ρ => (A ρ).bind fun a ρ1 => ofO ((rs a ρ1).bind tru) ρ1
theorem n_truthV (o : Ok X G W) {a : Expr} {A : EV} (ha : PE X a (tvOf G W A)) (he : ∀ whole, isTrue a X.env whole = (do let v ← whole; standAt a.pos; holding [v] (truthy v)) := by intro _; rfl) : PT X a (ttOf G W (iTestV A)) :=
  PT.imp (pt_truth ha he) fun σ H Q ⟨ρ, F, fp, e, h⟩ => by
    refine oc_bind e h fun x dx ρ1 H1 F1 fp1 s1 e1 r1 h1 => ?_
    cases hd : rs dx ρ1 with
    | none => rw [hd] at h1; exact h1.elim
    | some d =>
      rw [hd] at h1
      cases ht : tru d with
      | none => simp only [Option.bind, ht] at h1; exact h1.elim
      | some b =>
        simp only [Option.bind, ht] at h1
        exact ⟨b, by rw [o.K]; exact (RAv.bz e1 r1 hd).tru ht, oc_okR h1 e1 rfl⟩
/-! ### new values -/
structure New0 (H H' : Hp) (F' : AP1) (q : AP1) : Prop where
  old : ∀ a, q a → H a = none
  tr : ∀ a, q a → H' a ≠ none
  nf : ∀ a, q a → ¬ F' a
  ni : ∀ a o, q a → H' a = some o → ¬ Imm o
/-- at the end: an own value, without a change to what is tracked -/
theorem ocO_ok {d : IV} {Q : VK} (h : OcO G W σ H F fp (.ok d ρ) Q) (e : EnvR G F H σ ρ fp) {v : V} {H' : Hp} {F' q : AP1} (f : Fr H F H' F') (r : Own G F' H' v d q) (n : New0 H H' F' q) : Q v H' :=
  h v H' F' fp q (f.stp _) (e.fr f) r ⟨n.old, n.tr, n.nf, fun a z ⟨i, p⟩ => e.tr i a p (n.old a z), n.ni⟩
/-- one new object -/
theorem New0.one {p : Addr} {o : HO} (hp : H p = none) (hf : ¬ F p) (hi : ¬ Imm o) : New0 H (upd H p o) F (fun a => a = p) := by
  refine ⟨?_, ?_, ?_, ?_⟩
  · intro a z; rw [z]; exact hp
  · intro a z q; rw [z, upd_same] at q; cases q
  · intro a z; rw [z]; exact hf
  · intro a u z q; rw [z, upd_same] at q; cases q; exact hi
def OwnK (G : Gx) (F : AP1) (H : Hp) (d : IV) (Q : VK) : Prop := (∀ a, F a → H a ≠ none) → ∀ v H' F' q, Fr H F H' F' → Own G F' H' v d q → New0 H H' F' q → Q v H'
def OpO (G : Gx) (r : R2) (f : IV → IV → Option IV) : Prop := ∀ F H x y dx dy d (Q : VK), (∀ a, F a → H a ≠ none) → Bz G F H x dx → Bz G F H y dy → f dx dy = some d →
  (∀ v H' F' q, Fr H F H' F' → Own G F' H' v d q → New0 H H' F' q → Q v H') → r x y H Q
theorem Fr.frzNew {H' : Hp} {F' q : AP1} (f : Fr H F H' F') (n : New0 H H' F' q) : Fr H F H' (fun a => F' a ∨ q a) :=
  ⟨f.keep, fun a z => Or.inl (f.frm a z), fun a z => z.elim (f.fnew a) fun z => Or.inr ⟨n.old a z, n.tr a z⟩⟩
theorem q_binO {r : R2} {f : IV → IV → Option IV} {A B : EV} (hr : OpO G r f) : ∀ σ H Q, toOf G W (iBinV f A B) σ H Q → tOp r (tvOf G W A) (tvOf G W B) σ H Q := by
  rintro σ H Q ⟨ρ, F, fp, e, h⟩
  refine ocO_bind e h fun x a ρ1 H1 F1 fp1 s1 e1 r1 h1 => ?_
  refine ocO_bind e1 h1 fun y b ρ2 H2 F2 fp2 s2 e2 r2 h2 => ?_
  have r1' : RAv G σ F2 H2 x a := RAv.mono (e1.stq s2) r1
  cases hf : rs2 f a b ρ2 with
  | none => rw [hf] at h2; exact h2.elim
  | some d =>
    rw [hf] at h2
    obtain ⟨dx, dy, g1, g2, g3⟩ := rs2_some hf
    exact hr F2 H2 x y dx dy d Q e2.ft (r1'.bz e2 g1) (RAv.bz e2 r2 g2) g3 fun v H' F' q g z n => ocO_ok h2 e2 g z n
theorem iBinV_fz {f : IV → IV → Option IV} {A B : EV} (hc : ∀ x y d, f x y = some d → canFz d = true) : ∀ ρ d ρ', iBinV f A B ρ = .ok d ρ' → canFz d = true := by
  intro ρ d ρ' h
  obtain ⟨a, ρ1, _, h1⟩ := Rz.bind_ok h
  obtain ⟨b, ρ2, _, h2⟩ := Rz.bind_ok h1
  cases hf : rs2 f a b ρ2 with
  | none => rw [hf] at h2; cases h2
  | some d' =>
    rw [hf] at h2
    cases h2
    obtain ⟨x, y, _, _, g⟩ := rs2_some hf
    exact hc x y _ g
/-! ### lists and tuples joined -/
def oCat (x y : IV) : Option IV := match x, y with
  | .lst xs, .lst ys => if xs.length + ys.length ≤ big then some (.lst (xs ++ ys)) else none
  | _, _ => none
theorem FzA.app : ∀ {vs ws : List V} {ds es : List IV}, FzA G F H vs ds → FzA G F H ws es → FzA G F H (vs ++ ws) (ds ++ es)
  | _, _, _, _, .nil, h => h
  | _, _, _, _, .cons a t, h => .cons a (FzA.app t h)
theorem big_le {n : Nat} (h : n ≤ big) : n ≤ sizeLine := Nat.le_trans h big_line
theorem oo_cat : OpO G rCat oCat := by
  intro F H x y dx dy d Q ft hx hy hf k
  unfold oCat at hf
  split at hf
  · rename_i xs ys
    split at hf
    · rename_i hz
      cases hf
      obtain ⟨p, vs, rfl, h1, a1, z1⟩ := hx.seqL
      obtain ⟨p2, vs2, rfl, h2, a2, z2⟩ := hy.seqL
      have e1 := a1.len
      have e2 := a2.len
      refine ⟨p, p2, vs, vs2, rfl, rfl, h1, h2, big_le (by omega), fun l hl => ?_⟩
      have fr : Fr H F (upd H l (.lst (vs ++ vs2))) F := Fr.new hl
      exact k _ _ F _ fr (.lst upd_same ((a1.app a2).mono fr.stq) (by rw [List.length_append]; omega) fun _ => Iff.rfl) (New0.one hl (fun f => ft l f hl) fun z => z)
    · cases hf
  · cases hf
theorem oCat_fz : ∀ x y d, oCat x y = some d → canFz d = true := by
  intro x y d h
  unfold oCat at h
  split at h
  · split at h
    · cases h; rfl
    · cases h
  · cases h
theorem o_cat {a b : Expr} {A B : EV} {pos : Pos} (ha : PE X a (tvOf G W A)) (hb : PE X b (tvOf G W B)) : PE X (.BinOp a .Add b pos) (toOf G W (iBinV oCat A B)) := PE.imp (pe_op op_cat ha hb) (q_binO oo_cat)
theorem m_cat {a b : Expr} {A B : EV} {pos : Pos} (ha : PE X a (tvOf G W A)) (hb : PE X b (tvOf G W B)) : PE X (.BinOp a .Add b pos) (teOf G W (iBinV oCat A B)) := m_frz (o_cat ha hb) (iBinV_fz oCat_fz)
/-- a list many times -/
def oRep (x y : IV) : Option IV := match x, y with
  | .lst xs, .int k => if k ≤ 1000 ∧ -1000 ≤ k ∧ xs.length ≤ 1000 then some (.lst (List.replicate k.toNat xs).flatten) else none
  | _, _ => none
theorem FzA.rep {vs : List V} {ds : List IV} (h : FzA G F H vs ds) : ∀ n : Nat, FzA G F H (List.replicate n vs).flatten (List.replicate n ds).flatten
  | 0 => .nil
  | n + 1 => by
    rw [List.replicate_succ, List.replicate_succ, List.flatten_cons, List.flatten_cons]
    exact h.app (h.rep n)
theorem rep_len {α : Type} (l : List α) : ∀ n : Nat, (List.replicate n l).flatten.length = n * l.length
  | 0 => by simp
  | n + 1 => by rw [List.replicate_succ, List.flatten_cons, List.length_append, rep_len l n, Nat.succ_mul]; omega
theorem oo_rep : OpO G rRep oRep := by
  intro F H x y dx dy d Q ft hx hy hf k
  unfold oRep at hf
  split at hf
  · rename_i xs n
    split at hf
    · rename_i hz
      cases hf
      obtain ⟨h1, h2, h3⟩ := hz
      cases hy.int_inv
      obtain ⟨p, vs, rfl, hp, a1, z1⟩ := hx.seqL
      have e1 := a1.len
      have hm : vs.length * n.toNat ≤ big := Nat.le_trans (Nat.mul_le_mul (by omega : vs.length ≤ 1000) (by omega : n.toNat ≤ 1000)) (by decide)
      refine ⟨p, n, vs, rfl, rfl, hp, by omega, by omega, big_le hm, fun l hl => ?_⟩
      have fr : Fr H F (upd H l (.lst (List.replicate n.toNat vs).flatten)) F := Fr.new hl
      exact k _ _ F _ fr (.lst upd_same ((a1.rep _).mono fr.stq) (by rw [rep_len, Nat.mul_comm]; exact hm) fun _ => Iff.rfl) (New0.one hl (fun f => ft l f hl) fun z => z)
    · cases hf
  · cases hf
theorem oRep_fz : ∀ x y d, oRep x y = some d → canFz d = true := by
  intro x y d h
  unfold oRep at h
  split at h
  · split at h
    · cases h; rfl
    · cases h
  · cases h
theorem o_rep {a b : Expr} {A B : EV} {pos : Pos} (ha : PE X a (tvOf G W A)) (hb : PE X b (tvOf G W B)) : PE X (.BinOp a .Mult b pos) (toOf G W (iBinV oRep A B)) := PE.imp (pe_op op_rep ha hb) (q_binO oo_rep)
theorem m_rep {a b : Expr} {A B : EV} {pos : Pos} (ha : PE X a (tvOf G W A)) (hb : PE X b (tvOf G W B)) : PE X (.BinOp a .Mult b pos) (teOf G W (iBinV oRep A B)) := m_frz (o_rep ha hb) (iBinV_fz oRep_fz)
theorem OpO.toB {r : R2} {f : IV → IV → Option IV} (h : OpO G r f) (hc : ∀ x y d, f x y = some d → canFz d = true) (F : AP1) (H : Hp) (x y : V) (dx dy d : IV) (Q : VK) (ft : ∀ a, F a → H a ≠ none) (hx : Bz G F H x dx) (hy : Bz G F H y dy) (hf : f dx dy = some d)
    (k : ∀ v H' F', Fr H F H' F' → Fz G F' H' v d → Q v H') : r x y H Q :=
  h F H x y dx dy d Q ft hx hy hf fun v H' F' q fr r n => k v H' _ (fr.frzNew n) (r.freeze (hc _ _ _ hf))
/-- + of ints, texts, tuples -/
def oPlus (x y : IV) : Option IV := match x, y with
  | .int i, .int j => some (.int (i + j))
  | .str i, .str j => if i.length + j.length ≤ big then some (.str (i ++ j)) else none
  | .tup xs, .tup ys => if xs.length + ys.length ≤ 1000 then some (.tup (xs ++ ys)) else none
  | _, _ => none
def rPlus (K : Frag) : R2 := fun x y H Q => rI0 (fun i j => .int (i + j)) x y H Q ∨ (∃ i j, x = .str i ∧ y = .str j ∧ i.length + j.length ≤ sizeLine ∧ Q (.str (i ++ j)) H) ∨ rCatA K x y H Q
theorem op_plus : OpR X (binaryOp .Add) (rPlus X.K) := OpR.or op_add (OpR.or op_add_str op_catA)
theorem ob_plus : OpB G (rPlus G.K) oPlus := by
  intro F H x y dx dy d Q hx hy hf k
  unfold oPlus at hf
  split at hf
  · cases hf
    cases hx.int_inv
    cases hy.int_inv
    exact Or.inl ⟨_, _, rfl, rfl, k _ _ _ (Fr.refl _ _) (.int _)⟩
  · split at hf
    · rename_i hz
      cases hf
      cases hx.str_inv
      cases hy.str_inv
      exact Or.inr (Or.inl ⟨_, _, rfl, rfl, big_le hz, k _ _ _ (Fr.refl _ _) (.str _)⟩)
    · cases hf
  · rename_i xs ys
    split at hf
    · rename_i hz
      cases hf
      obtain ⟨p, vs, rfl, h1, a1, z1⟩ := hx.seqT
      obtain ⟨p2, vs2, rfl, h2, a2, z2⟩ := hy.seqT
      have e1 := a1.len
      have e2 := a2.len
      have hb : vs.length + vs2.length ≤ big := Nat.le_trans (by omega : vs.length + vs2.length ≤ 1000) (by decide)
      refine Or.inr (Or.inr ⟨p, p2, vs, vs2, rfl, rfl, h1, h2, big_le hb, fun e => ?_, fun _ e => ?_, fun _ _ l hl => ?_⟩)
      · subst e
        cases a1
        exact k _ _ _ (Fr.refl _ _) (.tup h2 a2 z2)
      · subst e
        cases a2
        have k' := k (.ref p) H F (Fr.refl _ _)
        rw [List.append_nil] at k'
        exact k' (.tup h1 a1 z1)
      · have fr : Fr H F (upd H l (.tup (vs ++ vs2))) F := Fr.new hl
        exact k _ _ F fr (.tup (SqT.of upd_same) ((a1.app a2).mono fr.stq) (by rw [List.length_append]; exact hb))
    · cases hf
  · cases hf
theorem opPlus (o : Ok X G W) : OpR X (binaryOp .Add) (rPlus G.K) := by
  have h := op_plus (X := X)
  rwa [o.K] at h
theorem m_plus (o : Ok X G W) {a b : Expr} {A B : E} {pos : Pos} (ha : PE X a (teOf G W A)) (hb : PE X b (teOf G W B)) : PE X (.BinOp a .Add b pos) (teOf G W (iBin oPlus A B)) := m_bin (opPlus o) ob_plus.toF ha hb
end
end MR
set_option maxRecDepth 100000
set_option maxHeartbeats 4000000
/-! MirL: built-in functions, isinstance, slices. -/
namespace MR
open PySem L2 PyProof.Rows PySem.W
section
variable {X : Cx} {G : Gx} {W : WX} {σ : L2.St} {H : Hp} {F : AP1} {fp : FPt} {ρ : Env}
def CallB (G : Gx) (r : List V → Hp → VK → Prop) (f : List IV → Option IV) : Prop := ∀ F H xs ds d (Q : VK), BzA G F H xs ds → f ds = some d →
  (∀ v H' F', Fr H F H' F' → Fz G F' H' v d → Q v H') → r xs H Q
def CallO (G : Gx) (r : List V → Hp → VK → Prop) (f : List IV → Option IV) : Prop := ∀ F H xs ds d (Q : VK), (∀ a, F a → H a ≠ none) → BzA G F H xs ds → f ds = some d →
  (∀ v H' F' q, Fr H F H' F' → Own G F' H' v d q → New0 H H' F' q → Q v H') → r xs H Q
def iCallJ (f : List IV → Option IV) (J : EAv) : E := fun ρ => (J ρ).bind fun as ρ1 => ofO ((rsA as ρ1).bind f) ρ1
theorem q_callJ {r : List V → Hp → VK → Prop} {f : List IV → Option IV} {J : EAv} (hr : CallB G r f) : ∀ σ H Q, teOf G W (iCallJ f J) σ H Q → tCB r (tjOf G W J) σ H Q := by
  rintro σ H Q ⟨ρ, F, fp, e, h⟩
  refine oc_bind e h fun xs as ρ1 H1 F1 fp1 s1 e1 r1 h1 => ?_
  cases hf : (rsA as ρ1).bind f with
  | none => rw [hf] at h1; exact h1.elim
  | some d =>
    rw [hf] at h1
    obtain ⟨ds, g1, g2⟩ := Option.bind_eq_some_iff.mp hf
    exact hr F1 H1 xs ds d Q (RAs.bz e1 r1 g1) g2 fun v H' F' g z => oc_ok h1 e1 g z
theorem q_callJO {r : List V → Hp → VK → Prop} {f : List IV → Option IV} {J : EAv} (hr : CallO G r f) : ∀ σ H Q, toOf G W (iCallJ f J) σ H Q → tCB r (tjOf G W J) σ H Q := by
  rintro σ H Q ⟨ρ, F, fp, e, h⟩
  refine ocO_bind e h fun xs as ρ1 H1 F1 fp1 s1 e1 r1 h1 => ?_
  cases hf : (rsA as ρ1).bind f with
  | none => rw [hf] at h1; exact h1.elim
  | some d =>
    rw [hf] at h1
    obtain ⟨ds, g1, g2⟩ := Option.bind_eq_some_iff.mp hf
    exact hr F1 H1 xs ds d Q e1.ft (RAs.bz e1 r1 g1) g2 fun v H' F' q g z n => ocO_ok h1 e1 g z n
theorem iCallJ_fz {f : List IV → Option IV} {J : EAv} (hc : ∀ ds d, f ds = some d → canFz d = true) : ∀ ρ d ρ', iCallJ f J ρ = .ok d ρ' → canFz d = true := by
  intro ρ d ρ' h
  obtain ⟨as, ρ1, _, h1⟩ := Rz.bind_ok h
  cases hf : (rsA as ρ1).bind f with
  | none => rw [hf] at h1; cases h1
  | some d' =>
    rw [hf] at h1
    cases h1
    obtain ⟨ds, _, g⟩ := Option.bind_eq_some_iff.mp hf
    exact hc ds _ g
theorem m_callJ {id : String} {x : Str} {e : Expr} {es : List Expr} {p pos : Pos} {r : List V → Hp → VK → Prop} {f : List IV → Option IV} {J : EAv} (hc : CallR X (.builtin id) r) (hr : CallB G r f) (hg : Gl X x) (hm : X.mg x = none) (hv : bootBuiltins x = some (.builtin id))
    (ha : PA X (e :: es) (tjOf G W J)) (hn : x ≠ "__name__" := by decide) (hdb : (x == ("__debug__" : Str)) = false := by decide)
    (he : starEach (e :: es) X.env = (false, eval e X.env) :: starEach es X.env := by rfl) (hpl : (backTo pos (starEach es X.env)).any (·.1) = false := by rfl) : PE X (.Call (.Name x p) (e :: es) [] pos) (teOf G W (iCallJ f J)) :=
  PE.imp (pe_callB hc hg hm hv ha hn hdb he hpl) (q_callJ hr)
theorem m_callJT {T : String} {x : Str} {e : Expr} {es : List Expr} {p pos : Pos} {r : List V → Hp → VK → Prop} {f : List IV → Option IV} {J : EAv} (hc : CallR X (.type T) r) (hr : CallB G r f) (hg : Gl X x) (hm : X.mg x = none) (hv : bootBuiltins x = some (.type T))
    (ha : PA X (e :: es) (tjOf G W J)) (hn : x ≠ "__name__" := by decide) (hdb : (x == ("__debug__" : Str)) = false := by decide)
    (he : starEach (e :: es) X.env = (false, eval e X.env) :: starEach es X.env := by rfl) (hpl : (backTo pos (starEach es X.env)).any (·.1) = false := by rfl) : PE X (.Call (.Name x p) (e :: es) [] pos) (teOf G W (iCallJ f J)) :=
  PE.imp (pe_callTy hc hg hm hv ha hn hdb he hpl) (q_callJ hr)
theorem o_callJ {id : String} {x : Str} {e : Expr} {es : List Expr} {p pos : Pos} {r : List V → Hp → VK → Prop} {f : List IV → Option IV} {J : EAv} (hc : CallR X (.builtin id) r) (hr : CallO G r f) (hg : Gl X x) (hm : X.mg x = none) (hv : bootBuiltins x = some (.builtin id))
    (ha : PA X (e :: es) (tjOf G W J)) (hn : x ≠ "__name__" := by decide) (hdb : (x == ("__debug__" : Str)) = false := by decide)
    (he : starEach (e :: es) X.env = (false, eval e X.env) :: starEach es X.env := by rfl) (hpl : (backTo pos (starEach es X.env)).any (·.1) = false := by rfl) : PE X (.Call (.Name x p) (e :: es) [] pos) (toOf G W (iCallJ f J)) :=
  PE.imp (pe_callB hc hg hm hv ha hn hdb he hpl) (q_callJO hr)
theorem o_callJT {T : String} {x : Str} {e : Expr} {es : List Expr} {p pos : Pos} {r : List V → Hp → VK → Prop} {f : List IV → Option IV} {J : EAv} (hc : CallR X (.type T) r) (hr : CallO G r f) (hg : Gl X x) (hm : X.mg x = none) (hv : bootBuiltins x = some (.type T))
    (ha : PA X (e :: es) (tjOf G W J)) (hn : x ≠ "__name__" := by decide) (hdb : (x == ("__debug__" : Str)) = false := by decide)
    (he : starEach (e :: es) X.env = (false, eval e X.env) :: starEach es X.env := by rfl) (hpl : (backTo pos (starEach es X.env)).any (·.1) = false := by rfl) : PE X (.Call (.Name x p) (e :: es) [] pos) (toOf G W (iCallJ f J)) :=
  PE.imp (pe_callTy hc hg hm hv ha hn hdb he hpl) (q_callJO hr)
theorem BzA.one {xs : List V} {d : IV} (h : BzA G F H xs [d]) : ∃ v, xs = [v] ∧ Bz G F H v d := by
  cases h with
  | cons h t => cases t; exact ⟨_, rfl, h⟩
theorem BzA.two {xs : List V} {d e : IV} (h : BzA G F H xs [d, e]) : ∃ v w, xs = [v, w] ∧ Bz G F H v d ∧ Bz G F H w e := by
  cases h with
  | cons h t => cases t with
    | cons h2 t => cases t; exact ⟨_, _, rfl, h, h2⟩
/-! ### len -/
def fLen : List IV → Option IV
  | [.lst xs] => some (.int xs.length)
  | [.tup xs] => some (.int xs.length)
  | [.dic xs] => some (.int xs.length)
  | [.scr xs] => some (.int xs.length)
  | [.str s] => if s.length ≤ big then some (.int s.length) else none
  | _ => none
def rLen (K : Frag) : List V → Hp → VK → Prop := fun xs H Q => (∃ x n, xs = [x] ∧ LenV K x H n ∧ Q (.int (n : Nat)) H) ∨ (∃ a kvs, xs = [V.ref a] ∧ H a = some (.dK kvs) ∧ Q (.int kvs.length) H)
theorem c_len : CallR X (.builtin "len") (rLen X.K) := CallR.or call_len call_lenD
theorem b_len : CallB G (rLen G.K) fLen := by
  intro F H xs ds d Q hx hf k
  unfold fLen at hf
  split at hf
  · cases hf
    obtain ⟨v, rfl, h⟩ := hx.one
    obtain ⟨p, vs, rfl, h1, a, z⟩ := h.seqL
    exact Or.inl ⟨_, _, rfl, Or.inl ⟨_, SqL.of h1, rfl⟩, k _ _ _ (Fr.refl _ _) (by rw [a.len]; exact .int _)⟩
  · cases hf
    obtain ⟨v, rfl, h⟩ := hx.one
    obtain ⟨p, vs, rfl, h1, a, z⟩ := h.seqT
    exact Or.inl ⟨_, _, rfl, Or.inr ⟨_, h1, rfl⟩, k _ _ _ (Fr.refl _ _) (by rw [a.len]; exact .int _)⟩
  · cases hf
    obtain ⟨v, rfl, h⟩ := hx.one
    obtain ⟨p, vs, rfl, h1, a, z⟩ := h.dicV
    exact Or.inr ⟨_, _, rfl, h1, k _ _ _ (Fr.refl _ _) (by rw [a.len]; exact .int _)⟩
  · cases hf
    obtain ⟨v, rfl, h⟩ := hx.one
    obtain ⟨p, rfl, h1, z⟩ := h.scrV
    exact Or.inl ⟨_, _, rfl, Or.inl ⟨_, stL_sq h1, rfl⟩, k _ _ _ (Fr.refl _ _) (by rw [List.length_map]; exact .int _)⟩
  · split at hf
    · rename_i hz
      cases hf
      obtain ⟨v, rfl, h⟩ := hx.one
      cases h.str_inv
      exact Or.inl ⟨_, _, rfl, ⟨big_le hz, rfl⟩, k _ _ _ (Fr.refl _ _) (.int _)⟩
    · cases hf
  · cases hf
theorem m_len (o : Ok X G W) {e : Expr} {p pos : Pos} {J : EAv} (hg : Gl X "len") (hm : X.mg "len" = none) (ha : PA X [e] (tjOf G W J)) (he : starEach [e] X.env = [(false, eval e X.env)] := by rfl) : PE X (.Call (.Name "len" p) [e] [] pos) (teOf G W (iCallJ fLen J)) := by
  have h := c_len (X := X)
  rw [o.K] at h
  exact m_callJ h b_len hg hm rfl ha (by decide) (by decide) he
/-! ### all, any -/
def blsOf : List IV → Option (List Bool)
  | [] => some []
  | .bl b :: xs => (blsOf xs).map (b :: ·)
  | _ => none
def intsOf : List IV → Option (List Int)
  | [] => some []
  | .int b :: xs => (intsOf xs).map (b :: ·)
  | _ => none
theorem FzA.bls : ∀ {vs : List V} {ds : List IV} {bs : List Bool}, FzA G F H vs ds → blsOf ds = some bs → vs = bs.map V.bl
  | _, _, _, .nil, h => by cases h; rfl
  | _, _, bs, .cons (d := d) h t, e => by
    cases d with
    | bl b =>
      simp only [blsOf] at e
      obtain ⟨cs, e1, e2⟩ := Option.map_eq_some_iff.mp e
      subst e2
      cases h.bl_inv
      rw [FzA.bls t e1]
      rfl
    | _ => cases e
theorem FzA.ints : ∀ {vs : List V} {ds : List IV} {bs : List Int}, FzA G F H vs ds → intsOf ds = some bs → vs = bs.map V.int
  | _, _, _, .nil, h => by cases h; rfl
  | _, _, bs, .cons (d := d) h t, e => by
    cases d with
    | int b =>
      simp only [intsOf] at e
      obtain ⟨cs, e1, e2⟩ := Option.map_eq_some_iff.mp e
      subst e2
      cases h.int_inv
      rw [FzA.ints t e1]
      rfl
    | _ => cases e
def fAll : List IV → Option IV
  | [.lst xs] => (blsOf xs).map fun bs => .bl (bs.all id)
  | _ => none
def fAny : List IV → Option IV
  | [.lst xs] => (blsOf xs).map fun bs => .bl (bs.any id)
  | _ => none
theorem b_all : CallB G (rAll G.K) fAll := by
  intro F H xs ds d Q hx hf k
  unfold fAll at hf
  split at hf
  · obtain ⟨bs, e1, e2⟩ := Option.map_eq_some_iff.mp hf
    subst e2
    obtain ⟨v, rfl, h⟩ := hx.one
    obtain ⟨p, vs, rfl, h1, a, z⟩ := h.seqL
    exact ⟨_, bs, rfl, by rw [← a.bls e1]; exact SqL.of h1, k _ _ _ (Fr.refl _ _) (.bl _)⟩
  · cases hf
theorem b_any : CallB G (rAny G.K) fAny := by
  intro F H xs ds d Q hx hf k
  unfold fAny at hf
  split at hf
  · obtain ⟨bs, e1, e2⟩ := Option.map_eq_some_iff.mp hf
    subst e2
    obtain ⟨v, rfl, h⟩ := hx.one
    obtain ⟨p, vs, rfl, h1, a, z⟩ := h.seqL
    exact ⟨_, bs, rfl, by rw [← a.bls e1]; exact SqL.of h1, k _ _ _ (Fr.refl _ _) (.bl _)⟩
  · cases hf
theorem m_all (o : Ok X G W) {e : Expr} {p pos : Pos} {J : EAv} (hg : Gl X "all") (hm : X.mg "all" = none) (ha : PA X [e] (tjOf G W J)) (he : starEach [e] X.env = [(false, eval e X.env)] := by rfl) : PE X (.Call (.Name "all" p) [e] [] pos) (teOf G W (iCallJ fAll J)) := by
  have h := cr_all o.calm
  rw [o.K] at h
  exact m_callJ h b_all hg hm rfl ha (by decide) (by decide) he
theorem m_any (o : Ok X G W) {e : Expr} {p pos : Pos} {J : EAv} (hg : Gl X "any") (hm : X.mg "any" = none) (ha : PA X [e] (tjOf G W J)) (he : starEach [e] X.env = [(false, eval e X.env)] := by rfl) : PE X (.Call (.Name "any" p) [e] [] pos) (teOf G W (iCallJ fAny J)) := by
  have h := cr_any o.calm
  rw [o.K] at h
  exact m_callJ h b_any hg hm rfl ha (by decide) (by decide) he
/-! ### tuple, list -/
def fTup : List IV → Option IV
  | [.lst xs] => some (.tup xs)
  | [.tup xs] => some (.tup xs)
  | _ => none
theorem b_tup : CallB G (fun xs H Q => ∃ p ys, xs = [.ref p] ∧ ((SqL G.K H p ys ∧ ∀ l, H l = none → Q (.ref l) (upd H l (.tup ys))) ∨ (SqT G.K H p ys ∧ Q (.ref p) H))) fTup := by
  intro F H xs ds d Q hx hf k
  unfold fTup at hf
  split at hf
  · cases hf
    obtain ⟨v, rfl, h⟩ := hx.one
    obtain ⟨p, vs, rfl, h1, a, z⟩ := h.seqL
    refine ⟨_, vs, rfl, Or.inl ⟨SqL.of h1, fun l hl => ?_⟩⟩
    have fr : Fr H F (upd H l (.tup vs)) F := Fr.new hl
    exact k _ _ F fr (.tup (SqT.of upd_same) (a.mono fr.stq) z)
  · cases hf
    obtain ⟨v, rfl, h⟩ := hx.one
    obtain ⟨p, vs, rfl, h1, a, z⟩ := h.seqT
    exact ⟨_, vs, rfl, Or.inr ⟨h1, k _ _ _ (Fr.refl _ _) (.tup h1 a z)⟩⟩
  · cases hf
theorem m_tuple (o : Ok X G W) {e : Expr} {p pos : Pos} {J : EAv} (hg : Gl X "tuple") (hm : X.mg "tuple" = none) (ha : PA X [e] (tjOf G W J)) (he : starEach [e] X.env = [(false, eval e X.env)] := by rfl) : PE X (.Call (.Name "tuple" p) [e] [] pos) (teOf G W (iCallJ fTup J)) := by
  have h := call_tuple_of (X := X)
  rw [o.K] at h
  exact m_callJT h b_tup hg hm rfl ha (by decide) (by decide) he
def kIV : Key → IV
  | .inl i => .int i
  | .inr s => .str s
def fList : List IV → Option IV
  | [.lst xs] => some (.lst xs)
  | [.tup xs] => some (.lst xs)
  | [.dic xs] => some (.lst (xs.map fun kv => kIV kv.1))
  | _ => none
theorem FzP.keys : ∀ {vs : List (Key × V)} {ds : List (Key × IV)}, FzP G F H vs ds → FzA G F H (vs.map fun kv => kV kv.1) (ds.map fun kv => kIV kv.1)
  | _, _, .nil => .nil
  | _, _, .cons (k := k) h t => by
    cases k with
    | inl i => exact .cons (.int i) (FzP.keys t)
    | inr i => exact .cons (.str i) (FzP.keys t)
def rList (K : Frag) : List V → Hp → VK → Prop := fun xs H Q => (∃ p ys, xs = [.ref p] ∧ (SqL K H p ys ∨ SqT K H p ys) ∧ ∀ l, H l = none → Q (.ref l) (upd H l (.lst ys))) ∨
  (∃ (a : Addr) (kvs : List (Key × V)), xs = [.ref a] ∧ Rd H a (.dK kvs) ∧ ∀ p, H p = none → Q (.ref p) (upd H p (.lst (kvs.map fun kv => kV kv.1))))
theorem c_list (hc : X.calm = true) : CallR X (.type "list") (rList X.K) := CallR.or call_list_of (call_listD hc)
theorem own_new {Q : VK} {vs : List V} {ds : List IV} {l : Addr} (ft : ∀ a, F a → H a ≠ none) (hl : H l = none) (a : FzA G F H vs ds) (z : vs.length ≤ big)
    (k : ∀ v H' F' q, Fr H F H' F' → Own G F' H' v (.lst ds) q → New0 H H' F' q → Q v H') : Q (.ref l) (upd H l (.lst vs)) := by
  have fr : Fr H F (upd H l (.lst vs)) F := Fr.new hl
  exact k _ _ F _ fr (.lst upd_same (a.mono fr.stq) z fun _ => Iff.rfl) (New0.one hl (fun f => ft l f hl) fun z => z)
theorem o_list : CallO G (rList G.K) fList := by
  intro F H xs ds d Q ft hx hf k
  unfold fList at hf
  split at hf
  · cases hf
    obtain ⟨v, rfl, h⟩ := hx.one
    obtain ⟨p, vs, rfl, h1, a, z⟩ := h.seqL
    exact Or.inl ⟨_, vs, rfl, Or.inl (SqL.of h1), fun l hl => own_new ft hl a z k⟩
  · cases hf
    obtain ⟨v, rfl, h⟩ := hx.one
    obtain ⟨p, vs, rfl, h1, a, z⟩ := h.seqT
    exact Or.inl ⟨_, vs, rfl, Or.inr h1, fun l hl => own_new ft hl a z k⟩
  · cases hf
    obtain ⟨v, rfl, h⟩ := hx.one
    obtain ⟨p, vs, rfl, h1, a, z⟩ := h.dicV
    exact Or.inr ⟨_, vs, rfl, Or.inl h1, fun l hl => own_new ft hl a.keys (by rw [List.length_map]; exact z) k⟩
  · cases hf
theorem fList_fz : ∀ ds d, fList ds = some d → canFz d = true := by
  intro ds d h
  unfold fList at h
  split at h <;> cases h <;> rfl
theorem o_listC (o : Ok X G W) {e : Expr} {p pos : Pos} {J : EAv} (hg : Gl X "list") (hm : X.mg "list" = none) (ha : PA X [e] (tjOf G W J)) (he : starEach [e] X.env = [(false, eval e X.env)] := by rfl) : PE X (.Call (.Name "list" p) [e] [] pos) (toOf G W (iCallJ fList J)) := by
  have h := c_list o.calm
  rw [o.K] at h
  exact o_callJT h o_list hg hm rfl ha (by decide) (by decide) he
theorem m_listC (o : Ok X G W) {e : Expr} {p pos : Pos} {J : EAv} (hg : Gl X "list") (hm : X.mg "list" = none) (ha : PA X [e] (tjOf G W J)) (he : starEach [e] X.env = [(false, eval e X.env)] := by rfl) : PE X (.Call (.Name "list" p) [e] [] pos) (teOf G W (iCallJ fList J)) :=
  m_frz (o_listC o hg hm ha he) (iCallJ_fz fList_fz)
/-! ### sum, max, min -/
def fSum : List IV → Option IV
  | [.lst xs] => (intsOf xs).map fun ns => .int ns.sum
  | [.tup xs] => (intsOf xs).map fun ns => .int ns.sum
  | _ => none
def rSumT (K : Frag) : List V → Hp → VK → Prop := fun vs H Q => ∃ (a : Addr) (ns : List Int), vs = [V.ref a] ∧ SqT K H a (ns.map V.int) ∧ Q (.int ns.sum) H
theorem cr_sumT (hc : X.calm = true) : CallR X (.builtin "sum") (rSumT X.K) := by
  intro pins s σ H vs us Q I r h
  obtain ⟨a, ns, rfl, hs, q⟩ := h
  obtain ⟨its, rv, hl, _⟩ := I.tuple hs
  rw [Vals.ref1 r]
  obtain ⟨xs, hx⟩ := rv.ints.allInts.items
  have hn : numsOf its.toArray.toList = ns := by rw [show its.toArray.toList = its from rfl, rv.ints.numsOf]
  rw [hx] at hl hn
  rw [nums_intItems] at hn
  refine PySem.W.ktm_sumG (I.ok.hd hc) hl fun h' tk t' hk => ?_
  rw [preSum_eq, List.take_of_length_le (by simp), hn]
  exact ⟨.int _, H, I.kept hk, ⟨_, rfl⟩, q⟩
def rSumA (K : Frag) : List V → Hp → VK → Prop := fun xs H Q => rSum K xs H Q ∨ rSumT K xs H Q
theorem b_sum : CallB G (rSumA G.K) fSum := by
  intro F H xs ds d Q hx hf k
  unfold fSum at hf
  split at hf
  · obtain ⟨bs, e1, e2⟩ := Option.map_eq_some_iff.mp hf
    subst e2
    obtain ⟨v, rfl, h⟩ := hx.one
    obtain ⟨p, vs, rfl, h1, a, z⟩ := h.seqL
    exact Or.inl ⟨_, bs, rfl, by rw [← a.ints e1]; exact SqL.of h1, k _ _ _ (Fr.refl _ _) (.int _)⟩
  · obtain ⟨bs, e1, e2⟩ := Option.map_eq_some_iff.mp hf
    subst e2
    obtain ⟨v, rfl, h⟩ := hx.one
    obtain ⟨p, vs, rfl, h1, a, z⟩ := h.seqT
    exact Or.inr ⟨_, bs, rfl, by rw [← a.ints e1]; exact h1, k _ _ _ (Fr.refl _ _) (.int _)⟩
  · cases hf
theorem m_sum (o : Ok X G W) {e : Expr} {p pos : Pos} {J : EAv} (hg : Gl X "sum") (hm : X.mg "sum" = none) (ha : PA X [e] (tjOf G W J)) (he : starEach [e] X.env = [(false, eval e X.env)] := by rfl) : PE X (.Call (.Name "sum" p) [e] [] pos) (teOf G W (iCallJ fSum J)) := by
  have h := CallR.or (cr_sum o.calm) (cr_sumT o.calm)
  rw [o.K] at h
  exact m_callJ h b_sum hg hm rfl ha (by decide) (by decide) he
theorem alike_all_ints (ns : List Int) : AlikeAll (ns.map PyData.int) := by
  refine ⟨fun x hx y hy => ?_, fun x hx => ?_⟩
  · obtain ⟨i, _, rfl⟩ := List.mem_map.mp hx
    obtain ⟨j, _, rfl⟩ := List.mem_map.mp hy
    rfl
  · obtain ⟨i, _, rfl⟩ := List.mem_map.mp hx
    exact fun z => by cases z
theorem reads_ints {h : Heap} : ∀ {us : List Value} {ns : List Int}, IntsAre us ns → ∃ as, ReadsAll h us (ns.map .int) as
  | _, _, .nil => ⟨_, ReadsAll.nil⟩
  | _, _, .cons n t r => by
    obtain ⟨as, q⟩ := reads_ints r
    exact ⟨_, ReadsAll.cons (Reads.int n t) q⟩
def rMxT (nm : Bool) (K : Frag) : List V → Hp → VK → Prop := fun vs H Q => ∃ (a : Addr) (n : Int) (ns : List Int), vs = [V.ref a] ∧ (SqT K H a ((n :: ns).map V.int) ∨ SqL K H a ((n :: ns).map V.int)) ∧ Q (.int (if nm then ns.foldl max n else ns.foldl min n)) H
theorem cr_mxT (o : Ok X G W) : CallR X (.builtin "max") (rMxT true X.K) := by
  intro pins s σ H vs us Q I r h
  obtain ⟨a, n, ns, rfl, hs, q⟩ := h
  rw [Vals.ref1 r]
  have hu : X.A.units + 1 + PyData.depthAll ((n :: ns).map PyData.int) < cLine := by rw [depth_ints]; have := o.hu; omega
  rcases hs with hs | hs
  · obtain ⟨its, rv, hl, _⟩ := I.tuple hs
    obtain ⟨as, hr⟩ := reads_ints (h := s.heap) rv.ints
    refine max_tuple_data (I.ok.hd o.calm) hl hr (alike_all_ints (n :: ns)) hu fun i v h' tk bs hv rd hk => ?_
    rw [maxD_ints] at rd
    cases rd
    exact ⟨.int _, H, I.kept hk, ⟨_, rfl⟩, q⟩
  · obtain ⟨its, rv, hl, _⟩ := I.list hs
    obtain ⟨as, hr⟩ := reads_ints (h := s.heap) rv.ints
    refine max_list_data (I.ok.hd o.calm) hl.isList hr (alike_all_ints (n :: ns)) hu fun i v h' tk bs hv rd hk => ?_
    rw [maxD_ints] at rd
    cases rd
    exact ⟨.int _, H, I.kept hk, ⟨_, rfl⟩, q⟩
theorem cr_mnT (o : Ok X G W) : CallR X (.builtin "min") (rMxT false X.K) := by
  intro pins s σ H vs us Q I r h
  obtain ⟨a, n, ns, rfl, hs, q⟩ := h
  rw [Vals.ref1 r]
  have hu : X.A.units + 1 + PyData.depthAll ((n :: ns).map PyData.int) < cLine := by rw [depth_ints]; have := o.hu; omega
  rcases hs with hs | hs
  · obtain ⟨its, rv, hl, _⟩ := I.tuple hs
    obtain ⟨as, hr⟩ := reads_ints (h := s.heap) rv.ints
    refine min_tuple_data (I.ok.hd o.calm) hl hr (alike_all_ints (n :: ns)) hu fun i v h' tk bs hv rd hk => ?_
    rw [minD_ints] at rd
    cases rd
    exact ⟨.int _, H, I.kept hk, ⟨_, rfl⟩, q⟩
  · obtain ⟨its, rv, hl, _⟩ := I.list hs
    obtain ⟨as, hr⟩ := reads_ints (h := s.heap) rv.ints
    refine min_list_data (I.ok.hd o.calm) hl.isList hr (alike_all_ints (n :: ns)) hu fun i v h' tk bs hv rd hk => ?_
    rw [minD_ints] at rd
    cases rd
    exact ⟨.int _, H, I.kept hk, ⟨_, rfl⟩, q⟩
def fMx (nm : Bool) : List IV → Option IV
  | [.int i, .int j] => some (.int (if nm then (if j > i then j else i) else (if j < i then j else i)))
  | [.lst xs] => match intsOf xs with
    | some (n :: ns) => some (.int (if nm then ns.foldl max n else ns.foldl min n))
    | _ => none
  | [.tup xs] => match intsOf xs with
    | some (n :: ns) => some (.int (if nm then ns.foldl max n else ns.foldl min n))
    | _ => none
  | _ => none
def rMx (nm : Bool) (K : Frag) : List V → Hp → VK → Prop := fun xs H Q => (∃ i j, xs = [.int i, .int j] ∧ Q (.int (if nm then (if j > i then j else i) else (if j < i then j else i))) H) ∨ rMxT nm K xs H Q
theorem b_mx (nm : Bool) : CallB G (rMx nm G.K) (fMx nm) := by
  intro F H xs ds d Q hx hf k
  unfold fMx at hf
  split at hf
  · cases hf
    obtain ⟨v, w, rfl, h1, h2⟩ := hx.two
    cases h1.int_inv
    cases h2.int_inv
    exact Or.inl ⟨_, _, rfl, k _ _ _ (Fr.refl _ _) (.int _)⟩
  · split at hf
    · rename_i n ns e1
      cases hf
      obtain ⟨v, rfl, h⟩ := hx.one
      obtain ⟨p, vs, rfl, h1, a, z⟩ := h.seqL
      exact Or.inr ⟨_, n, ns, rfl, Or.inr (by rw [← a.ints e1]; exact SqL.of h1), k _ _ _ (Fr.refl _ _) (.int _)⟩
    · cases hf
  · split at hf
    · rename_i n ns e1
      cases hf
      obtain ⟨v, rfl, h⟩ := hx.one
      obtain ⟨p, vs, rfl, h1, a, z⟩ := h.seqT
      exact Or.inr ⟨_, n, ns, rfl, Or.inl (by rw [← a.ints e1]; exact h1), k _ _ _ (Fr.refl _ _) (.int _)⟩
    · cases hf
  · cases hf
theorem m_max (o : Ok X G W) {e : Expr} {es : List Expr} {p pos : Pos} {J : EAv} (hg : Gl X "max") (hm : X.mg "max" = none) (ha : PA X (e :: es) (tjOf G W J)) (he : starEach (e :: es) X.env = (false, eval e X.env) :: starEach es X.env := by rfl) (hpl : (backTo pos (starEach es X.env)).any (·.1) = false := by rfl) :
    PE X (.Call (.Name "max" p) (e :: es) [] pos) (teOf G W (iCallJ (fMx true) J)) := by
  have h := CallR.or (call_max2 o.calm) (cr_mxT o)
  rw [o.K] at h
  exact m_callJ (r := rMx true G.K) h (b_mx true) hg hm rfl ha (by decide) (by decide) he hpl
theorem m_min (o : Ok X G W) {e : Expr} {es : List Expr} {p pos : Pos} {J : EAv} (hg : Gl X "min") (hm : X.mg "min" = none) (ha : PA X (e :: es) (tjOf G W J)) (he : starEach (e :: es) X.env = (false, eval e X.env) :: starEach es X.env := by rfl) (hpl : (backTo pos (starEach es X.env)).any (·.1) = false := by rfl) :
    PE X (.Call (.Name "min" p) (e :: es) [] pos) (teOf G W (iCallJ (fMx false) J)) := by
  have h := CallR.or (call_min2 o.calm) (cr_mnT o)
  rw [o.K] at h
  exact m_callJ (r := rMx false G.K) h (b_mx false) hg hm rfl ha (by decide) (by decide) he hpl
/-! ### abs, int -/
def fAbs : List IV → Option IV
  | [.int i] => some (.int (if i < 0 then -i else i))
  | _ => none
theorem b_abs : CallB G (fun xs H Q => ∃ i, xs = [.int i] ∧ Q (.int (if i < 0 then -i else i)) H) fAbs := by
  intro F H xs ds d Q hx hf k
  unfold fAbs at hf
  split at hf
  · cases hf
    obtain ⟨v, rfl, h⟩ := hx.one
    cases h.int_inv
    exact ⟨_, rfl, k _ _ _ (Fr.refl _ _) (.int _)⟩
  · cases hf
theorem m_abs {e : Expr} {p pos : Pos} {J : EAv} (hg : Gl X "abs") (hm : X.mg "abs" = none) (ha : PA X [e] (tjOf G W J)) (he : starEach [e] X.env = [(false, eval e X.env)] := by rfl) : PE X (.Call (.Name "abs" p) [e] [] pos) (teOf G W (iCallJ fAbs J)) :=
  m_callJ call_abs b_abs hg hm rfl ha (by decide) (by decide) he
def fInt : List IV → Option IV
  | [.int i] => some (.int i)
  | [.bl b] => some (.int (if b then 1 else 0))
  | _ => none
theorem b_int : CallB G (fun xs H Q => (∃ i, xs = [.int i] ∧ Q (.int i) H) ∨ ∃ k, xs = [.bl k] ∧ Q (.int (if k then 1 else 0)) H) fInt := by
  intro F H xs ds d Q hx hf k
  unfold fInt at hf
  split at hf
  · cases hf
    obtain ⟨v, rfl, h⟩ := hx.one
    cases h.int_inv
    exact Or.inl ⟨_, rfl, k _ _ _ (Fr.refl _ _) (.int _)⟩
  · cases hf
    obtain ⟨v, rfl, h⟩ := hx.one
    cases h.bl_inv
    exact Or.inr ⟨_, rfl, k _ _ _ (Fr.refl _ _) (.int _)⟩
  · cases hf
theorem m_intC {e : Expr} {p pos : Pos} {J : EAv} (hg : Gl X "int") (hm : X.mg "int" = none) (ha : PA X [e] (tjOf G W J)) (he : starEach [e] X.env = [(false, eval e X.env)] := by rfl) : PE X (.Call (.Name "int" p) [e] [] pos) (teOf G W (iCallJ fInt J)) :=
  m_callJT call_int1 b_int hg hm rfl ha (by decide) (by decide) he
/-! ### slices -/
abbrev EO := Env → Rz (Option Int)
abbrev tpOf (G : Gx) (W : WX) (m : EO) : TO := tOf (fun _ _ _ _ v d => v = d) G W m
theorem PO.imp {e : Option Expr} {t t' : TO} (h : PO X e t) (q : ∀ σ H Q, t' σ H Q → t σ H Q) : PO X e t' := ⟨fun pins s σ H Q I w => h.run pins s σ H Q I (q _ _ _ w)⟩
def pNone : EO := fun ρ => .ok none ρ
def pSome (A : E) : EO := fun ρ => (A ρ).bind fun d ρ1 => match d with
  | .int i => .ok (some i) ρ1
  | _ => .no
theorem p_none : PO X none (tpOf G W pNone) := PO.imp po_none fun σ H Q ⟨ρ, F, fp, e, h⟩ => oc_okR h e rfl
theorem p_some {e : Expr} {A : E} (h : PE X e (teOf G W A)) : PO X (some e) (tpOf G W (pSome A)) := PO.imp (po_some h) fun σ H Q ⟨ρ, F, fp, e, h⟩ => by
  refine oc_bind e h fun x dx ρ1 H1 F1 fp1 s1 e1 r1 h1 => ?_
  cases dx with
  | int i => cases r1.int_inv; exact ⟨i, rfl, oc_okR h1 e1 rfl⟩
  | _ => exact h1.elim
def cutI {α : Type} (xs : List α) (lo hi : Option Int) : List α := (xs.drop (HT.sIx xs.length 0 lo)).take (HT.sIx xs.length xs.length hi - HT.sIx xs.length 0 lo)
theorem FzA.drop : ∀ {vs : List V} {ds : List IV} (n : Nat), FzA G F H vs ds → FzA G F H (vs.drop n) (ds.drop n)
  | _, _, 0, h => h
  | _, _, n + 1, .nil => .nil
  | _, _, n + 1, .cons h t => FzA.drop n t
theorem FzA.take : ∀ {vs : List V} {ds : List IV} (n : Nat), FzA G F H vs ds → FzA G F H (vs.take n) (ds.take n)
  | _, _, 0, h => .nil
  | _, _, n + 1, .nil => .nil
  | _, _, n + 1, .cons h t => .cons h (FzA.take n t)
theorem FzA.cut {vs : List V} {ds : List IV} (h : FzA G F H vs ds) (lo hi : Option Int) : FzA G F H (cutV vs lo hi) (cutI ds lo hi) := by
  unfold cutV cutI
  rw [h.len]
  exact (h.drop _).take _
def fSlL (d : IV) (lo hi : Option Int) : Option IV := match d with
  | .lst xs => some (.lst (cutI xs lo hi))
  | _ => none
def fSl (d : IV) (lo hi : Option Int) : Option IV := match d with
  | .tup xs => some (.tup (cutI xs lo hi))
  | .str z => if z.length ≤ big then some (.str (cutS z lo hi)) else none
  | _ => none
def iSl (f : IV → Option Int → Option Int → Option IV) (A : EV) (lo hi : EO) : E := fun ρ => (A ρ).bind fun a ρ1 => (lo ρ1).bind fun l ρ2 => (hi ρ2).bind fun u ρ3 => ofO ((rs a ρ3).bind fun d => f d l u) ρ3
theorem o_slL (o : Ok X G W) {e : Expr} {lo hi : Option Expr} {p2 pos : Pos} {A : EV} {L U : EO} (he : PE X e (tvOf G W A)) (hl : PO X lo (tpOf G W L)) (hu : PO X hi (tpOf G W U)) : PE X (.Subscript e (.Slice lo hi none p2) pos) (toOf G W (iSl fSlL A L U)) := by
  have h := sl_list (X := X)
  rw [o.K] at h
  refine PE.imp (pe_slice h he hl hu) ?_
  rintro σ H Q ⟨ρ, F, fp, e, h⟩
  refine ocO_bind e h fun x a ρ1 H1 F1 fp1 s1 e1 r1 h1 => ?_
  refine ocO_bind e1 h1 fun l l' ρ2 H2 F2 fp2 s2 e2 r2 h2 => ?_
  refine ocO_bind e2 h2 fun u u' ρ3 H3 F3 fp3 s3 e3 r3 h3 => ?_
  obtain rfl : l = l' := r2
  obtain rfl : u = u' := r3
  have r1' : RAv G σ F3 H3 x a := RAv.mono (e2.stq s3) (RAv.mono (e1.stq s2) r1)
  cases hf : (rs a ρ3).bind fun d => fSlL d l u with
  | none => rw [hf] at h3; exact h3.elim
  | some d =>
    rw [hf] at h3
    obtain ⟨dx, g1, g2⟩ := Option.bind_eq_some_iff.mp hf
    have b := r1'.bz e3 g1
    unfold fSlL at g2
    split at g2
    · cases g2
      obtain ⟨p, vs, rfl, hp, al, z⟩ := b.seqL
      exact ⟨p, vs, rfl, SqL.of hp, fun q hq => own_new e3.ft hq (al.cut l u) (Nat.le_trans (cutV_length _ _ _) z) fun v H' F' q' g z n => ocO_ok h3 e3 g z n⟩
    · cases g2
theorem iSl_fz {f : IV → Option Int → Option Int → Option IV} {A : EV} {lo hi : EO} (hc : ∀ x l u d, f x l u = some d → canFz d = true) : ∀ ρ d ρ', iSl f A lo hi ρ = .ok d ρ' → canFz d = true := by
  intro ρ d ρ' h
  obtain ⟨a, ρ1, _, h1⟩ := Rz.bind_ok h
  obtain ⟨l, ρ2, _, h2⟩ := Rz.bind_ok h1
  obtain ⟨u, ρ3, _, h3⟩ := Rz.bind_ok h2
  cases hf : (rs a ρ3).bind fun d => f d l u with
  | none => rw [hf] at h3; cases h3
  | some d' =>
    rw [hf] at h3
    cases h3
    obtain ⟨x, _, g⟩ := Option.bind_eq_some_iff.mp hf
    exact hc x l u _ g
theorem m_slL (o : Ok X G W) {e : Expr} {lo hi : Option Expr} {p2 pos : Pos} {A : EV} {L U : EO} (he : PE X e (tvOf G W A)) (hl : PO X lo (tpOf G W L)) (hu : PO X hi (tpOf G W U)) : PE X (.Subscript e (.Slice lo hi none p2) pos) (teOf G W (iSl fSlL A L U)) :=
  m_frz (o_slL o he hl hu) (iSl_fz fun x l u d h => by
    unfold fSlL at h
    split at h
    · cases h; rfl
    · cases h)
def rSlM (K : Frag) : V → Option Int → Option Int → Hp → VK → Prop := fun x lo hi H Q => rSlA K x lo hi H Q ∨ rSlS x lo hi H Q
theorem m_sl (o : Ok X G W) {e : Expr} {lo hi : Option Expr} {p2 pos : Pos} {A : EV} {L U : EO} (he : PE X e (tvOf G W A)) (hl : PO X lo (tpOf G W L)) (hu : PO X hi (tpOf G W U)) : PE X (.Subscript e (.Slice lo hi none p2) pos) (teOf G W (iSl fSl A L U)) := by
  have h : SlR X (rSlM X.K) := SlR.or sl_tupA sl_str
  rw [o.K] at h
  refine PE.imp (pe_slice h he hl hu) ?_
  rintro σ H Q ⟨ρ, F, fp, e, h⟩
  refine oc_bind e h fun x a ρ1 H1 F1 fp1 s1 e1 r1 h1 => ?_
  refine oc_bind e1 h1 fun l l' ρ2 H2 F2 fp2 s2 e2 r2 h2 => ?_
  refine oc_bind e2 h2 fun u u' ρ3 H3 F3 fp3 s3 e3 r3 h3 => ?_
  obtain rfl : l = l' := r2
  obtain rfl : u = u' := r3
  have r1' : RAv G σ F3 H3 x a := RAv.mono (e2.stq s3) (RAv.mono (e1.stq s2) r1)
  cases hf : (rs a ρ3).bind fun d => fSl d l u with
  | none => rw [hf] at h3; exact h3.elim
  | some d =>
    rw [hf] at h3
    obtain ⟨dx, g1, g2⟩ := Option.bind_eq_some_iff.mp hf
    have b := r1'.bz e3 g1
    unfold fSl at g2
    split at g2
    · cases g2
      obtain ⟨p, vs, rfl, hp, al, z⟩ := b.seqT
      refine Or.inl ⟨p, vs, rfl, hp, fun ⟨w1, w2⟩ => ?_, fun w q hq => ?_⟩
      · have e0 : cutV vs l u = vs := by
          unfold cutV
          rw [w1, w2, List.drop_zero, Nat.sub_zero, List.take_length]
        have c := al.cut l u
        rw [e0] at c
        exact oc_ok h3 e3 (Fr.refl _ _) (.tup hp c z)
      · exact oc_ok h3 e3 (Fr.new hq) (.tup (SqT.of upd_same) ((al.cut l u).mono (Fr.new hq).stq) (Nat.le_trans (cutV_length _ _ _) z))
    · split at g2
      · rename_i hz
        cases g2
        cases b.str_inv
        exact Or.inr ⟨_, rfl, big_le hz, oc_ok h3 e3 (Fr.refl _ _) (.str _)⟩
      · cases g2
    · cases g2
end
end MR
set_option maxRecDepth 100000
set_option maxHeartbeats 4000000
/-! MirM: own classes: isinstance, attributes, properties, making. -/
namespace MR
open PySem L2 PyProof.Rows PySem.W
/-- the own classes' facts -/
structure KC (G : Gx) (cs : List String) : Prop where
  cls : ∀ c ∈ cs, Cls G.K (G.cls c)
  ha : ∀ c ∈ cs, findIn G.K (.ref (G.cls c)) "__class__" = some (some (.builtin "object.__class__"))
  hn : specialIn G.K (.builtin "object.__class__") "__get__" = some (some (.builtin "getset_descriptor.__get__"))
  ht : takesIn G.K (.builtin "object.__class__") = some true
  hm : ∀ c ∈ cs, mroIn G.K (G.cls c) (.type "object") = some true
  cc : ∀ c ∈ cs, ∀ c' ∈ cs, kitOne G.K (.ref (G.cls c)) (.ref (G.cls c')) = some (decide (c = c'))
  ct : ∀ c ∈ cs, ∀ T ∈ tysA, kitOne G.K (.ref (G.cls c)) (.type T) = some false
  tc : ∀ c ∈ cs, ∀ T ∈ tysV, kitOne G.K (.type T) (.ref (G.cls c)) = some false
theorem KC.inj {G : Gx} {cs : List String} (h : KC G cs) {c c' : String} (hc : c ∈ cs) (hc' : c' ∈ cs) (e : G.cls c = G.cls c') : c = c' := by
  have h1 := h.cc c hc c' hc'
  have h2 := h.cc c hc c hc
  rw [← e, h2] at h1
  simp only [decide_true, Option.some.injEq] at h1
  exact of_decide_eq_true h1.symm
/-- one built-in class of another -/
def sbT (a b : String) : Bool := a == b || (a == "bool" && b == "int")
theorem kit_all : ∀ a ∈ tysV, ∀ b ∈ tysA, kitB a b = some (sbT a b) := by decide +kernel
section
variable {X : Cx} {G : Gx} {W : WX} {σ : L2.St} {H : Hp} {F : AP1} {fp : FPt} {ρ : Env} {cs : List String}
/-! ### isinstance -/
def tyN : IV → Option String
  | .non => some "NoneType"
  | .bl _ => some "bool"
  | .int _ => some "int"
  | .str _ => some "str"
  | .tup _ => some "tuple"
  | .lst _ => some "list"
  | .dic _ => some "dict"
  | _ => none
theorem tyN_mem {d : IV} {n : String} (h : tyN d = some n) : n ∈ tysV := by
  cases d <;> cases h <;> decide
theorem Bz.ty {v : V} {d : IV} {n : String} (h : Bz G F H v d) (e : tyN d = some n) : TyX G.K H v (.type n) := by
  cases h with
  | fz h =>
    cases h with
    | non => cases e; exact .base .non
    | bl b => cases e; exact .base (.bl _)
    | int i => cases e; exact .base (.int _)
    | str s => cases e; exact .base (.str _)
    | ty n => cases e
    | cl c => cases e
    | tup h a z =>
      cases e
      rcases h with (h | ⟨o, h⟩) | ⟨o, its, n, h1, h2, _⟩
      · exact .base (.tup h)
      · exact .fTuple h
      · exact .kTuple h1 h2
    | lst f h a z => cases e; exact .base (.lst h)
    | scr h z => cases e
    | dic f h a z => cases e; exact .base (.dK h)
    | ins f h a => cases e
    | err0 f h => cases e
    | errD f h f2 h2 a => cases e
  | lst h a z => cases e; exact .base (.lst h)
  | dic h a z => cases e; exact .base (.dK h)
  | ins h a => cases e
theorem KC.ty (h : KC G cs) {v : V} {c : String} {fs : List (Str × IV)} (hc : c ∈ cs) (b : Bz G F H v (.ins c fs)) : TyX G.K H v (.ref (G.cls c)) := by
  obtain ⟨p, dx, vs, rfl, hp, _⟩ := b.insV
  exact .base (.ins hp (h.cls c hc) (h.ha c hc) h.hn h.ht (h.hm c hc))
/-- is d of the class c -/
def isOf (cs : List String) (d c : IV) : Option Bool := match c with
  | .ty T => if T ∈ tysA then (match d with
    | .ins k _ => if k ∈ cs then some false else none
    | _ => (tyN d).map fun n => sbT n T) else none
  | .cl k' => if k' ∈ cs then (match d with
    | .ins k _ => if k ∈ cs then some (decide (k = k')) else none
    | _ => (tyN d).map fun _ => false) else none
  | _ => none
def clV (G : Gx) : IV → V
  | .ty T => .ty T
  | .cl c => .ref (G.cls c)
  | _ => .non
def clU (G : Gx) : IV → Value
  | .ty T => .type T
  | .cl c => .ref (G.cls c)
  | _ => .none
theorem isOf_cls {d c : IV} {b : Bool} (h : isOf cs d c = some b) {v : V} (r : Fz G F H v c) : ClsV v (clU G c) := by
  cases c with
  | ty T => cases r; exact .ty T
  | cl k => cases r; exact .own _
  | _ => cases h
theorem isOf_ty (k : KC G cs) {v : V} {d c : IV} {b : Bool} (r : Bz G F H v d) (h : isOf cs d c = some b) : ∃ t, TyX G.K H v t ∧ ∀ c' b', isOf cs d c' = some b' → kitOne G.K t (clU G c') = some b' := by
  have two : (∃ k' fs, d = .ins k' fs ∧ k' ∈ cs) ∨ ∃ n, tyN d = some n := by
    cases c with
    | ty T =>
      simp only [isOf] at h
      split at h
      · split at h
        · split at h
          · rename_i hk; exact Or.inl ⟨_, _, rfl, hk⟩
          · cases h
        · obtain ⟨n, e, _⟩ := Option.map_eq_some_iff.mp h
          exact Or.inr ⟨n, e⟩
      · cases h
    | cl k' =>
      simp only [isOf] at h
      split at h
      · split at h
        · split at h
          · rename_i hk; exact Or.inl ⟨_, _, rfl, hk⟩
          · cases h
        · obtain ⟨n, e, _⟩ := Option.map_eq_some_iff.mp h
          exact Or.inr ⟨n, e⟩
      · cases h
    | _ => cases h
  rcases two with ⟨k', fs, rfl, hk⟩ | ⟨n, hn⟩
  · refine ⟨_, k.ty hk r, fun c' b' h' => ?_⟩
    cases c' with
    | ty T =>
      simp only [isOf] at h'
      split at h'
      · rename_i hT
        try rw [if_pos hk] at h'
        cases h'
        exact k.ct k' hk T hT
      · cases h'
    | cl k2 =>
      simp only [isOf] at h'
      split at h'
      · rename_i hT
        try rw [if_pos hk] at h'
        cases h'
        exact k.cc k' hk k2 hT
      · cases h'
    | _ => cases h'
  · refine ⟨_, r.ty hn, fun c' b' h' => ?_⟩
    have e1 : ∀ T, T ∈ tysA → isOf cs d (.ty T) = some (sbT n T) := fun T hT => by
      simp only [isOf, if_pos hT]
      cases d <;> first | (cases hn; rfl) | cases hn
    have e2 : ∀ k2, k2 ∈ cs → isOf cs d (.cl k2) = some false := fun T hT => by
      simp only [isOf, if_pos hT]
      cases d <;> first | (cases hn; rfl) | cases hn
    cases c' with
    | ty T =>
      by_cases hT : T ∈ tysA
      · rw [e1 T hT] at h'
        cases h'
        exact kit_ty (kit_all n (tyN_mem hn) T hT)
      · simp only [isOf, if_neg hT] at h'
        cases h'
    | cl k2 =>
      by_cases hT : k2 ∈ cs
      · rw [e2 k2 hT] at h'
        cases h'
        exact k.tc k2 hT n (tyN_mem hn)
      · simp only [isOf, if_neg hT] at h'
        cases h'
    | _ => cases h'
def fIsi (cs : List String) : List IV → Option IV
  | [d, c] => (isOf cs d c).map IV.bl
  | _ => none
theorem Bz.cls {v : V} {c : IV} (h : Bz G F H v c) (hc : (∃ T, c = .ty T) ∨ ∃ k, c = .cl k) : Fz G F H v c := by
  cases h with
  | fz h => exact h
  | _ => rcases hc with ⟨_, e⟩ | ⟨_, e⟩ <;> cases e
theorem b_isi (k : KC G cs) : CallB G (rIsi G.K) (fIsi cs) := by
  intro F H xs ds d Q hx hf kk
  unfold fIsi at hf
  split at hf
  · rename_i d0 c
    obtain ⟨b, e1, e2⟩ := Option.map_eq_some_iff.mp hf
    subst e2
    obtain ⟨v, w, rfl, h1, h2⟩ := hx.two
    have hcl : (∃ T, c = .ty T) ∨ ∃ k, c = .cl k := by
      cases c with
      | ty T => exact Or.inl ⟨_, rfl⟩
      | cl T => exact Or.inr ⟨_, rfl⟩
      | _ => cases e1
    obtain ⟨t, ht, hk⟩ := isOf_ty k h1 e1
    exact ⟨v, w, t, clU G c, b, rfl, isOf_cls e1 (h2.cls hcl), ht, hk c b e1, kk _ _ _ (Fr.refl _ _) (.bl _)⟩
  · cases hf
theorem m_isi (o : Ok X G W) (k : KC G cs) {e c : Expr} {p pos : Pos} {J : EAv} (hg : Gl X "isinstance") (hm : X.mg "isinstance" = none) (ha : PA X [e, c] (tjOf G W J))
    (he : starEach [e, c] X.env = (false, eval e X.env) :: starEach [c] X.env := by rfl) (hpl : (backTo pos (starEach [c] X.env)).any (·.1) = false := by rfl) : PE X (.Call (.Name "isinstance" p) [e, c] [] pos) (teOf G W (iCallJ (fIsi cs) J)) := by
  have h := call_isi (X := X)
  rw [o.K] at h
  exact m_callJ h (b_isi k) hg hm rfl ha (by decide) (by decide) he hpl
/-- isinstance(x, (c, ..)) -/
def anyOf (cs : List String) (d : IV) : List IV → Option Bool
  | [] => some false
  | c :: r => match isOf cs d c, anyOf cs d r with
    | some b, some b' => some (b || b')
    | _, _ => none
theorem anyOf_kit {d : IV} {t : Value} (hk : ∀ c' b', isOf cs d c' = some b' → kitOne G.K t (clU G c') = some b') : ∀ {ds : List IV} {b : Bool}, anyOf cs d ds = some b → kitAny G.K t (ds.map (clU G)) = some b
  | [], b, h => by cases h; rfl
  | c :: r, b, h => by
    simp only [anyOf] at h
    split at h
    · rename_i b1 b2 h1 h2
      cases h
      refine kitAny_cons (hk c b1 h1) (fun e => ?_) fun e => by rw [e]; rfl
      subst e
      exact anyOf_kit hk h2
    · cases h
theorem anyOf_cls {d : IV} : ∀ {ds : List IV} {b : Bool} {vs : List V}, anyOf cs d ds = some b → FzA G F H vs ds → Paired ClsV vs (ds.map (clU G))
  | _, b, _, h, .nil => .nil
  | _, b, _, h, .cons r t => by
    simp only [anyOf] at h
    split at h
    · rename_i b1 b2 h1 h2
      exact .cons (isOf_cls h1 r) (anyOf_cls h2 t)
    · cases h
def iIsiT (cs : List String) (A : EV) (C : EA) : E := fun ρ => (A ρ).bind fun a ρ1 => (C ρ1).bind fun ds ρ2 => match rs a ρ2, ds with
  | some d, c :: r => if r.length ≤ 1000 then ofO ((anyOf cs d (c :: r)).map IV.bl) ρ2 else .no
  | _, _ => .no
theorem m_isiT (o : Ok X G W) (k : KC G cs) {e : Expr} {es : List Expr} {x1} {p pos tpos : Pos} {A : EV} {C : EA} (hg : Gl X "isinstance") (hm : X.mg "isinstance" = none) (ha : PE X e (tvOf G W A)) (hc : PA X es (taOf G W C))
    (he : starEach [e, .Tuple es x1 tpos] X.env = (false, eval e X.env) :: starEach [.Tuple es x1 tpos] X.env := by rfl) (he2 : starEach [.Tuple es x1 tpos] X.env = (false, eval (.Tuple es x1 tpos) X.env) :: starEach [] X.env := by rfl)
    (hpl : (backTo pos (starEach [.Tuple es x1 tpos] X.env)).any (·.1) = false := by rfl) : PE X (.Call (.Name "isinstance" p) [e, .Tuple es x1 tpos] [] pos) (teOf G W (iIsiT cs A C)) := by
  have h := call_isiT (X := X)
  rw [o.K] at h
  refine PE.imp (pe_callB h hg hm rfl (pa_cons ha (pa_cons (pe_tup hc) pa_nil he2) he) (by decide) (by decide) he hpl) ?_
  rintro σ H Q ⟨ρ, F, fp, en, h⟩
  refine oc_bind en h fun x a ρ1 H1 F1 fp1 s1 e1 r1 h1 => ?_
  refine oc_bind e1 h1 fun vs ds ρ2 H2 F2 fp2 s2 e2 r2 h2 => ?_
  have r1' : RAv G σ F2 H2 x a := RAv.mono (e1.stq s2) r1
  split at h2
  · rename_i d c r hd
    split at h2
    · rename_i hz
      cases hf : anyOf cs d (c :: r) with
      | none => rw [hf] at h2; exact h2.elim
      | some b =>
        rw [hf] at h2
        have hl := r2.len
        refine ⟨by rw [hl, List.length_cons]; exact big_le (Nat.le_trans (by omega : r.length + 1 ≤ 1001) (by decide)), fun q hq => ?_⟩
        have fr : Fr H2 F2 (upd H2 q (.tup vs)) F2 := Fr.new hq
        have e3 := e2.fr fr
        have bz := (r1'.mono fr.stq).bz e3 hd
        have i1 : ∃ b1, isOf cs d c = some b1 := by
          simp only [anyOf] at hf
          split at hf
          · rename_i b1 b2 h1 h2; exact ⟨b1, h1⟩
          · cases hf
        obtain ⟨b1, i1⟩ := i1
        obtain ⟨t, ht, hk⟩ := isOf_ty k bz i1
        exact ⟨x, q, vs, t, _, b, rfl, upd_same, anyOf_cls hf r2, ht, anyOf_kit hk hf, oc_ok h2 e2 fr (.bl _)⟩
    · exact h2.elim
  · exact h2.elim
/-- an own class, named -/
theorem m_cls {x : Str} {c : String} {pos : Pos} (hg : Gl X x) (hm : X.mg x = some (.ref (G.cls c))) (hd : (x == ("__debug__" : Str)) = false := by decide) : PE X (.Name x pos) (teOf G W (iC (.cl c))) :=
  PE.imp (pe_glob (v := .ref (G.cls c)) hg hm rfl hd) (q_c fun _ _ => .cl c)
/-- a built-in class, named -/
theorem m_ty {x : Str} {T : String} {pos : Pos} (hg : Gl X x) (hm : X.mg x = none) (hv : bootBuiltins x = some (.type T)) (hn : x ≠ "__name__" := by decide) (hd : (x == ("__debug__" : Str)) = false := by decide) : PE X (.Name x pos) (teOf G W (iC (.ty T))) :=
  PE.imp (pe_bltn (v := .ty T) hg hm hv rfl hn hd) (q_c fun _ _ => .ty T)
/-! ### attributes -/
theorem FzP.lookup : ∀ {vs : List (Str × V)} {ds : List (Str × IV)} {f : Str} {d : IV}, FzP G F H vs ds → ds.lookup f = some d → ∃ v, vs.lookup f = some v ∧ Fz G F H v d
  | _, _, _, _, .nil, e => by simp [List.lookup] at e
  | _, _, f, d', .cons (k := k) (v := v) (d := d) (vs := vs) (ds := ds) h t, e => by
    simp only [List.lookup] at e ⊢
    cases hk : f == k with
    | true => rw [hk] at e; cases e; exact ⟨v, rfl, h⟩
    | false => rw [hk] at e; exact FzP.lookup t e
def iFld (cs : List String) (A : EV) (f : Str) : E := fun ρ => (A ρ).bind fun a ρ1 => match rs a ρ1 with
  | some (.ins c fs) => if c ∈ cs then ofO (fs.lookup f) ρ1 else .no
  | _ => .no
theorem m_fld (o : Ok X G W) (k : KC G cs) {e : Expr} {f : Str} {A : EV} {pos : Pos} (hn : ∀ c ∈ cs, NoAttr G.K (G.cls c) f) (he : PE X e (tvOf G W A)) (hb : attributeBase e f X.env (eval e X.env) = eval e X.env := by rfl) : PE X (.Attribute e f pos) (teOf G W (iFld cs A f)) :=
  PE.imp (pe_fld he hb) fun σ H Q ⟨ρ, F, fp, en, h⟩ => by
    refine oc_bind en h fun x a ρ1 H1 F1 fp1 s1 e1 r1 h1 => ?_
    split at h1
    · rename_i c fs hd
      split at h1
      · rename_i hc
        cases hl : fs.lookup f with
        | none => rw [hl] at h1; exact h1.elim
        | some d =>
          rw [hl] at h1
          obtain ⟨p, dx, vs, rfl, hp, fa⟩ := (RAv.bz e1 r1 hd).insV
          obtain ⟨v, l, r⟩ := fa.lookup hl
          exact ⟨p, _, dx, vs, v, rfl, hp, by rw [o.K]; exact k.cls c hc, by rw [o.K]; exact hn c hc, l, oc_ok h1 e1 (Fr.refl _ _) r⟩
      · exact h1.elim
    · exact h1.elim
/-- a property that gives an attribute -/
def iProp (c : String) (A : EV) (f : Str) : E := fun ρ => (A ρ).bind fun a ρ1 => match rs a ρ1 with
  | some (.ins c' fs) => if c' = c then ofO (fs.lookup f) ρ1 else .no
  | _ => .no
theorem m_prop (o : Ok X G W) (c : String) {e : Expr} {f g : Str} {p ga : Addr} {fd : FuncData} {ps : List Str} {n : Nat} {A : EV} {pos : Pos} (hc : Cls X.K (G.cls c)) (hp : PropOf X.K (G.cls c) g p ga) (Fo : FnOk X.prog X.w X.K X.mg X.base (L2.CX X.prog X.w) n ga fd ps (getSp (G.cls c) f))
    (hr : Room (n + 1) X.A) (hb : Binds X.K fd ps []) (he : PE X e (tvOf G W A)) (hab : attributeBase e g X.env (eval e X.env) = eval e X.env := by rfl) : PE X (.Attribute e g pos) (teOf G W (iProp c A f)) :=
  PE.imp (pe_prop (E := fun _ _ _ => False) he hc hp Fo hr hb .nil (fun pins σ H s e s' I ⟨_, _, _, _, _, _, _, _, _, _, _, _, hE⟩ => hE.elim) hab) fun σ H Q ⟨ρ, F, fp, en, h⟩ => by
    refine oc_bind en h fun x a ρ1 H1 F1 fp1 s1 e1 r1 h1 => ?_
    split at h1
    · rename_i c' fs hd
      split at h1
      · rename_i hc
        subst hc
        cases hl : fs.lookup f with
        | none => rw [hl] at h1; exact h1.elim
        | some d =>
          rw [hl] at h1
          obtain ⟨p, dx, vs, rfl, hp, fa⟩ := (RAv.bz e1 r1 hd).insV
          obtain ⟨v, l, r⟩ := fa.lookup hl
          exact ⟨p, dx, vs, rfl, hp, p, dx, vs, v, rfl, hp, l, oc_ok h1 e1 (Fr.refl _ _) r⟩
      · exact h1.elim
    · exact h1.elim
end
end MR
set_option maxRecDepth 100000
set_option maxHeartbeats 4000000
/-! MirN: what is written: attributes, items, append, pop; dict displays; making. -/
namespace MR
open PySem L2 PyProof.Rows
section
variable {X : Cx} {G : Gx} {W : WX} {σ : L2.St} {H : Hp} {F : AP1} {fp : FPt} {ρ : Env} {cs : List String} {pin : List Nat}
/-! ### a slot's own object is written -/
theorem EnvR.put {i : Nat} {p : Addr} {o : HO} {d : IV} {v : V} (e : EnvR G F H σ ρ fp) (hp : fp i p) (hv : σ[i]? = some (some v)) (hi : ¬ Imm o) (r : Own G F (L2.upd H p o) v d (fp i)) : EnvR G F (L2.upd H p o) σ (ρ.set i (.ow d)) fp := by
  have k : ∀ a u, a ≠ p → H a = some u → L2.upd H p o a = some u := fun a u h1 h2 => by rw [upd_ne h1]; exact h2
  have nF : ∀ a, F a → a ≠ p := fun a f z => e.nf i p hp (by rw [← z]; exact f)
  have s : Stq H F (L2.upd H p o) F := ⟨fun a u h f => k a u (nF a f) h, fun a u h m => k a u (fun z => e.ni i p u hp (by rw [← z]; exact h) m) h, fun _ f => f⟩
  refine ⟨fun j d' z => ?_, fun j d' z => ?_, e.dis, e.nf, fun j a z q => ?_, fun j a u z q => ?_, fun a f q => ?_, by rw [List.length_set]; exact e.len⟩
  · rcases get_set z with ⟨rfl, z1, hl⟩ | ⟨hj, z⟩
    · cases z1
    · obtain ⟨w, e1, e2⟩ := e.fz j d' z
      exact ⟨w, e1, e2.mono s⟩
  · rcases get_set z with ⟨rfl, z1, hl⟩ | ⟨hj, z⟩
    · cases z1; exact ⟨v, hv, r⟩
    · obtain ⟨w, e1, e2⟩ := e.ow j d' z
      exact ⟨w, e1, e2.mono s fun a u h q => k a u (fun z => hj (e.dis j i p (by rw [← z]; exact q) hp)) h⟩
  · by_cases hq : a = p
    · rw [hq, upd_same] at q; cases q
    · rw [upd_ne hq] at q; exact e.tr j a z q
  · by_cases hq : a = p
    · rw [hq, upd_same] at q; cases q; exact hi
    · rw [upd_ne hq] at q; exact e.ni j a u z q
  · rw [upd_ne (nF a f)] at q; exact e.ft a f q
theorem Stp.put {i : Nat} {p : Addr} {o : HO} (hp : fp i p) : Stp H F (un fp) (L2.upd H p o) F (un fp) := by
  refine ⟨fun a u h n => ?_, fun _ f => f, fun _ f => Or.inl f, fun _ f => Or.inl f, fun a h => ?_⟩
  · rw [upd_ne (fun z => n ⟨i, by rw [z]; exact hp⟩)]; exact h
  · by_cases hq : a = p
    · rw [hq, upd_same] at h; cases h
    · rw [upd_ne hq] at h; exact h
/-- frozen things behind such a write -/
theorem EnvR.putS {i : Nat} {p : Addr} {o : HO} (e : EnvR G F H σ ρ fp) (hp : fp i p) : Stq H F (L2.upd H p o) F := e.stq (Stp.put hp)
/-! ### self.f = e -/
def putI (f : Str) (v : IV) : List (Str × IV) → List (Str × IV)
  | [] => [(f, v)]
  | (g, x) :: r => if g = f then (g, v) :: r else (g, x) :: putI f v r
theorem FzP.put {f : Str} {v : V} {d : IV} (h : Fz G F H v d) : ∀ {vs : List (Str × V)} {ds : List (Str × IV)}, FzP G F H vs ds → FzP G F H (putF f v vs) (putI f d ds)
  | _, _, .nil => .cons h .nil
  | _, _, .cons (k := k) h2 t => by
    by_cases e : k = f
    · simp only [putF, putI, if_pos e]; exact .cons h t
    · simp only [putF, putI, if_neg e]; exact .cons h2 (FzP.put h t)
def sFldS (cs : List String) (i : Nat) (f : Str) (m : E) : S := fun ρ => (m ρ).bindS fun d ρ1 => match ρ1[i]? with
  | some (.ow (.ins c fs)) => if c ∈ cs ∧ fs.length < 1000 then .nx (ρ1.set i (.ow (.ins c (putI f d fs)))) else .no
  | _ => .no
theorem s_fld (o : Ok X G W) (k : KC G cs) (i : Nat) {x f : Str} {e : Expr} {m : E} {pos' pos npos : Pos} (hn : ∀ c ∈ cs, NoAttr G.K (G.cls c) f) (he : PE X e (teOf G W m)) (hN : X.N[i]? = some x := by rfl)
    (hv : Vis X.env.scope x := by first | exact Or.inl rfl | exact Or.inr (Or.inl rfl) | exact Or.inr (Or.inr rfl)) (hd : (x == ("__debug__" : Str)) = false := by decide) (hcd : (x == ("__classdict__" : Str)) = false := by decide)
    (hs : swapsWith e (some (.Attribute (.Name x npos) f pos')) pos.line X.env = pure false := by rfl) : PS X (.Assign [.Attribute (.Name x npos) f pos'] e pos) (tsOf G W pin (sFldS cs i f m)) :=
  PS.imp (ps_fld (pe_var hN hv hd hcd) he hs) fun D σ H ⟨ρ, F, fp, en, h⟩ => by
    refine ocS_bind en h fun y d ρ1 H1 F1 fp1 s1 e1 r1 h1 => ?_
    split at h1
    · rename_i c fs hd
      obtain ⟨v, g1, g2⟩ := e1.ow i _ hd
      split at h1
      · rename_i hc
        cases g2 with
        | @ins p dx _ vs _ _ hp a z =>
          have hz := (z p).mpr rfl
          refine ⟨_, g1, p, _, dx, vs, rfl, hp, by rw [o.K]; exact k.cls c hc.1, by rw [o.K]; exact hn c hc.1, by rw [a.len]; exact hc.2, ?_⟩
          have q := e1.putS (o := .ins (G.cls c) dx (putF f y vs)) hz
          exact h1 σ _ F1 fp1 (Stp.put hz) (e1.put hz g1 (fun z => z) (.ins upd_same ((a.mono q).put (r1.mono q)) z)) (Pn.refl _ _)
      · exact h1.elim
    · exact h1.elim
/-! ### x[i] = e -/
def putKI (kvs : List (Key × IV)) (k : Key) (v : IV) : List (Key × IV) :=
  if (kvs.any fun kv => decide (kv.1 = k)) = true then kvs.map (fun kv => if kv.1 = k then (kv.1, v) else kv) else kvs ++ [(k, v)]
theorem FzP.any {k : Key} : ∀ {vs : List (Key × V)} {ds : List (Key × IV)}, FzP G F H vs ds → (vs.any fun kv => decide (kv.1 = k)) = (ds.any fun kv => decide (kv.1 = k))
  | _, _, .nil => rfl
  | _, _, .cons h t => by rw [List.any_cons, List.any_cons, FzP.any t]
theorem FzP.mapP {k : Key} {v : V} {d : IV} (h : Fz G F H v d) : ∀ {vs : List (Key × V)} {ds : List (Key × IV)}, FzP G F H vs ds → FzP G F H (vs.map fun kv => if kv.1 = k then (kv.1, v) else kv) (ds.map fun kv => if kv.1 = k then (kv.1, d) else kv)
  | _, _, .nil => .nil
  | _, _, .cons (k := k') h2 t => by
    rw [List.map_cons, List.map_cons]
    by_cases e : k' = k
    · simp only [if_pos e]; exact .cons h (FzP.mapP h t)
    · simp only [if_neg e]; exact .cons h2 (FzP.mapP h t)
theorem FzP.snoc {k : Key} {v : V} {d : IV} (h : Fz G F H v d) : ∀ {vs : List (Key × V)} {ds : List (Key × IV)}, FzP G F H vs ds → FzP G F H (vs ++ [(k, v)]) (ds ++ [(k, d)])
  | _, _, .nil => .cons h .nil
  | _, _, .cons h2 t => .cons h2 (FzP.snoc h t)
theorem FzP.putK {k : Key} {v : V} {d : IV} (h : Fz G F H v d) {vs : List (Key × V)} {ds : List (Key × IV)} (a : FzP G F H vs ds) : FzP G F H (L2.putK vs k v) (putKI ds k d) := by
  unfold L2.putK putKI
  rw [a.any]
  split
  · exact a.mapP h
  · exact a.snoc h
theorem FzA.set {v : V} {d : IV} (h : Fz G F H v d) : ∀ {vs : List V} {ds : List IV} (j : Nat), FzA G F H vs ds → FzA G F H (vs.set j v) (ds.set j d)
  | _, _, j, .nil => .nil
  | _, _, 0, .cons h2 t => .cons h t
  | _, _, j + 1, .cons h2 t => .cons h2 (FzA.set h j t)
def stI (d k v : IV) : Option IV := match d with
  | .lst ds => match k with
    | .int j => (ixN ds.length j).map fun j => .lst (ds.set j v)
    | _ => none
  | .dic ds => match ivKey k with
    | some k => if ds.length < 1000 then some (.dic (putKI ds k v)) else none
    | none => none
  | _ => none
def isOw : Option Sl → Bool
  | some (.ow _) => true
  | _ => false
theorem isOw_some {x : Option Sl} (h : isOw x = true) : ∃ d, x = some (.ow d) := by
  unfold isOw at h
  split at h
  · exact ⟨_, rfl⟩
  · cases h
def sSub (i : Nat) (I : E) (m : E) : S := fun ρ => (m ρ).bindS fun v ρ1 => if isOw ρ1[i]? = true then (I ρ1).bindS fun k ρ2 => match ρ2[i]? with
  | some (.ow d) => match stI d k v with
    | some d' => .nx (ρ2.set i (.ow d'))
    | none => .no
  | _ => .no else .no
def rSetM : TSet := fun o i v H Q => rSetL o i v H Q ∨ rSetD o i v H Q
theorem set_any (hu : X.A.units + 1 < cLine) : PSet X rSetM := by
  intro pins s σ H o i v ov iv u Q I ro ri rv h
  rcases h with h | h
  · exact set_list pins s σ H o i v ov iv u Q I ro ri rv h
  · exact set_dict hu pins s σ H o i v ov iv u Q I ro ri rv h
theorem length_putKV (vs : List (Key × V)) (k : Key) (v : V) : (L2.putK vs k v).length ≤ vs.length + 1 := by
  unfold L2.putK
  split
  · rw [List.length_map]; omega
  · rw [List.length_append, List.length_singleton]; omega
theorem s_sub (o : Ok X G W) (i : Nat) {x : Str} {k e : Expr} {K m : E} {pos' pos npos : Pos} (he : PE X e (teOf G W m)) (hk : PE X k (teOf G W K)) (hN : X.N[i]? = some x := by rfl)
    (hv : Vis X.env.scope x := by first | exact Or.inl rfl | exact Or.inr (Or.inl rfl) | exact Or.inr (Or.inr rfl)) (hd : (x == ("__debug__" : Str)) = false := by decide) (hcd : (x == ("__classdict__" : Str)) = false := by decide)
    (ha : ∀ v, assign (.Subscript (.Name x npos) k pos') X.env v = (do
      let ov ← holding [v] (eval (.Name x npos) X.env)
      let iv ← holding [v, ov] (eval k X.env)
      standAt pos'
      holding [v, ov, iv] (setItem ov iv v)
      release [v, ov, iv] []) := by intro _; rfl)
    (hs : swapsWithSole [.Subscript (.Name x npos) k pos'] e pos.line X.env = pure false := by rfl) (hw : swappedStores [.Subscript (.Name x npos) k pos'] e X.env = pure none := by rfl)
    (h1 : (assignEach [.Subscript (.Name x npos) k pos'] X.env).map (·.2) = [assign (.Subscript (.Name x npos) k pos') X.env] := by rfl) : PS X (.Assign [.Subscript (.Name x npos) k pos'] e pos) (tsOf G W pin (sSub i K m)) :=
  PS.imp (ps_asg he (pg_sub (pe_var hN hv hd hcd) hk (set_any (by have := o.hu; omega)) ha) hs hw h1) fun D σ H ⟨ρ, F, fp, en, h⟩ => by
    refine ocS_bind en h fun y d ρ1 H1 F1 fp1 s1 e1 r1 h1 => ?_
    split at h1
    · rename_i hw
      obtain ⟨d0, hd0⟩ := isOw_some hw
      obtain ⟨u, g1, _⟩ := e1.ow i _ hd0
      refine ⟨u, g1, ?_⟩
      refine ocS_bind e1 h1 fun kv kd ρ2 H2 F2 fp2 s2 e2 r2 h2 => ?_
      have r1' : Fz G F2 H2 y d := r1.mono (e1.stq s2)
      split at h2
      · rename_i d2 hd2
        obtain ⟨u', g1', g2⟩ := e2.ow i _ hd2
        obtain rfl : u' = u := by rw [g1] at g1'; cases g1'; rfl
        cases hs : stI d2 kd d with
        | none => rw [hs] at h2; exact h2.elim
        | some d' =>
          rw [hs] at h2
          cases g2 with
          | @lst p vs ds _ hp a z q =>
            have hq := (q p).mpr rfl
            simp only [stI] at hs
            split at hs
            · rename_i j
              cases r2.int_inv
              obtain ⟨jn, hj, e5⟩ := Option.map_eq_some_iff.mp hs
              subst e5
              refine Or.inl ⟨p, vs, _, jn, rfl, rfl, hp, by rw [a.len]; exact hj, ?_⟩
              have qq := e2.putS (o := .lst (vs.set jn y)) hq
              exact h2 σ _ F2 fp2 (Stp.put hq) (e2.put hq g1 (fun z => z) (.lst upd_same (FzA.set (r1'.mono qq) jn (a.mono qq)) (by rw [List.length_set]; exact z) q)) (Pn.refl _ _)
            · cases hs
          | @dic p vs ds _ hp a z q =>
            have hq := (q p).mpr rfl
            simp only [stI] at hs
            split at hs
            · rename_i key hkey
              split at hs
              · rename_i hz
                cases hs
                cases Fz.key r2 hkey
                have hl := a.len
                have qq := e2.putS (o := .dK (L2.putK vs key y)) hq
                refine Or.inr ⟨p, _, rfl, DPut.k hp (big_le (Nat.le_trans (by omega : vs.length + 1 ≤ 1000) (by decide))), ?_⟩
                exact h2 σ _ F2 fp2 (Stp.put hq) (e2.put hq g1 (fun z => z) (.dic upd_same (FzP.putK (r1'.mono qq) (a.mono qq)) (Nat.le_trans (length_putKV _ _ _) (Nat.le_trans (by omega : vs.length + 1 ≤ 1000) (by decide))) q)) (Pn.refl _ _)
              · cases hs
            · cases hs
          | _ => cases hs
      · exact h2.elim
    · exact h1.elim
/-! ### x.append(e), x.pop() -/
def isOwL : Option Sl → Bool
  | some (.ow (.lst _)) => true
  | _ => false
theorem isOwL_some {x : Option Sl} (h : isOwL x = true) : ∃ d, x = some (.ow (.lst d)) := by
  unfold isOwL at h
  split at h
  · exact ⟨_, rfl⟩
  · cases h
theorem Own.isL {v : V} {ds : List IV} {q : AP1} (h : Own G F H v (.lst ds) q) : tyV G.K "list" v H := by
  cases h with
  | lst h a z e => exact Or.inl ⟨rfl, _, SqL.of h⟩
def sApp (i : Nat) (m : E) : S := fun ρ => if isOwL ρ[i]? = true then (m ρ).bindS fun d ρ1 => match ρ1[i]? with
  | some (.ow (.lst ds)) => if ds.length < 100000 then .nx (ρ1.set i (.ow (.lst (ds ++ [d])))) else .no
  | _ => .no else .no
theorem s_app (o : Ok X G W) (i : Nat) {x : Str} {e : Expr} {m : E} {apos cpos pos npos : Pos} (he : PE X e (teOf G W m)) (hN : X.N[i]? = some x := by rfl)
    (hv : Vis X.env.scope x := by first | exact Or.inl rfl | exact Or.inr (Or.inl rfl) | exact Or.inr (Or.inr rfl)) (hd : (x == ("__debug__" : Str)) = false := by decide) (hcd : (x == ("__classdict__" : Str)) = false := by decide)
    (hbase : attributeBase (.Name x npos) "append" X.env (eval (.Name x npos) X.env) = eval (.Name x npos) X.env := by rfl)
    (hfew : ((backTo cpos (starEach [e] X.env)).all (fun x => !x.1) && (backToKw cpos (keywordEach [] X.env)).all (fun x => x.1.isSome)
      && decide (([e] : List Expr).length + ([] : List Keyword).length + (if ([] : List Keyword).isEmpty then 0 else 1) < 30)) = true := by rfl)
    (hline : (apos.endLine == cpos.line) = true := by rfl) (hs1 : starEach [e] X.env = [(false, eval e X.env)] := by rfl)
    (hs : swapsWith (.Call (.Attribute (.Name x npos) "append" apos) [e] [] cpos) none pos.line X.env = pure false := by rfl) :
    PS X (.Expr (.Call (.Attribute (.Name x npos) "append" apos) [e] [] cpos) pos) (tsOf G W pin (sApp i m)) := by
  have hm : MtR X "list.append" rAppend := mt_append
  refine PS.imp (ps_expr (pe_bm PySem.F.plainAttrs_list PySem.F.slot_list_append PySem.F.type_list_append hm (pe_var hN hv hd hcd) (pa_cons he pa_nil hs1) hbase hfew hline hs1 rfl) hs) ?_
  rintro D σ H ⟨ρ, F, fp, en, h⟩
  unfold sApp at h
  split at h
  · rename_i hw
    obtain ⟨d0, hd0⟩ := isOwL_some hw
    obtain ⟨u, g1, g2⟩ := en.ow i _ hd0
    refine ⟨u, g1, by rw [o.K]; exact g2.isL, ?_⟩
    refine ocS_bind en h fun y d ρ1 H1 F1 fp1 s1 e1 r1 h1 => ?_
    split at h1
    · rename_i ds hds
      obtain ⟨u', g1', g2'⟩ := e1.ow i _ hds
      obtain rfl : u' = u := by rw [g1] at g1'; cases g1'; rfl
      split at h1
      · rename_i hz
        cases g2' with
        | @lst p vs _ _ hp a z q =>
          have hq := (q p).mpr rfl
          have hl := a.len
          have qq := e1.putS (o := .lst (vs ++ [y])) hq
          refine ⟨p, vs, y, rfl, rfl, hp, big_le (Nat.le_trans (by omega : vs.length + 1 ≤ 100000) (by decide)), ?_⟩
          exact h1 σ _ F1 fp1 (Stp.put hq) (e1.put hq g1 (fun z => z) (.lst upd_same (FzA.snoc (a.mono qq) (r1.mono qq)) (by rw [List.length_append, List.length_singleton]; exact Nat.le_trans (by omega : vs.length + 1 ≤ 100000) (by decide)) q)) (Pn.refl _ _)
      · exact h1.elim
    · exact h1.elim
  · exact h.elim
/-- x.pop(), x.pop(i) -/
def popAt (ds : List IV) (k : Int) : Option (IV × List IV) := (ixN ds.length k).bind fun j => (ds[j]?).map fun d => (d, ds.eraseIdx j)
def orE (m : Option E) : E := match m with
  | none => fun ρ => .ok (.int (-1)) ρ
  | some m => m
def iPop (i : Nat) (m : Option E) : E := fun ρ => if isOwL ρ[i]? = true then (orE m ρ).bind fun kd ρ1 => match kd, ρ1[i]? with
  | .int k, some (.ow (.lst ds)) => match popAt ds k with
    | some (d, ds') => .ok d (ρ1.set i (.ow (.lst ds')))
    | none => .no
  | _, _ => .no else .no
theorem FzA.erase : ∀ {vs : List V} {ds : List IV} (j : Nat), FzA G F H vs ds → FzA G F H (vs.eraseIdx j) (ds.eraseIdx j)
  | _, _, _, .nil => .nil
  | _, _, 0, .cons h t => t
  | _, _, j + 1, .cons h t => .cons h (FzA.erase j t)
theorem m_popAt (o : Ok X G W) (i : Nat) {x : Str} {e : Expr} {m : E} {apos cpos npos : Pos} (he : PE X e (teOf G W m)) (hN : X.N[i]? = some x := by rfl)
    (hv : Vis X.env.scope x := by first | exact Or.inl rfl | exact Or.inr (Or.inl rfl) | exact Or.inr (Or.inr rfl)) (hd : (x == ("__debug__" : Str)) = false := by decide) (hcd : (x == ("__classdict__" : Str)) = false := by decide)
    (hbase : attributeBase (.Name x npos) "pop" X.env (eval (.Name x npos) X.env) = eval (.Name x npos) X.env := by rfl)
    (hfew : ((backTo cpos (starEach [e] X.env)).all (fun x => !x.1) && (backToKw cpos (keywordEach [] X.env)).all (fun x => x.1.isSome)
      && decide (([e] : List Expr).length + ([] : List Keyword).length + (if ([] : List Keyword).isEmpty then 0 else 1) < 30)) = true := by rfl)
    (hline : (apos.endLine == cpos.line) = true := by rfl) (hs1 : starEach [e] X.env = [(false, eval e X.env)] := by rfl) :
    PE X (.Call (.Attribute (.Name x npos) "pop" apos) [e] [] cpos) (teOf G W (iPop i (some m))) := by
  have hm : MtR X "list.pop" rPopAt := mt_popAt
  refine PE.imp (pe_bm PySem.F.plainAttrs_list PySem.F.slot_list_pop PySem.F.type_list_pop hm (pe_var hN hv hd hcd) (pa_cons he pa_nil hs1) hbase hfew hline hs1 rfl) ?_
  rintro σ H Q ⟨ρ, F, fp, en, h⟩
  unfold iPop at h
  split at h
  · rename_i hw
    obtain ⟨d0, hd0⟩ := isOwL_some hw
    obtain ⟨u, g1, g2⟩ := en.ow i _ hd0
    refine ⟨u, g1, by rw [o.K]; exact g2.isL, ?_⟩
    refine oc_bind en h fun y d ρ1 H1 F1 fp1 s1 e1 r1 h1 => ?_
    split at h1
    · rename_i k ds hds
      obtain ⟨u', g1', g2'⟩ := e1.ow i _ hds
      obtain rfl : u' = u := by rw [g1] at g1'; cases g1'; rfl
      cases r1.int_inv
      split at h1
      · rename_i d ds' hpop
        obtain ⟨j, hj, hp2⟩ := Option.bind_eq_some_iff.mp hpop
        obtain ⟨d2, hd2, hp3⟩ := Option.map_eq_some_iff.mp hp2
        cases hp3
        cases g2' with
        | @lst p vs _ _ hp a z q =>
          have hq := (q p).mpr rfl
          have hl := a.len
          obtain ⟨v, ev, rv⟩ := a.get hd2
          obtain ⟨b1, b2, b3, b4⟩ := ixN_seq hj
          have hb : ds.length ≤ big := by rw [← hl]; exact z
          unfold big at hb
          have qq := e1.putS (o := .lst (vs.eraseIdx j)) hq
          refine ⟨p, vs, k, j, v, rfl, rfl, hp, by omega, by omega, by rw [hl]; exact b1, ev, ?_⟩
          exact h1 v _ F1 fp1 (Stp.put hq) (e1.put hq g1 (fun z => z) (.lst upd_same ((a.erase j).mono qq) (Nat.le_trans (List.length_eraseIdx_le ..) z) q)) (rv.mono qq)
      · exact h1.elim
    · exact h1.elim
  · exact h.elim
theorem erase_last {α : Type} (l : List α) : l.eraseIdx (l.length - 1) = l.dropLast := by
  rw [List.eraseIdx_eq_take_drop_succ, List.dropLast_eq_take]
  by_cases h : l.length = 0
  · have := List.eq_nil_of_length_eq_zero h
    subst this; rfl
  · rw [Nat.sub_add_cancel (by omega), List.drop_length, List.append_nil]
theorem m_pop0 (o : Ok X G W) (i : Nat) {x : Str} {apos cpos npos : Pos} (hN : X.N[i]? = some x := by rfl)
    (hv : Vis X.env.scope x := by first | exact Or.inl rfl | exact Or.inr (Or.inl rfl) | exact Or.inr (Or.inr rfl)) (hd : (x == ("__debug__" : Str)) = false := by decide) (hcd : (x == ("__classdict__" : Str)) = false := by decide)
    (hbase : attributeBase (.Name x npos) "pop" X.env (eval (.Name x npos) X.env) = eval (.Name x npos) X.env := by rfl)
    (hline : (apos.endLine == cpos.line) = true := by rfl) :
    PE X (.Call (.Attribute (.Name x npos) "pop" apos) [] [] cpos) (teOf G W (iPop i none)) := by
  have hm : MtR X "list.pop" rPop := mt_pop
  refine PE.imp (pe_bm0 PySem.F.plainAttrs_list PySem.F.slot_list_pop PySem.F.type_list_pop hm (pe_var hN hv hd hcd) hbase hline) ?_
  rintro σ H Q ⟨ρ, F, fp, en, h⟩
  unfold iPop at h
  split at h
  · rename_i hw
    obtain ⟨d0, hd0⟩ := isOwL_some hw
    obtain ⟨u, g1, g2⟩ := en.ow i _ hd0
    refine ⟨u, g1, by rw [o.K]; exact g2.isL, ?_⟩
    simp only [Rz.bind, orE] at h
    rw [hd0] at h
    dsimp only at h
    split at h
    · rename_i d ds' hpop
      obtain ⟨j, hj, hp2⟩ := Option.bind_eq_some_iff.mp hpop
      obtain ⟨d2, hd2, hp3⟩ := Option.map_eq_some_iff.mp hp2
      cases hp3
      cases g2 with
      | @lst p vs _ _ hp a z q =>
        have hq := (q p).mpr rfl
        have hl := a.len
        obtain ⟨v, ev, rv⟩ := a.get hd2
        obtain ⟨b1, b2, b3, b4⟩ := ixN_seq hj
        have hj' : j = vs.length - 1 := by
          unfold ixN at hj
          rw [if_neg (by omega), if_pos b3] at hj
          cases hj
          rw [hl]; omega
        subst hj'
        have qq := en.putS (o := .lst vs.dropLast) hq
        refine ⟨p, vs, v, rfl, rfl, hp, ev, ?_⟩
        refine h v _ F fp (Stp.put hq) (en.put hq g1 (fun z => z) (.lst upd_same ?_ (by rw [List.length_dropLast]; omega) q)) (rv.mono qq)
        rw [← erase_last]
        exact (a.erase _).mono (by rw [erase_last]; exact qq)
    · exact h.elim
  · exact h.elim
end
end MR
set_option maxRecDepth 100000
set_option maxHeartbeats 4000000
/-! MirO: dict displays; making instances. -/
namespace MR
open PySem L2 PyProof.Rows
section
variable {X : Cx} {G : Gx} {W : WX} {σ : L2.St} {H : Hp} {F : AP1} {fp : FPt} {ρ : Env} {cs : List String} {pin : List Nat}
/-! ### {k: v, ..} -/
inductive FzQ (G : Gx) (F : AP1) (H : Hp) : List (V × V) → List (IV × IV) → Prop
  | nil : FzQ G F H [] []
  | cons {k v : V} {vs : List (V × V)} {a b : IV} {ds : List (IV × IV)} : Fz G F H k a → Fz G F H v b → FzQ G F H vs ds → FzQ G F H ((k, v) :: vs) ((a, b) :: ds)
abbrev EQ := Env → Rz (List (IV × IV))
abbrev tqOf (G : Gx) (W : WX) (m : EQ) : L2.St → Hp → (List (V × V) → Hp → Prop) → Prop := tOf (fun G _ F H v d => FzQ G F H v d) G W m
structure PD (X : Cx) (G : Gx) (W : WX) (pos : Pos) (keys : List (Option Expr)) (values : List Expr) (m : EQ) : Prop where
  ex : ∃ trs, PPs X pos keys values trs ∧ ∀ σ H Q, tqOf G W m σ H Q → tPairs trs σ H Q
def qNil : EQ := fun ρ => .ok [] ρ
def qCons (A B : E) (C : EQ) : EQ := fun ρ => (A ρ).bind fun a ρ1 => (B ρ1).bind fun b ρ2 => (C ρ2).bind fun c ρ3 => .ok ((a, b) :: c) ρ3
theorem d_nil {pos : Pos} : PD X G W pos [] [] qNil := ⟨[], pps_nil, fun σ H Q ⟨ρ, F, fp, e, h⟩ => oc_okR h e .nil⟩
theorem d_cons {pos : Pos} {k v : Expr} {ks : List (Option Expr)} {vs : List Expr} {A B : E} {C : EQ} (ha : PE X k (teOf G W A)) (hb : PE X v (teOf G W B)) (hc : PD X G W pos ks vs C) : PD X G W pos (some k :: ks) (v :: vs) (qCons A B C) := by
  obtain ⟨trs, h1, h2⟩ := hc.ex
  refine ⟨_, pps_cons ha hb h1, fun σ H Q ⟨ρ, F, fp, e, h⟩ => ?_⟩
  refine oc_bind e h fun x a ρ1 H1 F1 fp1 s1 e1 r1 w1 => ?_
  refine oc_bind e1 w1 fun y b ρ2 H2 F2 fp2 s2 e2 r2 w2 => ?_
  refine h2 σ H2 _ (oc_bind e2 w2 fun z c ρ3 H3 F3 fp3 s3 e3 r3 w3 => ?_)
  exact oc_okR w3 e3 (.cons ((r1.mono (e1.stq s2)).mono (e2.stq s3)) (r2.mono (e2.stq s3)) r3)
def keysOf : List (IV × IV) → Option (List (Key × IV))
  | [] => some []
  | (k, v) :: r => match ivKey k, keysOf r with
    | some k, some r => some ((k, v) :: r)
    | _, _ => none
def mergeI (kvs more : List (Key × IV)) : List (Key × IV) := more.foldl (fun acc kv => putKI acc kv.1 kv.2) kvs
theorem FzQ.keys : ∀ {vs : List (V × V)} {ds : List (IV × IV)} {kd : List (Key × IV)}, FzQ G F H vs ds → keysOf ds = some kd → ∃ kvs : List (Key × V), vs = kvs.map (fun kv => (kV kv.1, kv.2)) ∧ FzP G F H kvs kd ∧ kvs.length = ds.length
  | _, _, _, .nil, h => by cases h; exact ⟨[], rfl, .nil, rfl⟩
  | _, _, _, .cons (k := k) (v := v) h1 h2 t, h => by
    simp only [keysOf] at h
    split at h
    · rename_i kk rr g1 g2
      cases h
      obtain ⟨kvs, e1, e2, e3⟩ := FzQ.keys t g2
      subst e1
      cases Fz.key h1 g1
      exact ⟨(kk, v) :: kvs, rfl, .cons h2 e2, by rw [List.length_cons, List.length_cons, e3]⟩
    · cases h
theorem FzP.merge : ∀ {ms : List (Key × V)} {md : List (Key × IV)} {vs : List (Key × V)} {ds : List (Key × IV)}, FzP G F H ms md → FzP G F H vs ds → FzP G F H (mergeK vs ms) (mergeI ds md)
  | _, _, _, _, .nil, h => h
  | _, _, _, _, .cons (k := k) h1 t, h => by
    have q := FzP.merge t (FzP.putK (k := k) h1 h)
    exact q
def iDict (m : EQ) : E := fun ρ => (m ρ).bind fun ps ρ1 => match keysOf ps with
  | some kd => if ps.length ≤ 15 then .ok (.dic (mergeI [] kd)) ρ1 else .no
  | none => .no
theorem iDict_fz (m : EQ) : ∀ ρ d ρ', iDict m ρ = .ok d ρ' → canFz d = true := by
  intro ρ d ρ' h
  obtain ⟨ps, ρ1, _, h1⟩ := Rz.bind_ok h
  split at h1
  · split at h1
    · cases h1; rfl
    · cases h1
  · cases h1
theorem o_dict {pos : Pos} {keys : List (Option Expr)} {values : List Expr} {m : EQ} (hd : PD X G W pos keys values m) (hall : keys.all (·.isSome) = true := by rfl) (hl : keys.length = values.length := by rfl) (h0 : keys ≠ [] := by exact fun z => by cases z) (h15 : keys.length ≤ 15 := by decide) :
    PE X (.Dict keys values pos) (toOf G W (iDict m)) := by
  obtain ⟨trs, h1, h2⟩ := hd.ex
  refine PE.imp (pe_disp h1 hall hl h0 h15) ?_
  rintro σ H Q ⟨ρ, F, fp, e, h⟩
  intro p hp
  have e' : EnvR G F (upd H p (.dK [])) σ ρ fp := e.fr (Fr.new hp)
  have st0 : Stp H F (un fp) (upd H p (.dK [])) F (un fp) := (Fr.new hp).stp _
  refine h2 σ _ _ ⟨ρ, F, fp, e', ?_⟩
  unfold iDict at h
  cases hm : m ρ with
  | no => rw [hm] at h; exact h
  | ex c pp ρ' => rw [hm] at h; exact fun d H' F' fp' t en r => h d H' F' fp' (st0.trans t) en r
  | ok ps ρ1 =>
    rw [hm] at h
    intro v H' F' fp' t en r
    have nF : ¬ F p := fun f => e.ft p f hp
    have nP : ¬ un fp p := fun ⟨i, q⟩ => e.tr i p q hp
    have pk : H' p = some (.dK []) := t.keep _ _ upd_same nP
    refine ⟨pk, ?_⟩
    simp only [Rz.bind] at h
    cases hk : keysOf ps with
    | none => rw [hk] at h; exact h.elim
    | some kd =>
      rw [hk] at h
      dsimp only at h
      split at h
      · rename_i hz
        obtain ⟨kvs, g1, g2, g3⟩ := r.keys hk
        refine ⟨kvs, g1, by rw [g3]; exact hz, ?_⟩
        have nF' : ¬ F' p := fun f => by
          rcases t.fnew p f with g | g | g
          · exact nF g
          · exact nP g
          · rw [upd_same] at g; cases g
        have nP' : ¬ un fp' p := fun f => by
          rcases t.pnew p f with g | g
          · exact nP g
          · rw [upd_same] at g; cases g
        have en2 : EnvR G F' (upd H' p (.dK (mergeK [] kvs))) σ ρ1 fp' := en.upd nF' nP' fun u z => by rw [pk] at z; cases z; exact fun z => z
        have st : Stp H F (un fp) (upd H' p (.dK (mergeK [] kvs))) F' (un fp') := by
          have s2 := st0.trans t
          refine ⟨fun a o z n => ?_, s2.frm, s2.fnew, s2.pnew, fun a z => ?_⟩
          · have : a ≠ p := fun q => by rw [q, hp] at z; cases z
            rw [upd_ne this]; exact s2.keep a o z n
          · by_cases hq : a = p
            · rw [hq, upd_same] at z; cases z
            · rw [upd_ne hq] at z; exact s2.dom a z
        have q5 : Stq H' F' (upd H' p (.dK (mergeK [] kvs))) F' := by
          refine ⟨fun a o z f => ?_, fun a o z mm => ?_, fun _ f => f⟩
          · rw [upd_ne (fun q => nF' (by rw [← q]; exact f))]; exact z
          · rw [upd_ne (fun q => by rw [q, pk] at z; cases z; exact mm)]; exact z
        have hlen := length_mergeK kvs []
        rw [List.length_nil] at hlen
        refine h (.ref p) _ F' fp' (fun a => a = p) st en2 (.dic upd_same ((FzP.merge g2 .nil).mono q5) (Nat.le_trans hlen (Nat.le_trans (by omega : 0 + kvs.length ≤ 15) (by decide))) fun _ => Iff.rfl) ⟨?_, ?_, ?_, ?_, ?_⟩
        · intro a z; rw [z]; exact hp
        · intro a z q; rw [z, upd_same] at q; cases q
        · intro a z; rw [z]; exact nF'
        · intro a z; rw [z]; exact nP'
        · intro a o z q; rw [z, upd_same] at q; cases q; exact fun z => z
      · exact h.elim
theorem m_dict {pos : Pos} {keys : List (Option Expr)} {values : List Expr} {m : EQ} (hd : PD X G W pos keys values m) (hall : keys.all (·.isSome) = true := by rfl) (hl : keys.length = values.length := by rfl) (h0 : keys ≠ [] := by exact fun z => by cases z) (h15 : keys.length ≤ 15 := by decide) :
    PE X (.Dict keys values pos) (teOf G W (iDict m)) := m_frz (o_dict hd hall hl h0 h15) (iDict_fz m)
theorem o_dict0 {pos : Pos} : PE X (.Dict [] [] pos) (toOf G W (fun ρ => .ok (.dic []) ρ)) := PE.imp pe_dnewK fun σ H Q ⟨ρ, F, fp, e, h⟩ p hp => by
  have fr : Fr H F (upd H p (.dK [])) F := Fr.new hp
  exact ocO_ok (q := fun a => a = p) h e fr (.dic upd_same .nil (by decide) fun _ => Iff.rfl) (New0.one hp (fun f => e.ft p f hp) fun z => z)
/-! ### C(e, ..) -/
section
variable {CX : CXT} {k : Nat} {f C : Addr} {fd : FuncData} {ps : List Str} {sp : Sp} {E : XK}
theorem run_mk {pins : List (Addr × Obj)} {s : Shared} {Q : VK} {us : List Value} {kw : List (Str × Value)} {full : Value → List Value} {fullV : V → List V} (M : Mk X.K C f) (Fo : FnOk X.prog X.w X.K X.mg X.base CX k f fd ps sp) (hr : Room (k + 1) X.A)
    (hb : ∀ (s' : Shared) x, X.K.In s'.heap → BindsTo s' fd ⟨Value.ref x :: us, kw⟩ (ps.zip (full (.ref x)))) (rf : ∀ x, Vals (fullV (.ref x)) (full (.ref x))) (hx : PassesAt CX X σ E) (I : Inv X pins σ H s)
    (h : ∀ x dx, H x = none → H dx = none → dx ≠ x → sp (fullV (.ref x)) (upd (upd H dx (.own x)) x (.ins C dx [])) (fun v H2 => v = .non ∧ Q (.ref x) H2) E) :
    wpAny (model X.prog X.w) X.A (call (.ref C) us kw) (EP X pins σ Q) X.xe s := by
  have hq := h (s.heap.objs.size + 1) s.heap.objs.size (I.hok.fresh (Nat.le_succ _)) (I.hok.fresh (Nat.le_refl _)) (Nat.ne_of_lt (Nat.lt_succ_self _))
  have J := Inv.made (C := C) I
  refine wpAny_call (make_map (f := f) I.kIn M.makes M.init (beq_iff_eq.mp M.fn) ?_)
  have hrun := Fo.run (X.A.under (.builtin "type.__call__" ⟨.ref C :: us, kw⟩)) X.stack { s with heap := (s.heap.push PySem.W.emptyDict).push (PySem.W.instObj C s.heap.objs.size) } _
    ⟨Value.ref (s.heap.objs.size + 1) :: us, kw⟩ (full (.ref (s.heap.objs.size + 1))) (fullV (.ref (s.heap.objs.size + 1))) _ E (hr.make C us kw) (J.env0.make C us kw) (hb _ _ J.kIn) (rf _) hq
  refine codeAny_mono hrun fun r s' hq' => ?_
  cases r with
  | error e => exact hx pins _ _ e s' J hq'
  | ok fl => cases fl with
    | ret u =>
      obtain ⟨v, H', I3, rv, ev, q3⟩ := J.after hq'
      subst ev
      exact ⟨rv, V.ref (s.heap.objs.size + 1), H', I3, rfl, q3⟩
    | next => exact hq'.elim
    | brk => exact hq'.elim
    | cont => exact hq'.elim
end
/-- what a caller has behind a step that only touches others' objects -/
theorem EnvR.far {H' : Hp} {F' : AP1} {P P' : AP1} (e : EnvR G F H σ ρ fp) (s : Stp H F P H' F' P') (hd : ∀ a, un fp a → ¬ P a) (hi : ∀ a, P a → H a = none ∨ ∀ o, H a = some o → ¬ Imm o) (hf : ∀ a, F a → ¬ P a) (ft : ∀ a, F' a → H' a ≠ none) : EnvR G F' H' σ ρ fp := by
  have q : Stq H F H' F' := ⟨fun a o h f => s.keep a o h (hf a f), fun a o h m => s.keep a o h fun p => (hi a p).elim (fun z => by rw [h] at z; cases z) fun z => z o h m, s.frm⟩
  have k : ∀ i a o, H a = some o → fp i a → H' a = some o := fun i a o h p => s.keep a o h (hd a ⟨i, p⟩)
  refine ⟨fun j d z => ?_, fun j d z => ?_, e.dis, fun j a h f => ?_, fun j a h => ?_, fun j a o h z => ?_, ft, e.len⟩
  · obtain ⟨w, e1, e2⟩ := e.fz j d z
    exact ⟨w, e1, e2.mono q⟩
  · obtain ⟨w, e1, e2⟩ := e.ow j d z
    exact ⟨w, e1, e2.mono q fun a o h p => k j a o h p⟩
  · rcases s.fnew a f with g | g | g
    · exact e.nf j a h g
    · exact hd a ⟨j, h⟩ g
    · exact e.tr j a h g
  · cases hu : H a with
    | none => exact (e.tr j a h hu).elim
    | some u => rw [k j a u hu h]; exact fun z => by cases z
  · cases hu : H a with
    | none => exact (e.tr j a h hu).elim
    | some u =>
      rw [k j a u hu h] at z
      cases z
      exact e.ni j a o h hu
/-- an instance is made: its __init__ as f -/
def mkF (c : String) (fn : Fn) (ds : List IV) (ρ : Env) : Rz IV := match fn (.ins c [] :: ds) with
  | .ok .non [.ins c' fs] => if c' = c then .ok (.ins c fs) ρ else .no
  | .ex cl p [_] => .ex cl p ρ
  | _ => .no
theorem mkF_fz {c : String} {fn : Fn} {ds : List IV} {ρ ρ' : Env} {d : IV} (h : mkF c fn ds ρ = .ok d ρ') : canFz d = true := by
  unfold mkF at h
  split at h
  · split at h
    · cases h; rfl
    · cases h
  · cases h
  · cases h
def ksI (n : Nat) : List Bool := true :: List.replicate n false
theorem envOf_rep : ∀ (ds : List IV), envOf (List.replicate ds.length false) ds = ds.map Sl.fz
  | [] => rfl
  | d :: ds => by
    rw [List.length_cons, List.replicate_succ, List.map_cons]
    simp only [envOf]
    rw [envOf_rep ds]
theorem mk_sp {c : String} {fn : Fn} {ds : List IV} {vs : List V} {n : Nat} {Q : VK} (hn : n = ds.length) (e : EnvR G F H σ ρ fp) (ra : FzA G F H vs ds) (h : OcO G W σ H F fp (mkF c fn ds ρ) Q) {x dx : Addr} (hx : H x = none) (hdx : H dx = none) (hne : dx ≠ x) :
    spOf G (ksI n) fn (.ref x :: vs) (upd (upd H dx (.own x)) x (.ins (G.cls c) dx [])) (fun v H2 => v = .non ∧ Q (.ref x) H2) (fun cls d H => W cls d σ H) := by
  subst hn
  have hx1 : (upd H dx (.own x)) x = none := by rw [upd_ne (Ne.symm hne)]; exact hx
  have fr1 : Fr H F (upd H dx (.own x)) F := Fr.new hdx
  have fr2 : Fr (upd H dx (.own x)) F (upd (upd H dx (.own x)) x (.ins (G.cls c) dx [])) F := Fr.new hx1
  have fr : Fr H F (upd (upd H dx (.own x)) x (.ins (G.cls c) dx [])) F := fr1.trans fr2
  have e2 := e.fr fr
  have nF : ¬ F x := fun f => e.ft x f hx
  have nP : ¬ un fp x := fun ⟨i, q⟩ => e.tr i x q hx
  have el : ds.length = vs.length := ra.len.symm
  have hE : envOf (ksI ds.length) (.ins c [] :: ds) = .ow (.ins c []) :: ds.map Sl.fz := by
    unfold ksI
    simp only [envOf]
    rw [envOf_rep]
  have ec : EnvR G F (upd (upd H dx (.own x)) x (.ins (G.cls c) dx [])) ((V.ref x :: vs).map some) (envOf (ksI ds.length) (.ins c [] :: ds)) (fun j a => j = 0 ∧ a = x) := by
    rw [hE]
    refine ⟨fun j d z => ?_, fun j d z => ?_, fun i j a h1 h2 => by rw [h1.1, h2.1], fun j a h f => nF (by rw [← h.2]; exact f), fun j a h z => ?_, fun j a o h z => ?_, e2.ft, by simp [el]⟩
    · cases j with
      | zero => simp at z
      | succ j =>
        rw [List.getElem?_cons_succ, List.getElem?_map] at z
        cases hd : ds[j]? with
        | none => rw [hd] at z; cases z
        | some d' =>
          rw [hd] at z
          cases z
          obtain ⟨v, g1, g2⟩ := ra.get hd
          exact ⟨v, by rw [List.map_cons, List.getElem?_cons_succ, List.getElem?_map, g1]; rfl, g2.mono fr.stq⟩
    · cases j with
      | zero =>
        rw [List.getElem?_cons_zero] at z
        cases z
        exact ⟨.ref x, rfl, .ins upd_same .nil fun a => ⟨fun h => h.2, fun h => ⟨rfl, h⟩⟩⟩
      | succ j =>
        rw [List.getElem?_cons_succ, List.getElem?_map] at z
        cases hd : ds[j]? with
        | none => rw [hd] at z; cases z
        | some d' => rw [hd] at z; cases z
    · rw [h.2, upd_same] at z; cases z
    · rw [h.2, upd_same] at z; cases z; exact fun z => z
  refine ⟨by simp [ksI, el], .ins c [] :: ds, F, _, by simp [ksI], ec, ?_⟩
  unfold mkF at h
  have far : ∀ H' F' fpc' ρc, Stp (upd (upd H dx (.own x)) x (.ins (G.cls c) dx [])) F (un fun j a => j = 0 ∧ a = x) H' F' (un fpc') → EnvR G F' H' ((V.ref x :: vs).map some) ρc fpc' → EnvR G F' H' σ ρ fp ∧ Stp H F (un fp) H' F' (un fp) := by
    intro H' F' fpc' ρc s ec'
    refine ⟨e2.far s (fun a p ⟨j, q⟩ => nP (by rw [← q.2]; exact p)) (fun a ⟨j, q⟩ => Or.inr fun o z => ?_) (fun a f ⟨j, q⟩ => nF (by rw [← q.2]; exact f)) ec'.ft, ?_⟩
    · rw [q.2, upd_same] at z; cases z; exact fun z => z
    · refine ⟨fun a o z n => s.keep a o (fr.keep a o z) fun ⟨j, q⟩ => (by rw [q.2, hx] at z; cases z), s.frm, fun a f => ?_, fun a p => Or.inl p, fun a z => fr.dom a (s.dom a z)⟩
      rcases s.fnew a f with g | ⟨j, g⟩ | g
      · exact Or.inl g
      · exact Or.inr (Or.inr (by rw [g.2]; exact hx))
      · exact Or.inr (Or.inr (fr.dom a g))
  cases hf : fn (.ins c [] :: ds) with
  | no => rw [hf] at h; exact h.elim
  | ex cl p outs =>
    rw [hf] at h
    dsimp only at h ⊢
    split at h
    · rename_i hh; cases hh
    · rename_i hh
      cases hh
      intro d H' F' fpc' s ec' r
      obtain ⟨a1, a2⟩ := far H' F' fpc' _ s ec'
      exact h d H' F' fp a2 a1 r
    · exact h.elim
  | ok d outs =>
    rw [hf] at h
    dsimp only at h ⊢
    split at h
    · rename_i c' fs hh
      cases hh
      split at h
      · rename_i hc
        subst hc
        intro v H' F' fpc' s ec' r
        obtain ⟨a1, a2⟩ := far H' F' fpc' _ s ec'
        have hv : v = .non := by cases r; rfl
        refine ⟨hv, ?_⟩
        obtain ⟨w, w1, w2⟩ := ec'.ow 0 (.ins c' fs) rfl
        have w3 : w = .ref x := by cases w1; rfl
        subst w3
        refine h (.ref x) H' F' fp (fpc' 0) a2 a1 w2 ⟨fun a p => ?_, fun a p => ec'.tr 0 a p, fun a p => ec'.nf 0 a p, fun a p q => ?_, fun a o p => ec'.ni 0 a o p⟩
        · cases w2 with
          | ins hp fa z => rw [(z a).mp p]; exact hx
        · cases w2 with
          | ins hp fa z => exact nP (by rw [← (z a).mp p]; exact q)
      · exact h.elim
    · rename_i hh; cases hh
    · exact h.elim
/-- C(e, ..); dds: the defaults that are filled in -/
def iMake (c : String) (fn : Fn) (dds : List IV) (A : EA) : E := fun ρ => (A ρ).bind fun ds ρ1 => mkF c fn (ds ++ dds) ρ1
theorem iMake_fz {c : String} {fn : Fn} {dds : List IV} {A : EA} : ∀ ρ d ρ', iMake c fn dds A ρ = .ok d ρ' → canFz d = true := by
  intro ρ d ρ' h
  obtain ⟨ds, ρ1, _, h1⟩ := Rz.bind_ok h
  exact mkF_fz h1
theorem o_make (o : Ok X G W) (c : String) {k n : Nat} {f : Addr} {fd : FuncData} {ps : List Str} {fn : Fn} {dds : List IV} {dvs : List V} {dus : List Value} {x : Str} {e : Expr} {es : List Expr} {p pos : Pos} {A : EA} (M : Mk X.K (G.cls c) f)
    (Fo : FnOk X.prog X.w X.K X.mg X.base (L2.CX X.prog X.w) k f fd ps (spOf G (ksI n) fn)) (hr : Room (k + 1) X.A) (hg : Gl X x) (hm : X.mg x = some (.ref (G.cls c))) (hb : Binds X.K fd ps dus) (hd : Vals dvs dus) (hdd : ∀ F H, FzA G F H dvs dds)
    (hn : n = (e :: es).length + dds.length) (hps : ps.length = n + 1) (ha : PA X (e :: es) (taOf G W A)) (hA : ∀ ρ ds ρ1, A ρ = .ok ds ρ1 → ds.length = (e :: es).length) (hdb : (x == ("__debug__" : Str)) = false := by decide)
    (he : starEach (e :: es) X.env = (false, eval e X.env) :: starEach es X.env := by rfl) (hpl : (backTo pos (starEach es X.env)).any (·.1) = false := by rfl) : PE X (.Call (.Name x p) (e :: es) [] pos) (toOf G W (iMake c fn dds A)) := by
  refine ⟨fun pins s σ H Q I h => ?_⟩
  refine wpAny_Call_Name_kw (ld_glob I hg hm ?_ hdb)
  obtain ⟨ρ, F, fp, en, h⟩ := h
  have hP : taOf G W A σ H (fun vs H1 => ∃ ds ρ1 F1 fp1, ds.length = (e :: es).length ∧ EnvR G F1 H1 σ ρ1 fp1 ∧ FzA G F1 H1 vs ds ∧ OcO G W σ H1 F1 fp1 (mkF c fn (ds ++ dds) ρ1) Q) := by
    refine ⟨ρ, F, fp, en, ?_⟩
    unfold iMake at h
    cases hA' : A ρ with
    | no => rw [hA'] at h; exact h
    | ex c p ρ' => rw [hA'] at h; exact h
    | ok ds ρ1 =>
      rw [hA'] at h
      exact fun vs H1 F1 fp1 t e1 r => ⟨ds, ρ1, F1, fp1, hA _ _ _ hA', e1, r, OcO.step t h⟩
  refine PySem.W.callWith_K (h₀ := X.base) I.ok.mod.kin M.kp (thn (ha.run pos pins s σ H _ I hP) fun us s1 ⟨vs, H1, I1, r, q⟩ => ⟨I1.kIn, ?_⟩) he hpl
  obtain ⟨ds, ρ1, F1, fp1, hl, e1, fa, w⟩ := q
  have hlu : us.length = (e :: es).length := by rw [← r.length, fa.len, hl]
  have hdl : dus.length = dds.length := by rw [← hd.length, (hdd F H).len]
  refine run_mk (CX := L2.CX X.prog X.w) (E := fun cls d H => W cls d σ H) (full := fun x => x :: (us ++ dus)) (fullV := fun x => x :: (vs ++ dvs)) M Fo hr (fun s' x kin => ?_) (fun x => .cons rfl (r.append hd)) (passAt o.tk σ) I1 ?_
  · have hlen : (Value.ref x :: us ++ dus).length = ps.length := by
      rw [hps, List.length_append, List.length_cons, hlu, hdl, hn]; omega
    exact hb s' (Value.ref x :: us) kin hlen
  · intro x dx hx hdx hne
    exact mk_sp (by rw [List.length_append, hl, hn]) e1 (fa.app (hdd F1 H1)) w hx hdx hne
theorem m_make (o : Ok X G W) (c : String) {k n : Nat} {f : Addr} {fd : FuncData} {ps : List Str} {fn : Fn} {dds : List IV} {dvs : List V} {dus : List Value} {x : Str} {e : Expr} {es : List Expr} {p pos : Pos} {A : EA} (M : Mk X.K (G.cls c) f)
    (Fo : FnOk X.prog X.w X.K X.mg X.base (L2.CX X.prog X.w) k f fd ps (spOf G (ksI n) fn)) (hr : Room (k + 1) X.A) (hg : Gl X x) (hm : X.mg x = some (.ref (G.cls c))) (hb : Binds X.K fd ps dus) (hd : Vals dvs dus) (hdd : ∀ F H, FzA G F H dvs dds)
    (hn : n = (e :: es).length + dds.length) (hps : ps.length = n + 1) (ha : PA X (e :: es) (taOf G W A)) (hA : ∀ ρ ds ρ1, A ρ = .ok ds ρ1 → ds.length = (e :: es).length) (hdb : (x == ("__debug__" : Str)) = false := by decide)
    (he : starEach (e :: es) X.env = (false, eval e X.env) :: starEach es X.env := by rfl) (hpl : (backTo pos (starEach es X.env)).any (·.1) = false := by rfl) : PE X (.Call (.Name x p) (e :: es) [] pos) (teOf G W (iMake c fn dds A)) :=
  m_frz (o_make o c M Fo hr hg hm hb hd hdd hn hps ha hA hdb he hpl) iMake_fz
/-- how many values a list of expressions gives -/
structure LenA (A : EA) (n : Nat) : Prop where
  len : ∀ ρ ds ρ1, A ρ = .ok ds ρ1 → ds.length = n
theorem l_nil : LenA iNil 0 := ⟨fun ρ ds ρ1 h => by cases h; rfl⟩
theorem l_cons {A : E} {B : EA} {n : Nat} (h : LenA B n) : LenA (iCons A B) (n + 1) := ⟨fun ρ ds ρ1 h' => by
  obtain ⟨x, ρ2, _, h1⟩ := Rz.bind_ok h'
  obtain ⟨xs, ρ3, h2, h3⟩ := Rz.bind_ok h1
  cases h3
  rw [List.length_cons, h.len _ _ _ h2]⟩
/-- C(e, .., k = v, ..) -/
def iMakeK (c : String) (fn : Fn) (A Z : EA) : E := fun ρ => (A ρ).bind fun ds ρ1 => (Z ρ1).bind fun zs ρ2 => mkF c fn (ds ++ zs) ρ2
theorem iMakeK_fz {c : String} {fn : Fn} {A Z : EA} : ∀ ρ d ρ', iMakeK c fn A Z ρ = .ok d ρ' → canFz d = true := by
  intro ρ d ρ' h
  obtain ⟨ds, ρ1, _, h1⟩ := Rz.bind_ok h
  obtain ⟨zs, ρ2, _, h2⟩ := Rz.bind_ok h1
  exact mkF_fz h2
theorem PK.imp {kws : List Keyword} {t t' : TA} (h : PK X kws t) (q : ∀ σ H Q, t' σ H Q → t σ H Q) : PK X kws t' := ⟨fun pos pins s σ H Q I w => h.run pos pins s σ H Q I (q _ _ _ w)⟩
theorem k_nil : PK X [] (taOf G W iNil) := PK.imp pk_nil q_nil
theorem k_cons {nm : Option Str} {e : Expr} {kpos : Pos} {kws : List Keyword} {A : E} {B : EA} (ha : PE X e (teOf G W A)) (hb : PK X kws (taOf G W B)) : PK X (⟨nm, e, kpos⟩ :: kws) (taOf G W (iCons A B)) := PK.imp (pk_cons ha hb) q_cons
theorem o_makeK (o : Ok X G W) (c : String) {k n m : Nat} {f : Addr} {fd : FuncData} {ps ks : List Str} {fn : Fn} {x : Str} {e : Expr} {es : List Expr} {kws : List Keyword} {p pos : Pos} {A Z : EA} (M : Mk X.K (G.cls c) f)
    (Fo : FnOk X.prog X.w X.K X.mg X.base (L2.CX X.prog X.w) k f fd ps (spOf G (ksI (n + m)) fn)) (hr : Room (k + 1) X.A) (hg : Gl X x) (hm : X.mg x = some (.ref (G.cls c))) (hb : KBn X.K fd ps (n + 1) ks (fun us ws => us ++ ws) (fun vs zs => vs ++ zs))
    (ha : PA X (e :: es) (taOf G W A)) (hA : LenA A n) (hk : PK X kws (taOf G W Z)) (hZ : LenA Z m) (hm2 : ks.length = m)
    (hall : (backToKw pos (keywordEach kws X.env)).all (·.1.isSome) = true := by rfl) (hks : (backToKw pos (keywordEach kws X.env)).filterMap (·.1) = ks := by rfl) (hdb : (x == ("__debug__" : Str)) = false := by decide)
    (he : starEach (e :: es) X.env = (false, eval e X.env) :: starEach es X.env := by rfl) (hpl : ((backTo pos (starEach (e :: es) X.env)).any (·.1) || (backToKw pos (keywordEach kws X.env)).any (·.1.isNone)) = false := by rfl) :
    PE X (.Call (.Name x p) (e :: es) kws pos) (toOf G W (iMakeK c fn A Z)) := by
  refine ⟨fun pins s σ H Q I h => ?_⟩
  refine wpAny_Call_Name_kw (ld_glob I hg hm ?_ hdb)
  obtain ⟨ρ, F, fp, en, h⟩ := h
  have hP : taOf G W A σ H (fun vs H1 => ∃ ds ρ1 F1 fp1, ds.length = n ∧ EnvR G F1 H1 σ ρ1 fp1 ∧ FzA G F1 H1 vs ds ∧ OcO G W σ H1 F1 fp1 ((Z ρ1).bind fun zs ρ2 => mkF c fn (ds ++ zs) ρ2) Q) := by
    refine ⟨ρ, F, fp, en, ?_⟩
    unfold iMakeK at h
    cases hA' : A ρ with
    | no => rw [hA'] at h; exact h
    | ex c p ρ' => rw [hA'] at h; exact h
    | ok ds ρ1 =>
      rw [hA'] at h
      exact fun vs H1 F1 fp1 t e1 r => ⟨ds, ρ1, F1, fp1, hA.len _ _ _ hA', e1, r, OcO.step t h⟩
  refine PySem.W.callWith_KW (h₀ := X.base) I.ok.mod.kin M.kp hall (thn (ha.run pos pins s σ H _ I hP) fun us s1 ⟨vs, H1, I1, r, q⟩ => ?_) hpl he
  obtain ⟨ds, ρ1, F1, fp1, hl, e1, fa, w⟩ := q
  have hZP : taOf G W Z σ H1 (fun zs H2 => ∃ es' ρ2 F2 fp2, es'.length = m ∧ EnvR G F2 H2 σ ρ2 fp2 ∧ FzA G F2 H2 vs ds ∧ FzA G F2 H2 zs es' ∧ OcO G W σ H2 F2 fp2 (mkF c fn (ds ++ es') ρ2) Q) := by
    refine ⟨ρ1, F1, fp1, e1, ?_⟩
    cases hZ' : Z ρ1 with
    | no => rw [hZ'] at w; exact w
    | ex c p ρ' => rw [hZ'] at w; exact w
    | ok es' ρ2 =>
      rw [hZ'] at w
      exact fun zs H2 F2 fp2 t e2 r2 => ⟨es', ρ2, F2, fp2, hZ.len _ _ _ hZ', e2, fa.mono (e1.stq t), r2, OcO.step t w⟩
  refine thn (hk.run pos pins s1 σ H1 _ I1 hZP) fun ws s2 ⟨zs, H2, I2, rz, q2⟩ => ⟨I2.kIn, ?_⟩
  obtain ⟨es', ρ2, F2, fp2, hl2, e2, fa2, fz2, w2⟩ := q2
  rw [hks]
  have hlu : us.length = n := by rw [← r.length, fa2.len, hl]
  have hlw : ws.length = ks.length := by rw [← rz.length, fz2.len, hl2, hm2]
  refine run_mk (CX := L2.CX X.prog X.w) (E := fun cls d H => W cls d σ H) (full := fun x => x :: us ++ ws) (fullV := fun x => x :: vs ++ zs) M Fo hr (fun s' x kin => ?_) (fun x => (show Vals (V.ref x :: vs) (Value.ref x :: us) from Paired.cons rfl r).append rz) (passAt o.tk σ) I2 ?_
  · exact hb.to s' (Value.ref x :: us) ws kin (by rw [List.length_cons, hlu]) hlw
  · intro x dx hx hdx hne
    exact mk_sp (n := n + m) (by rw [List.length_append, hl, hl2]) e2 (fa2.app fz2) w2 hx hdx hne
theorem m_makeK (o : Ok X G W) (c : String) {k n m : Nat} {f : Addr} {fd : FuncData} {ps ks : List Str} {fn : Fn} {x : Str} {e : Expr} {es : List Expr} {kws : List Keyword} {p pos : Pos} {A Z : EA} (M : Mk X.K (G.cls c) f)
    (Fo : FnOk X.prog X.w X.K X.mg X.base (L2.CX X.prog X.w) k f fd ps (spOf G (ksI (n + m)) fn)) (hr : Room (k + 1) X.A) (hg : Gl X x) (hm : X.mg x = some (.ref (G.cls c))) (hb : KBn X.K fd ps (n + 1) ks (fun us ws => us ++ ws) (fun vs zs => vs ++ zs))
    (ha : PA X (e :: es) (taOf G W A)) (hA : LenA A n) (hk : PK X kws (taOf G W Z)) (hZ : LenA Z m) (hm2 : ks.length = m)
    (hall : (backToKw pos (keywordEach kws X.env)).all (·.1.isSome) = true := by rfl) (hks : (backToKw pos (keywordEach kws X.env)).filterMap (·.1) = ks := by rfl) (hdb : (x == ("__debug__" : Str)) = false := by decide)
    (he : starEach (e :: es) X.env = (false, eval e X.env) :: starEach es X.env := by rfl) (hpl : ((backTo pos (starEach (e :: es) X.env)).any (·.1) || (backToKw pos (keywordEach kws X.env)).any (·.1.isNone)) = false := by rfl) :
    PE X (.Call (.Name x p) (e :: es) kws pos) (teOf G W (iMakeK c fn A Z)) := m_frz (o_makeK o c M Fo hr hg hm hb ha hA hk hZ hm2 hall hks hdb he hpl) iMakeK_fz
end
end MR
set_option maxRecDepth 100000
set_option maxHeartbeats 4000000
/-! MirP: == where own classes have their own. -/
namespace MR
open PySem PySem.SeqAt
open AutoSeq1 (wpAny_loadPart')
open MeetsSeq MeetsSeq2 MeetsSeq3 SeqRoads2
section
variable {prog : Program} {w : World} {A : Around} {R : Result → Shared → Prop}
/-- two tuples, item by item: the answers e, whatever the comparing makes -/
theorem tup_eqM (p q : Addr) (us vs : Array Value) (k1 k2 : Nat) (d1 d2 : Option Addr) (z1 z2 : Array (Option Value)) (e : Nat → Bool) (J : Nat → Shared → Prop)
    (step : ∀ i (h1 : i < us.size) (h2 : i < vs.size) t, J i t → wpAny (model prog w) A.in1 (eqBool us[i] vs[i]) (fun r t' => r = e i ∧ J (i + 1) t') (fun er t' => R (.error er) t') t)
    (done : ∀ i t, J i t → R (.ok (.ret (.bool ((List.range (min us.size vs.size)).all e && us.size == vs.size)))) t) {t : Shared} (hp1 : t.heap.get? p = some { cls := .type "tuple", dict := d1, data := .seq us k1, slots := z1 })
    (hq1 : t.heap.get? q = some { cls := .type "tuple", dict := d2, data := .seq vs k2, slots := z2 }) (h : J 0 t) :
    wpAny (model prog w) A.in1 (Builtin.«tuple.__eq__» ⟨[.ref p, .ref q], []⟩) (GQ.FinOf prog w A R) (fun er t' => R (.error er) t') t := by
  have f2 := AutoSeq1.sub_tuple_tuple
  have hlen : (us.toList.zip vs.toList).length = min us.size vs.size := by simp
  have h0 := h
  obtain ⟨hh, g, dr, tk, os⟩ := t
  wp_walk using wpAny_loadPart' hp1, wpAny_loadPart' hq1, wpAny_forIn_list _ (fun more b t' => b.1 = none ∧ ∃ i, more = (us.toList.zip vs.toList).drop i ∧ i ≤ min us.size vs.size ∧ J i t' ∧ ((List.range i).all e = true)) _
  case turn =>
    rintro ⟨y, x⟩ more b t' ⟨hb1, i, hz, hi, hJ, hall⟩
    have hlt : i < (us.toList.zip vs.toList).length := by
      rcases Nat.lt_or_ge i (us.toList.zip vs.toList).length with hx | hx
      · exact hx
      · rw [List.drop_of_length_le hx] at hz; cases hz
    have hm : i < min us.size vs.size := hlen ▸ hlt
    have h1 : i < us.size := Nat.lt_of_lt_of_le hm (Nat.min_le_left ..)
    have h2 : i < vs.size := Nat.lt_of_lt_of_le hm (Nat.min_le_right ..)
    rw [List.drop_eq_getElem_cons hlt] at hz
    injection hz with hpair hmore
    have ey : y = us[i] := by have := congrArg Prod.fst hpair; simpa using this
    have ex : x = vs[i] := by have := congrArg Prod.snd hpair; simpa using this
    subst ey ex
    refine wpAny_bind (wpAny_mono (step i h1 h2 t' hJ) (fun r t2 ⟨hr, hJ2⟩ => ?_) fun _ _ z => z)
    subst hr
    cases hy : e i with
    | true =>
      wp_walk
      exact ⟨rfl, i + 1, hmore, hm, hJ2, by rw [List.range_succ, List.all_append, hall]; simp [hy]⟩
    | false =>
      have fin := done (i + 1) t2 hJ2
      have eall : (List.range (min us.size vs.size)).all e = false := by
        rw [List.all_eq_false]
        exact ⟨i, List.mem_range.mpr hm, by simp [hy]⟩
      rw [eall] at fin
      wp_walk
      simpa using fin
  case fin =>
    rintro ⟨b1, b2⟩ t' ⟨hb1, i, hz, hi, hJ, hall⟩
    simp only at hb1
    subst hb1
    have hge : min us.size vs.size ≤ i := by
      rcases Nat.lt_or_ge i (us.toList.zip vs.toList).length with hx | hx
      · rw [List.drop_eq_getElem_cons hx] at hz; cases hz
      · exact hlen ▸ hx
    have fin := done i t' hJ
    have ei : i = min us.size vs.size := Nat.le_antisymm hi hge
    rw [← ei, hall] at fin
    wp_walk
    simpa [Builtin.Tuple.tupleCompareSizes] using fin
  case h => exact ⟨rfl, 0, rfl, Nat.zero_le _, h0, rfl⟩
end
section
variable {prog : Program} {w : World} {A : Around} {E : Value → Shared → Prop} {s : Shared}
theorem rc_tupM {p q : Addr} {us vs : Array Value} {Q : Value → Shared → Prop} (hu : A.units < cLine) (e : Nat → Bool) (J : Nat → Shared → Prop) (hp : s.heap.IsTuple p us) (hq : s.heap.IsTuple q vs)
    (step : ∀ i (h1 : i < us.size) (h2 : i < vs.size) t, J i t → wpAny (model prog w) A.in1 (eqBool us[i] vs[i]) (fun r t' => r = e i ∧ J (i + 1) t') E t)
    (done : ∀ i t, J i t → Q (.bool ((List.range (min us.size vs.size)).all e && us.size == vs.size)) t) (h : J 0 s) : wpAny (model prog w) A (richCompare .Eq (.ref p) (.ref q)) Q E s := by
  obtain ⟨⟨c1, d1, da1, z1⟩, hp1, hc1, k1, hd1⟩ := id hp
  obtain ⟨⟨c2, d2, da2, z2⟩, hq1, hc2, k2, hd2⟩ := id hq
  simp only at hc1 hd1 hc2 hd2
  subst hc1 hd1 hc2 hd2
  refine wpAny_richCompare_same_room (op := .Eq) ⟨_, hp1, rfl⟩ ⟨_, hq1, rfl⟩ F.slot_tuple_eq (GQ.call_here F.slot_tuple_eq ⟨_, hp1, rfl⟩ F.entry_tuple_eq (F.args_tuple_eq_2 _ _) ?_) hu
  exact tup_eqM (R := wants (fun v t' => v ≠ .notImplemented ∧ Q v t') E) p q us vs k1 k2 d1 d2 z1 z2 e J step (fun i t hJ => ⟨(fun z => nomatch z), done i t hJ⟩) hp1 hq1 h
end
end MR
namespace MR
open PySem L2 PyProof.Rows
section
variable {X : Cx} {G : Gx} {W : WX} {σ : L2.St} {H : Hp} {F : AP1} {fp : FPt} {ρ : Env} {cs : List String} {pin : List Nat} {n : Nat}
/-! ### the same thing stands for the same value -/
mutual
def cmpb (cs : List String) : IV → Bool
  | .non => true
  | .bl _ => true
  | .int _ => true
  | .str _ => true
  | .tup xs => cmpbA cs xs
  | .lst xs => cmpbA cs xs
  | .ins c fs => decide (c ∈ cs) && cmpbP cs fs
  | _ => false
def cmpbA (cs : List String) : List IV → Bool
  | [] => true
  | x :: xs => cmpb cs x && cmpbA cs xs
def cmpbP (cs : List String) : List (Str × IV) → Bool
  | [] => true
  | (_, x) :: xs => cmpb cs x && cmpbP cs xs
end
/-- the class of what stands at an address -/
def clsAt (G : Gx) : IV → Option Value
  | .tup _ => some (.type "tuple")
  | .lst _ => some (.type "list")
  | .ins c _ => some (.ref (G.cls c))
  | _ => none
theorem Fz.clsAt {pins : List (Addr × Obj)} {s : Shared} {p : Addr} {d : IV} (I : Inv X pins σ H s) (hK : X.K = G.K) (h : Fz G F H (.ref p) d) (c : cmpb cs d = true) : ∃ o, s.heap.get? p = some o ∧ MR.clsAt G d = some o.cls := by
  cases h with
  | cl c' => simp [cmpb] at c
  | tup h a z =>
    rw [← hK] at h
    obtain ⟨its, _, ⟨o, h1, h2, _⟩, _⟩ := I.tuple h
    exact ⟨o, h1, by rw [h2]; rfl⟩
  | lst f h a z =>
    obtain ⟨its, _, ⟨o, k, h1, h2, _⟩, _⟩ := I.list (SqL.of h)
    exact ⟨o, h1, by rw [h2]; rfl⟩
  | scr h z => simp [cmpb] at c
  | dic f h a z => simp [cmpb] at c
  | ins f h a =>
    obtain ⟨mA, J, _⟩ := ins_get I.hok h
    exact ⟨_, J.obj, rfl⟩
  | err0 f h => simp [cmpb] at c
  | errD f h f2 h2 a => simp [cmpb] at c
theorem cls_ne {d d' : IV} {pins : List (Addr × Obj)} {s : Shared} {p : Addr} (I : Inv X pins σ H s) (hK : X.K = G.K) (h : Fz G F H (.ref p) d) (c : cmpb cs d = true) (h' : Fz G F H (.ref p) d') (c' : cmpb cs d' = true) : MR.clsAt G d = MR.clsAt G d' := by
  obtain ⟨o, e1, e2⟩ := h.clsAt I hK c
  obtain ⟨o', e1', e2'⟩ := h'.clsAt I hK c'
  rw [e1] at e1'
  cases e1'
  rw [e2, e2']
mutual
theorem Fz.inj {pins : List (Addr × Obj)} {s : Shared} (I : Inv X pins σ H s) (hK : X.K = G.K) (k : KC G cs) : ∀ {v : V} {d d' : IV}, Fz G F H v d → Fz G F H v d' → cmpb cs d = true → cmpb cs d' = true → d = d'
  | _, _, _, .non, h', _, _ => by cases h'; rfl
  | _, _, _, .bl b, h', _, _ => by cases h'; rfl
  | _, _, _, .int i, h', _, _ => by cases h'; rfl
  | _, _, _, .str z, h', _, _ => by cases h'; rfl
  | _, _, _, .ty z, h', c, _ => by simp [cmpb] at c
  | _, _, _, .cl z, h', c, _ => by simp [cmpb] at c
  | _, _, _, .scr h z, h', c, _ => by simp [cmpb] at c
  | _, _, _, .dic f h a z, h', c, _ => by simp [cmpb] at c
  | _, _, _, .err0 f h, h', c, _ => by simp [cmpb] at c
  | _, _, _, .errD f h f2 h2 a, h', c, _ => by simp [cmpb] at c
  | _, .tup ds, d', .tup (vs := vs) h a z, h', c, c' => by
    have e := cls_ne I hK (.tup (F := F) h a z) c h' c'
    cases d' with
    | tup ds' =>
      cases h' with
      | tup h2 a2 z2 =>
        rw [← hK] at h h2
        have ev := I.tuple_inj h h2
        subst ev
        rw [FzA.inj I hK k a a2 (by simpa only [cmpb] using c) (by simpa only [cmpb] using c')]
    | lst _ => simp [MR.clsAt] at e
    | ins _ _ => simp [MR.clsAt] at e
    | _ => simp [MR.clsAt] at e
  | _, .lst ds, d', .lst (vs := vs) f h a z, h', c, c' => by
    have e := cls_ne I hK (.lst f h a z) c h' c'
    cases d' with
    | lst ds' =>
      cases h' with
      | lst f2 h2 a2 z2 =>
        rw [h] at h2
        cases h2
        rw [FzA.inj I hK k a a2 (by simpa only [cmpb] using c) (by simpa only [cmpb] using c')]
    | tup _ => simp [MR.clsAt] at e
    | ins _ _ => simp [MR.clsAt] at e
    | _ => simp [MR.clsAt] at e
  | _, .ins cn ds, d', .ins (vs := vs) f h a, h', c, c' => by
    have e := cls_ne I hK (.ins f h a) c h' c'
    cases d' with
    | ins cn' ds' =>
      cases h' with
      | ins f2 h2 a2 =>
        simp only [cmpb, Bool.and_eq_true, decide_eq_true_eq] at c c'
        have ec : cn = cn' := k.inj c.1 c'.1 (by simpa [MR.clsAt] using e)
        subst ec
        rw [h] at h2
        cases h2
        rw [FzP.inj I hK k a a2 c.2 c'.2]
    | tup _ => simp [MR.clsAt] at e
    | lst _ => simp [MR.clsAt] at e
    | _ => simp [MR.clsAt] at e
theorem FzA.inj {pins : List (Addr × Obj)} {s : Shared} (I : Inv X pins σ H s) (hK : X.K = G.K) (k : KC G cs) : ∀ {vs : List V} {ds ds' : List IV}, FzA G F H vs ds → FzA G F H vs ds' → cmpbA cs ds = true → cmpbA cs ds' = true → ds = ds'
  | _, _, _, .nil, h', _, _ => by cases h'; rfl
  | _, _, _, .cons h t, h', c, c' => by
    cases h' with
    | cons h2 t2 =>
      simp only [cmpbA, Bool.and_eq_true] at c c'
      rw [Fz.inj I hK k h h2 c.1 c'.1, FzA.inj I hK k t t2 c.2 c'.2]
theorem FzP.inj {pins : List (Addr × Obj)} {s : Shared} (I : Inv X pins σ H s) (hK : X.K = G.K) (k : KC G cs) : ∀ {vs : List (Str × V)} {ds ds' : List (Str × IV)}, FzP G F H vs ds → FzP G F H vs ds' → cmpbP cs ds = true → cmpbP cs ds' = true → ds = ds'
  | _, _, _, .nil, h', _, _ => by cases h'; rfl
  | _, _, _, .cons h t, h', c, c' => by
    cases h' with
    | cons h2 t2 =>
      simp only [cmpbP, Bool.and_eq_true] at c c'
      rw [Fz.inj I hK k h h2 c.1 c'.1, FzP.inj I hK k t t2 c.2 c'.2]
end
/-! ### != by an own == -/
section
variable {M : Model} {prog : Program} {w : World} {A : Around} {E : Value → Shared → Prop} {s : Shared} {K : Frag} {x C f : Addr} {ox : Obj} {od : Option Obj} {b tb : Value}
theorem bound_ne {as : List Value} {Q : Option Value → Shared → Prop} (kin : K.In s.heap) (I : PySem.W.InstAt s.heap x ox C od) (hs : PySem.W.findIn K (.ref C) "__ne__" = some (some (.builtin "object.__ne__")))
    (h : wpAny M A (call (.builtin "object.__ne__") (.ref x :: as)) (fun v => Q (some v)) E s) : wpAny M A (callSpecialIfBound? (.ref x) "__ne__" as) Q E s := by
  have last : wpAny M A (call (.builtin "object.__ne__") ([.ref x] ++ as) >>= fun v => pure (some v)) Q E s := wpAny_bind (wpAny_mono h (fun v t q => wpAny_pure q) fun _ _ q => q)
  simp only [callSpecialIfBound?, bindSpecialIfBound?]
  refine wpAny_holding (wpAny_bind (wpAny_bind (wpAny_bind (I.type.here ((PySem.W.looks_findIn kin hs).here (wpAny_bind (wpAny_askSetting (wpAny_ite ?_))))))))
  split
  · exact wpAny_bind (wpAny_of_eq (F.cmp_object.ne.bind _) (wpAny_pure (by exact last)))
  · exact wpAny_tryCatch (wpAny_bind (wpAny_of_eq (F.cmp_object.ne.bind _) (wpAny_pure (by exact last))))
theorem entry_ne {Q : Fin → Shared → Prop} (hu : A.units < cLine) (kin : K.In s.heap) (I : PySem.W.InstAt s.heap x ox C od) (he : PySem.W.findIn K (.ref C) "__eq__" = some (some (.ref f))) (hf : PySem.W.isFn K (.ref f) = true)
    (h : wpAny M A (call (.ref f) [.ref x, b]) (fun v t => ∃ k, v = .bool k ∧ Q (.done (.ret (.bool (!k)))) t) E s) : wpAny M A (Builtin.«object.__ne__» ⟨[.ref x, b], []⟩) Q E s := by
  unfold Builtin.«object.__ne__»
  repeat (first
    | with_reducible refine wpAny_cRoomFor hu ?_
    | (refine wpAny_bind (m := callSpecialIfBound? (.ref x) (Str.ofString "__eq__") [b]) (PySem.W.ifBound_K kin I he hf (wpAny_mono h (fun v t hv => by
        obtain ⟨k, rfl, q⟩ := hv
        repeat (first | exact q | exact wpAny_pure q | exact wpAny_truthy_bool q | (refine wpAny_bind (m := truthy (.bool _)) (wpAny_truthy_bool ?_)) | wp_step)) fun _ _ z => z)))
    | wp_step)
theorem rc_ne {Q : Value → Shared → Prop} (hu : A.units + 1 < cLine) (kin : K.In s.heap) (I : PySem.W.InstAt s.heap x ox C od) (hm : PySem.W.mroIn K C (.type "object") = some true) (hs : PySem.W.findIn K (.ref C) "__ne__" = some (some (.builtin "object.__ne__")))
    (he : PySem.W.findIn K (.ref C) "__eq__" = some (some (.ref f))) (hf : PySem.W.isFn K (.ref f) = true) (hb : PySem.W.Looks (model prog w) s.heap (typeOf b) (.ref C))
    (h : wpAny (model prog w) A.in1 (call (.ref f) [.ref x, b]) (fun v t => ∃ k, v = .bool k ∧ Q (.bool (!k)) t) E s) : wpAny (model prog w) A (richCompare .NotEq (.ref x) b) Q E s := by
  have one : wpAny (model prog w) A (tryCompare (.ref x) "__ne__" b) (fun r t => ∃ v, r = some v ∧ Q v t) E s := by
    unfold tryCompare
    refine wpAny_bind (bound_ne kin I hs (wpAny_call (codeAny_call_builtin F.cmp_object.ne.plain F.cmpEntry_ne (PySem.W.check_slot F.cmpKind_ne F.cmpSplit_ne (I.type.andThen (PySem.W.looks_mroIn kin hm)) (F.cmpArgs_ne _ _) ?_))))
    refine entry_ne (A := A.in1) hu kin I he hf (wpAny_mono h (fun v t hv => ?_) fun _ _ z => z)
    obtain ⟨k, rfl, q⟩ := hv
    first | exact ⟨k, rfl, wpAny_pure ⟨_, rfl, q⟩⟩ | exact ⟨k, rfl, wpAny_pure (wpAny_pure ⟨_, rfl, q⟩)⟩ | exact ⟨k, rfl, ⟨_, rfl, q⟩⟩
  simp only [richCompare, cmpInfo_NotEq, oneThing_ref]
  refine wpAny_holding (wpAny_bind (wpAny_cRoomFor (by omega) ?_))
  refine wpAny_bind (I.type.here (wpAny_bind (hb.here ?_)))
  rw [show (Value.ref C != Value.ref C) = false from by simp]
  simp only [Bool.false_eq_true, if_false]
  refine wpAny_bind (wpAny_pure ?_)
  simp only [Bool.false_eq_true, if_false]
  refine wpAny_bind (wpAny_mono one (fun r t z => ?_) fun _ _ z => z)
  obtain ⟨v, rfl, q⟩ := z
  exact wpAny_pure q
end
end
end MR
set_option maxRecDepth 100000
set_option maxHeartbeats 4000000
/-! MirQ: == over tuples and instances. -/
namespace MR
open PySem L2 PyProof.Rows
section
variable {X : Cx} {G : Gx} {W : WX} {σ : L2.St} {H : Hp} {F : AP1} {fp : FPt} {ρ : Env} {cs : List String} {pin : List Nat} {n m : Nat}
abbrev EQf := IV → IV → Option Bool
/-- what an answer leaves -/
def Aft (X : Cx) (pins : List (Addr × Obj)) (σ : L2.St) (H : Hp) (F : AP1) (s' : Shared) : Prop := ∃ H' F', Inv X pins σ H' s' ∧ Fr H F H' F' ∧ ∀ a, F' a → H' a ≠ none
def EqM (X : Cx) (G : Gx) (n : Nat) (f : EQf) : Prop := ∀ (A : Around) (pins : List (Addr × Obj)) (s : Shared) (σ : L2.St) (H : Hp) (F : AP1) (x y : V) (u v : Value) (dx dy : IV) (b : Bool), Sub X n A → Inv X pins σ H s → RelV x u → RelV y v →
  (∀ a, F a → H a ≠ none) → Fz G F H x dx → Fz G F H y dy → f dx dy = some b → wpAny (model X.prog X.w) A (eqBool u v) (fun r s' => r = b ∧ Aft X pins σ H F s') X.xe s
def RcM (X : Cx) (G : Gx) (op : CmpOp) (n : Nat) (f : EQf) : Prop := ∀ (A : Around) (pins : List (Addr × Obj)) (s : Shared) (σ : L2.St) (H : Hp) (F : AP1) (x y : V) (u v : Value) (dx dy : IV) (b : Bool), Sub X n A → Inv X pins σ H s → RelV x u → RelV y v →
  (∀ a, F a → H a ≠ none) → Fz G F H x dx → Fz G F H y dy → f dx dy = some b → wpAny (model X.prog X.w) A (richCompare op u v) (fun r s' => r = .bool b ∧ Aft X pins σ H F s') X.xe s
theorem EqM.mono {f : EQf} (h : EqM X G n f) (hn : n ≤ m) : EqM X G m f := fun A pins s σ H F x y u v dx dy b sb => h A pins s σ H F x y u v dx dy b (sb.mono hn)
theorem RcM.mono {op : CmpOp} {f : EQf} (h : RcM X G op n f) (hn : n ≤ m) : RcM X G op m f := fun A pins s σ H F x y u v dx dy b sb => h A pins s σ H F x y u v dx dy b (sb.mono hn)
def orQ (f g : EQf) : EQf := fun x y => match f x y with
  | some b => some b
  | none => g x y
theorem orQ_some {f g : EQf} {x y : IV} {b : Bool} (h : orQ f g x y = some b) : f x y = some b ∨ g x y = some b := by
  unfold orQ at h
  split at h
  · rename_i b' hb; cases h; exact Or.inl hb
  · exact Or.inr h
theorem EqM.or {f g : EQf} (h : EqM X G n f) (h' : EqM X G n g) : EqM X G n (orQ f g) := fun A pins s σ H F x y u v dx dy b sb I rx ry ft hx hy e => (orQ_some e).elim (h A pins s σ H F x y u v dx dy b sb I rx ry ft hx hy) (h' A pins s σ H F x y u v dx dy b sb I rx ry ft hx hy)
theorem RcM.or {op : CmpOp} {f g : EQf} (h : RcM X G op n f) (h' : RcM X G op n g) : RcM X G op n (orQ f g) := fun A pins s σ H F x y u v dx dy b sb I rx ry ft hx hy e => (orQ_some e).elim (h A pins s σ H F x y u v dx dy b sb I rx ry ft hx hy) (h' A pins s σ H F x y u v dx dy b sb I rx ry ft hx hy)
/-! ### data -/
def datQ : EQf := fun x y => if (shp x && shp y) = true then some (PyData.eqv (pd x) (pd y)) else none
def datN : EQf := fun x y => if (shp x && shp y) = true then some (!PyData.eqv (pd x) (pd y)) else none
theorem eqM_dat (hK : X.K = G.K) : EqM X G 0 datQ := by
  intro A pins s σ H F x y u v dx dy b sb I rx ry ft hx hy e
  unfold datQ at e
  split at e
  · rename_i hs
    obtain ⟨⟨p1, s1⟩, p2, s2⟩ := shp_and hs
    cases e
    have h1 := hx.dp p1
    have h2 := hy.dp p2
    rw [← hK] at h1 h2
    obtain ⟨as, r1⟩ := Dp.reads I _ x u h1 rx
    obtain ⟨bs, r2⟩ := Dp.reads I _ y v h2 ry
    exact SeqAt.eqAt_reads _ _ A s u v _ _ r1 r2 (SeqAt.canLay_of_shaped s1) (SeqAt.canLay_of_shaped s2) (SeqAt.room_of_shaped s1 sb.room.units) X.prog X.w X.xe _ ⟨rfl, H, F, I, Fr.refl _ _, ft⟩
  · cases e
theorem rcM_dat (hK : X.K = G.K) : RcM X G .Eq 0 datQ := by
  intro A pins s σ H F x y u v dx dy b sb I rx ry ft hx hy e
  unfold datQ at e
  split at e
  · rename_i hs
    obtain ⟨⟨p1, s1⟩, p2, s2⟩ := shp_and hs
    cases e
    have h1 := hx.dp p1
    have h2 := hy.dp p2
    rw [← hK] at h1 h2
    obtain ⟨as, r1⟩ := Dp.reads I _ x u h1 rx
    obtain ⟨bs, r2⟩ := Dp.reads I _ y v h2 ry
    exact SeqAt.compareEq_shaped (A := A) r1 r2 s1 s2 sb.room.units ⟨rfl, H, F, I, Fr.refl _ _, ft⟩
  · cases e
theorem rcM_datN (hK : X.K = G.K) : RcM X G .NotEq 0 datN := by
  intro A pins s σ H F x y u v dx dy b sb I rx ry ft hx hy e
  unfold datN at e
  split at e
  · rename_i hs
    obtain ⟨⟨p1, s1⟩, p2, s2⟩ := shp_and hs
    cases e
    have h1 := hx.dp p1
    have h2 := hy.dp p2
    rw [← hK] at h1 h2
    obtain ⟨as, r1⟩ := Dp.reads I _ x u h1 rx
    obtain ⟨bs, r2⟩ := Dp.reads I _ y v h2 ry
    exact SeqAt.compareNe_shaped (A := A) r1 r2 s1 s2 sb.room.units ⟨rfl, H, F, I, Fr.refl _ _, ft⟩
  · cases e
/-! ### tuples -/
def eqL (f : EQf) : List IV → List IV → Option Bool
  | x :: xs, y :: ys => match f x y, eqL f xs ys with
    | some a, some b => some (a && b)
    | _, _ => none
  | [], [] => some true
  | _, _ => some false
def tupQ (f : EQf) : EQf := fun x y => match x, y with
  | .tup xs, .tup ys => eqL f xs ys
  | _, _ => none
/-- the i-th answer -/
def ansQ (f : EQf) (xs ys : List IV) (i : Nat) : Bool := match xs[i]?, ys[i]? with
  | some x, some y => (f x y).getD false
  | _, _ => false
theorem eqL_ans {f : EQf} : ∀ {xs ys : List IV} {b : Bool}, eqL f xs ys = some b → (∀ (i : Nat) x y, xs[i]? = some x → ys[i]? = some y → f x y = some (ansQ f xs ys i)) ∧ b = ((List.range (min xs.length ys.length)).all (ansQ f xs ys) && xs.length == ys.length)
  | [], [], b, h => by cases h; exact ⟨fun i x y e => by simp at e, rfl⟩
  | [], y :: ys, b, h => by cases h; exact ⟨fun i x y e => by simp at e, by simp⟩
  | x :: xs, [], b, h => by cases h; exact ⟨fun i x y _ e => by simp at e, by simp⟩
  | x :: xs, y :: ys, b, h => by
    simp only [eqL] at h
    split at h
    · rename_i a b' h1 h2
      cases h
      obtain ⟨g1, g2⟩ := eqL_ans h2
      have e0 : ansQ f (x :: xs) (y :: ys) 0 = a := by simp [ansQ, h1]
      have es : ∀ i, ansQ f (x :: xs) (y :: ys) (i + 1) = ansQ f xs ys i := fun i => by simp [ansQ]
      refine ⟨fun i x' y' e1 e2 => ?_, ?_⟩
      · cases i with
        | zero =>
          simp at e1 e2
          subst e1; subst e2
          rw [e0]; exact h1
        | succ i =>
          rw [es]
          exact g1 i x' y' (by simpa using e1) (by simpa using e2)
      · have em : min (x :: xs).length (y :: ys).length = min xs.length ys.length + 1 := by simp [Nat.succ_min_succ]
        have el : ((x :: xs).length == (y :: ys).length) = (xs.length == ys.length) := by simp
        have hmap : ((List.range (min xs.length ys.length)).map Nat.succ).all (ansQ f (x :: xs) (y :: ys)) = (List.range (min xs.length ys.length)).all (ansQ f xs ys) := by
          rw [List.all_map]
          congr 1
        rw [em, el, List.range_succ_eq_map, List.all_cons, e0, hmap, g2, Bool.and_assoc]
    · cases h
theorem rcM_tup (hK : X.K = G.K) {f : EQf} (h : EqM X G n f) : RcM X G .Eq (n + 1) (tupQ f) := by
  intro A pins s σ H F x y u v dx dy b sb I rx ry ft hx hy e
  unfold tupQ at e
  split at e
  · rename_i xs ys
    obtain ⟨g1, g2⟩ := eqL_ans e
    cases hx with
    | @tup p vs _ hq a z =>
      cases hy with
      | @tup q ws _ hq2 a2 z2 =>
        cases rx
        cases ry
        rw [← hK] at hq hq2
        obtain ⟨its, r, t1, _⟩ := I.tuple hq
        obtain ⟨its2, r2, t2, _⟩ := I.tuple hq2
        have l1 : its.length = xs.length := by rw [← r.length, a.len]
        have l2 : its2.length = ys.length := by rw [← r2.length, a2.len]
        refine rc_tupM sb.room.units0 (ansQ f xs ys) (fun _ t => Aft X pins σ H F t) t1 t2 (fun i h1 h2 t J => ?_) (fun i t J => ⟨by rw [List.size_toArray, List.size_toArray, l1, l2, g2], J⟩) ⟨H, F, I, Fr.refl _ _, ft⟩
        obtain ⟨H1, F1, I1, fr1, ft1⟩ := J
        have k1 : i < its.length := by simpa using h1
        have k2 : i < its2.length := by simpa using h2
        have x1 : i < xs.length := by omega
        have x2 : i < ys.length := by omega
        obtain ⟨v1, b1, b2⟩ := a.get (List.getElem?_eq_getElem x1)
        obtain ⟨v2, b3, b4⟩ := a2.get (List.getElem?_eq_getElem x2)
        obtain ⟨u1, c1, c2⟩ := r.get b1
        obtain ⟨u2, c3, c4⟩ := r2.get b3
        have d1 : its.toArray[i] = u1 := by rw [List.getElem?_eq_getElem k1] at c1; simpa using c1
        have d2 : its2.toArray[i] = u2 := by rw [List.getElem?_eq_getElem k2] at c3; simpa using c3
        rw [d1, d2]
        refine wpAny_mono (h A.in1 pins t σ H1 F1 v1 v2 u1 u2 _ _ _ sb.in1 I1 c2 c4 ft1 (b2.mono fr1.stq) (b4.mono fr1.stq) (g1 i _ _ (List.getElem?_eq_getElem x1) (List.getElem?_eq_getElem x2))) (fun r t' q => ?_) fun _ _ z => z
        obtain ⟨q1, H2, F2, I2, fr2, ft2⟩ := q
        exact ⟨q1, H2, F2, I2, fr1.trans fr2, ft2⟩
  · cases e
/-! ### instances -/
def insQ (c : String) (fn : Fn) : EQf := fun x y => match x, y with
  | .ins c1 f1, .ins c2 f2 => if c1 = c ∧ c2 = c then (match fn [.ins c1 f1, .ins c2 f2] with
    | .ok (.bl b) [] => some b
    | _ => none) else none
  | _, _ => none
def insN (c : String) (fn : Fn) : EQf := fun x y => (insQ c fn x y).map (!·)
/-- an own == keeps its promise -/
structure EqF (X : Cx) (G : Gx) (n : Nat) (c : String) (fn : Fn) (f : Addr) (fd : FuncData) (ps : List Str) : Prop where
  ok : FnOk X.prog X.w X.K X.mg X.base (L2.CX X.prog X.w) n f fd ps (spOf G [false, false] fn)
  eq : PySem.W.findIn X.K (.ref (G.cls c)) "__eq__" = some (some (.ref f))
  fn_ : PySem.W.isFn X.K (.ref f) = true
  bi : Binds X.K fd ps []
theorem insQ_inv {c : String} {fn : Fn} {x y : IV} {b : Bool} (h : insQ c fn x y = some b) : ∃ f1 f2, x = .ins c f1 ∧ y = .ins c f2 ∧ fn [.ins c f1, .ins c f2] = .ok (.bl b) [] := by
  unfold insQ at h
  split at h
  · split at h
    · rename_i hc
      obtain ⟨rfl, rfl⟩ := hc
      split at h
      · rename_i b' hb; cases h; exact ⟨_, _, rfl, rfl, hb⟩
      · cases h
    · cases h
  · cases h
theorem ins_sp {c : String} {fn : Fn} {f1 f2 : List (Str × IV)} {b : Bool} {x y : V} (ft : ∀ a, F a → H a ≠ none) (hx : Fz G F H x (.ins c f1)) (hy : Fz G F H y (.ins c f2)) (hf : fn [.ins c f1, .ins c f2] = .ok (.bl b) []) {Q : VK}
    (hQ : ∀ H' F', Fr H F H' F' → (∀ a, F' a → H' a ≠ none) → Q (.bl b) H') (E : XK) : spOf G [false, false] fn [x, y] H Q E := by
  refine ⟨rfl, [.ins c f1, .ins c f2], F, fun _ _ => False, rfl, ?_, ?_⟩
  · refine ⟨fun j d z => ?_, fun j d z => ?_, fun _ _ _ h => h.elim, fun _ _ h => h.elim, fun _ _ h => h.elim, fun _ _ _ h => h.elim, ft, rfl⟩
    · cases j with
      | zero => cases z; exact ⟨x, rfl, hx⟩
      | succ j => cases j with
        | zero => cases z; exact ⟨y, rfl, hy⟩
        | succ j => simp [envOf] at z
    · cases j with
      | zero => cases z
      | succ j => cases j with
        | zero => cases z
        | succ j => simp [envOf] at z
  · rw [hf]
    intro v H' F' fp' s e r
    cases r.bl_inv
    exact hQ H' F' ⟨fun a o h => s.keep a o h fun ⟨_, z⟩ => z, s.frm, fun a f => (s.fnew a f).elim Or.inl fun z => z.elim (fun ⟨_, z⟩ => z.elim) fun z => Or.inr ⟨z, e.ft a f⟩⟩ e.ft
theorem ins_run {c : String} {fn : Fn} {f : Addr} {fd : FuncData} {ps : List Str} (h : EqF X G n c fn f fd ps) {A : Around} {pins : List (Addr × Obj)} {s : Shared} {x y : V} {u v : Value} {f1 f2 : List (Str × IV)} {b : Bool} (sb : Sub X n A) (I : Inv X pins σ H s) (rx : RelV x u) (ry : RelV y v)
    (ft : ∀ a, F a → H a ≠ none) (hx : Fz G F H x (.ins c f1)) (hy : Fz G F H y (.ins c f2)) (hf : fn [.ins c f1, .ins c f2] = .ok (.bl b) []) :
    wpAny (model X.prog X.w) A (call (.ref f) [u, v]) (fun r s' => r = .bool b ∧ Aft X pins σ H F s') X.xe s := by
  have hsp := ins_sp ft hx hy hf (Q := fun v H' => v = .bl b ∧ ∃ F', Fr H F H' F' ∧ ∀ a, F' a → H' a ≠ none) (fun H' F' fr ft' => ⟨rfl, F', fr, ft'⟩) (fun _ _ _ => False)
  have e0 : Env0 X.prog X.w X.K X.mg X.base A X.stack s H := by
    have e := I.env0
    exact ⟨by rw [sb.fr]; exact e.frames, e.mod, e.bs, e.bsz, e.funs, e.frf, e.hok, e.bare⟩
  have hl := h.ok.len _ _ _ _ hsp
  have r2 : Vals [x, y] [u, v] := .cons rx (.cons ry .nil)
  have hb := h.bi s [u, v] I.kIn (by rw [List.append_nil, r2.length.symm]; exact hl)
  rw [List.append_nil] at hb
  refine wpAny_call (codeAny_mono (h.ok.run A X.stack s H ⟨[u, v], []⟩ [u, v] [x, y] _ (fun _ _ _ => False) sb.room e0 hb r2 hsp) fun r s' hq => ?_)
  cases r with
  | error e => obtain ⟨_, _, _, _, _, _, _, _, _, _, _, _, hE⟩ := hq; exact hE.elim
  | ok fl => cases fl with
    | ret w =>
      obtain ⟨z, H', I', rz, ez, F', fr, ft'⟩ := I.after hq
      subst ez
      cases rz
      exact ⟨rfl, H', F', I', fr, ft'⟩
    | next => exact hq.elim
    | brk => exact hq.elim
    | cont => exact hq.elim
theorem rcM_ins {c : String} {fn : Fn} {f : Addr} {fd : FuncData} {ps : List Str} (h : EqF X G n c fn f fd ps) : RcM X G .Eq n (insQ c fn) := by
  intro A pins s σ H F x y u v dx dy b sb I rx ry ft hx hy e
  obtain ⟨f1, f2, rfl, rfl, hf⟩ := insQ_inv e
  have hrun := ins_run h sb I rx ry ft hx hy hf
  cases hx with
  | @ins p dxx _ vs _ fx hp a =>
    cases hy with
    | @ins q dyy _ ws _ fy hq a2 =>
      cases rx
      cases ry
      obtain ⟨mA, J, _⟩ := ins_get I.hok hp
      obtain ⟨mB, J2, _⟩ := ins_get I.hok hq
      obtain ⟨od, J, _⟩ := J.look
      obtain ⟨od2, J2, _⟩ := J2.look
      obtain ⟨mm, hF⟩ := I.fr
      refine PySem.W.cmp_K (op := .Eq) (tb := .ref (G.cls c)) sb.room.units0 hF I.ok.mod.kin J J2.type (by simp [PySem.W.notFirst]) h.eq h.fn_ ?_
      refine wpAny_mono hrun (fun r s' q => ?_) fun _ _ z => z
      obtain ⟨rfl, q⟩ := q
      exact ⟨rfl, q⟩
theorem rcM_insN {c : String} {fn : Fn} {f : Addr} {fd : FuncData} {ps : List Str} (h : EqF X G n c fn f fd ps) (hm : PySem.W.mroIn X.K (G.cls c) (.type "object") = some true) (hs : PySem.W.findIn X.K (.ref (G.cls c)) "__ne__" = some (some (.builtin "object.__ne__"))) : RcM X G .NotEq (n + 1) (insN c fn) := by
  intro A pins s σ H F x y u v dx dy b sb I rx ry ft hx hy e
  obtain ⟨b', e', rfl⟩ := Option.map_eq_some_iff.mp e
  obtain ⟨f1, f2, rfl, rfl, hf⟩ := insQ_inv e'
  have hrun := ins_run h sb.in1 I rx ry ft hx hy hf
  cases hx with
  | @ins p dxx _ vs _ fx hp a =>
    cases hy with
    | @ins q dyy _ ws _ fy hq a2 =>
      cases rx
      cases ry
      obtain ⟨mA, J, _⟩ := ins_get I.hok hp
      obtain ⟨mB, J2, _⟩ := ins_get I.hok hq
      obtain ⟨od, J, _⟩ := J.look
      obtain ⟨od2, J2, _⟩ := J2.look
      refine rc_ne (by have := sb.room.units; omega) I.kIn J hm hs h.eq h.fn_ J2.type (wpAny_mono hrun (fun r s' q => ?_) fun _ _ z => z)
      obtain ⟨rfl, q⟩ := q
      exact ⟨b', rfl, rfl, q⟩
/-! ### the same object -/
mutual
def same : IV → IV → Bool
  | .non, .non => true
  | .bl a, .bl b => a == b
  | .int a, .int b => a == b
  | .str a, .str b => a == b
  | .tup a, .tup b => sameA a b
  | .lst a, .lst b => sameA a b
  | .ins c f, .ins c' f' => c == c' && sameP f f'
  | _, _ => false
def sameA : List IV → List IV → Bool
  | [], [] => true
  | x :: xs, y :: ys => same x y && sameA xs ys
  | _, _ => false
def sameP : List (Str × IV) → List (Str × IV) → Bool
  | [], [] => true
  | (k, x) :: xs, (k', y) :: ys => k == k' && same x y && sameP xs ys
  | _, _ => false
end
mutual
theorem same_rfl : ∀ (d : IV), cmpb cs d = true → same d d = true
  | .non, _ => rfl
  | .bl b, _ => by simp [same]
  | .int b, _ => by simp [same]
  | .str b, _ => by simp [same]
  | .ty b, h => by simp [cmpb] at h
  | .cl b, h => by simp [cmpb] at h
  | .scr b, h => by simp [cmpb] at h
  | .dic b, h => by simp [cmpb] at h
  | .drw _ _ _ _, h => by simp [cmpb] at h
  | .tup xs, h => by simp only [same]; exact sameA_rfl xs (by simpa only [cmpb] using h)
  | .lst xs, h => by simp only [same]; exact sameA_rfl xs (by simpa only [cmpb] using h)
  | .ins c f, h => by
    simp only [cmpb, Bool.and_eq_true] at h
    simp only [same, beq_self_eq_true, Bool.true_and]
    exact sameP_rfl f h.2
theorem sameA_rfl : ∀ (d : List IV), cmpbA cs d = true → sameA d d = true
  | [], _ => rfl
  | x :: xs, h => by
    simp only [cmpbA, Bool.and_eq_true] at h
    simp only [sameA, Bool.and_eq_true]
    exact ⟨same_rfl x h.1, sameA_rfl xs h.2⟩
theorem sameP_rfl : ∀ (d : List (Str × IV)), cmpbP cs d = true → sameP d d = true
  | [], _ => rfl
  | (k, x) :: xs, h => by
    simp only [cmpbP, Bool.and_eq_true] at h
    simp only [sameP, beq_self_eq_true, Bool.true_and, Bool.and_eq_true]
    exact ⟨same_rfl x h.1, sameP_rfl xs h.2⟩
end
/-- inside a container: the same object is equal to itself -/
def rfQ (cs : List String) (f : EQf) : EQf := fun x y => if (cmpb cs x && cmpb cs y && isRf x && isRf y) = true then (match f x y with
  | some b => if (b || !same x y) = true then some b else none
  | none => none) else none
where isRf : IV → Bool
  | .tup _ => true
  | .lst _ => true
  | .ins _ _ => true
  | _ => false
theorem Fz.rf {v : V} {d : IV} (h : Fz G F H v d) (r : rfQ.isRf d = true) : ∃ a, v = .ref a := by
  cases h <;> first | exact ⟨_, rfl⟩ | cases r
theorem RcM.eqM (hK : X.K = G.K) (k : KC G cs) {f : EQf} (h : RcM X G .Eq n f) : EqM X G n (rfQ cs f) := by
  intro A pins s σ H F x y u v dx dy b sb I rx ry ft hx hy e
  unfold rfQ at e
  split at e
  · rename_i hc
    simp only [Bool.and_eq_true] at hc
    obtain ⟨⟨⟨c1, c2⟩, c3⟩, c4⟩ := hc
    split at e
    · rename_i b' hf
      split at e
      · rename_i hb
        cases e
        obtain ⟨a, rfl⟩ := hx.rf c3
        obtain ⟨a2, rfl⟩ := hy.rf c4
        cases rx
        cases ry
        by_cases hab : a = a2
        · subst hab
          have ed := Fz.inj I hK k hx hy c1 c2
          subst ed
          rw [same_rfl dx c1] at hb
          simp at hb
          subst hb
          exact SeqAt.EqAt.same (A := A) (s := s) (.ref a) X.prog X.w X.xe _ ⟨rfl, H, F, I, Fr.refl _ _, ft⟩
        · refine GQ.eqBool_refG hab (wpAny_mono (h A pins s σ H F (.ref a) (.ref a2) _ _ dx dy b sb I rfl rfl ft hx hy hf) (fun r s' q => ?_) fun _ _ z => z)
          exact ⟨b, q.1, rfl, q.2⟩
      · cases e
    · cases e
  · cases e
/-! ### as operators -/
def rM (G : Gx) (f : EQf) : R2 := fun x y H Q => ∃ F dx dy b, (∀ a, F a → H a ≠ none) ∧ Fz G F H x dx ∧ Fz G F H y dy ∧ f dx dy = some b ∧ ∀ H' F', Fr H F H' F' → Q (.bl b) H'
theorem RcM.op {f : EQf} {op : CmpOp} (h : RcM X G op n f) (hr : Room n X.A) (ho : compareOp op = richCompare op) : OpR X (compareOp op) (rM G f) := by
  intro pins s σ H x y v u Q I rx ry hq
  obtain ⟨F, dx, dy, b, ft, hx, hy, e, q⟩ := hq
  rw [ho]
  refine wpAny_mono (h X.A pins s σ H F x y v u dx dy b ⟨hr, rfl⟩ I rx ry ft hx hy e) (fun r s' z => ?_) fun _ _ z => z
  obtain ⟨rfl, H', F', I', fr, _⟩ := z
  exact ⟨.bl b, H', I', rfl, q H' F' fr⟩
def oM (f : EQf) (x y : IV) : Option IV := (f x y).map IV.bl
theorem q_M {f : EQf} {A B : E} : ∀ σ H Q, teOf G W (iBin (oM f) A B) σ H Q → tOp (rM G f) (teOf G W A) (teOf G W B) σ H Q := by
  rintro σ H Q ⟨ρ, F, fp, e, h⟩
  refine oc_bind e h fun x dx ρ1 H1 F1 fp1 s1 e1 r1 h1 => ?_
  refine oc_bind e1 h1 fun y dy ρ2 H2 F2 fp2 s2 e2 r2 h2 => ?_
  have r1' : Fz G F2 H2 x dx := Fz.mono (e1.stq s2) r1
  cases hf : oM f dx dy with
  | none => rw [hf] at h2; exact h2.elim
  | some d =>
    rw [hf] at h2
    obtain ⟨b, e3, rfl⟩ := Option.map_eq_some_iff.mp hf
    exact ⟨F2, dx, dy, b, e2.ft, r1', r2, e3, fun H' F' fr => oc_ok h2 e2 fr (.bl b)⟩
theorem q_MT {f : EQf} {A B : E} : ∀ σ H Q, ttOf G W (iCmp (oM f) A B) σ H Q → tTest (tOp (rM G f) (teOf G W A) (teOf G W B)) σ H Q := by
  rintro σ H Q ⟨ρ, F, fp, e, h⟩
  refine oc_bind e h fun x dx ρ1 H1 F1 fp1 s1 e1 r1 h1 => ?_
  refine oc_bind e1 h1 fun y dy ρ2 H2 F2 fp2 s2 e2 r2 h2 => ?_
  have r1' : Fz G F2 H2 x dx := Fz.mono (e1.stq s2) r1
  cases hf : f dx dy with
  | none => simp only [oM, hf, Option.map] at h2; exact h2.elim
  | some b =>
    simp only [oM, hf, Option.map] at h2
    exact ⟨F2, dx, dy, b, e2.ft, r1', r2, hf, fun H' F' fr => ⟨b, rfl, h2 b H' F' fp2 (fr.stp _) (e2.fr fr) rfl⟩⟩
theorem m_M {op : CmpOp} {f : EQf} {a b : Expr} {A B : E} {pos : Pos} (ho : OpR X (compareOp op) (rM G f)) (ha : PE X a (teOf G W A)) (hb : PE X b (teOf G W B)) (hm : behindInMarks op b = false := by first | exact nobehind _ (by decide) (by decide) | rfl) :
    PE X (.Compare a [op] [b] pos) (teOf G W (iBin (oM f) A B)) := PE.imp (pe_cmpR ho ha hb hm) q_M
theorem n_M {op : CmpOp} {f : EQf} {a b : Expr} {A B : E} {pos : Pos} (ho : OpR X (compareOp op) (rM G f)) (ha : PE X a (teOf G W A)) (hb : PE X b (teOf G W B)) (hm : behindInMarks op b = false := by first | exact nobehind _ (by decide) (by decide) | rfl) :
    PT X (.Compare a [op] [b] pos) (ttOf G W (iCmp (oM f) A B)) := PT.imp (pt_cmpR ho ha hb hm) q_MT
end
end MR
set_option maxRecDepth 100000
set_option maxHeartbeats 4000000
/-! MirR: the draw: reads, stores, pop, its begin. -/
namespace MR
open PySem L2 PyProof.Rows
section
variable {X : Cx} {G : Gx} {W : WX} {σ : L2.St} {H : Hp} {F : AP1} {fp : FPt} {ρ : Env} {cs : List String} {pin : List Nat}
abbrev drKV (l c : Addr) (rest turn : Int) : List (Key × V) := [(.inr "large", .ref l), (.inr "rest", .int rest), (.inr "cells", .ref c), (.inr "turn", .int turn)]
theorem dr_large {l c : Addr} {r t : Int} : valV (drKV l c r t) (.inr "large") = some (.ref l) := rfl
theorem dr_rest {l c : Addr} {r t : Int} : valV (drKV l c r t) (.inr "rest") = some (.int r) := rfl
theorem dr_cells {l c : Addr} {r t : Int} : valV (drKV l c r t) (.inr "cells") = some (.ref c) := rfl
theorem dr_turn {l c : Addr} {r t : Int} : valV (drKV l c r t) (.inr "turn") = some (.int t) := rfl
theorem dr_putR {l c : Addr} {r t v : Int} : L2.putK (drKV l c r t) (.inr "rest") (.int v) = drKV l c v t := rfl
theorem dr_putT {l c : Addr} {r t v : Int} : L2.putK (drKV l c r t) (.inr "turn") (.int v) = drKV l c r v := rfl
def iDrRest (i : Nat) : E := fun ρ => match ρ[i]? with
  | some (.ow (.drw lg cl rest turn)) => .ok (.int rest) ρ
  | _ => .no
def iDrTurn (i : Nat) : E := fun ρ => match ρ[i]? with
  | some (.ow (.drw lg cl rest turn)) => .ok (.int turn) ρ
  | _ => .no
def iDrCells (i : Nat) : E := fun ρ => match ρ[i]? with
  | some (.ow (.drw lg cl rest turn)) => .ok (.lst (cl.map .int)) ρ
  | _ => .no
/-- the entry of a key, by HandS's reading -/
theorem dr_ix (hu : X.A.units + 1 < cLine) (i : Nat) {x key : Str} {j : Nat} {npos kpos pos : Pos} (hN : X.N[i]? = some x) (hv : Vis X.env.scope x) (hd : (x == ("__debug__" : Str)) = false) (hcd : (x == ("__classdict__" : Str)) = false) :
    PE X (.Subscript (.Name x npos) (.Constant (.str key) j kpos) pos) (tOp rDg (tVar i) (tC (.str key))) := pe_ix (ix_dg hu) (pe_var hN hv hd hcd) pe_str (fun _ _ => rfl)
section
variable (o : Ok X G W) (i : Nat) {x : Str} {j : Nat} {npos kpos pos : Pos} (hN : X.N[i]? = some x := by rfl) (hv : Vis X.env.scope x := by first | exact Or.inl rfl | exact Or.inr (Or.inl rfl) | exact Or.inr (Or.inr rfl))
  (hd : (x == ("__debug__" : Str)) = false := by decide) (hcd : (x == ("__classdict__" : Str)) = false := by decide)
include o hN hv hd hcd
theorem m_drRest : PE X (.Subscript (.Name x npos) (.Constant (.str "rest") j kpos) pos) (teOf G W (iDrRest i)) := PE.imp (dr_ix (by have := o.hu; omega) i hN hv hd hcd) fun σ H Q ⟨ρ, F, fp, en, h⟩ => by
  unfold iDrRest at h
  split at h
  · rename_i hd
    obtain ⟨v, e1, e2⟩ := en.ow i _ hd
    refine ⟨v, e1, ?_⟩
    cases e2 with
    | drw h1 h2 f h3 n1 z1 z2 e => exact ⟨_, _, rfl, (by have g := DGet.k (k := .inr "rest") h1; exact g), oc_ok h en (Fr.refl _ _) (.int _)⟩
  · exact h.elim
theorem m_drTurn : PE X (.Subscript (.Name x npos) (.Constant (.str "turn") j kpos) pos) (teOf G W (iDrTurn i)) := PE.imp (dr_ix (by have := o.hu; omega) i hN hv hd hcd) fun σ H Q ⟨ρ, F, fp, en, h⟩ => by
  unfold iDrTurn at h
  split at h
  · rename_i hd
    obtain ⟨v, e1, e2⟩ := en.ow i _ hd
    refine ⟨v, e1, ?_⟩
    cases e2 with
    | drw h1 h2 f h3 n1 z1 z2 e => exact ⟨_, _, rfl, (by have g := DGet.k (k := .inr "turn") h1; exact g), oc_ok h en (Fr.refl _ _) (.int _)⟩
  · exact h.elim
theorem m_drCells : PE X (.Subscript (.Name x npos) (.Constant (.str "cells") j kpos) pos) (teOf G W (iDrCells i)) := PE.imp (dr_ix (by have := o.hu; omega) i hN hv hd hcd) fun σ H Q ⟨ρ, F, fp, en, h⟩ => by
  unfold iDrCells at h
  split at h
  · rename_i hd
    obtain ⟨v, e1, e2⟩ := en.ow i _ hd
    refine ⟨v, e1, ?_⟩
    cases e2 with
    | drw h1 h2 f h3 n1 z1 z2 e => exact ⟨_, _, rfl, (by have g := DGet.k (k := .inr "cells") h1; exact g), oc_ok h en (Fr.refl _ _) (.lst f h3 (fz_ints _) (by rw [List.length_map]; exact z2))⟩
  · exact h.elim
end
/-! stores -/
def sDrRest (i : Nat) (m : E) : S := fun ρ => if isOw ρ[i]? = true then (m ρ).bindS fun d ρ1 => match d, ρ1[i]? with
  | .int v, some (.ow (.drw lg cl rest turn)) => .nx (ρ1.set i (.ow (.drw lg cl v turn)))
  | _, _ => .no else .no
def sDrTurn (i : Nat) (m : E) : S := fun ρ => if isOw ρ[i]? = true then (m ρ).bindS fun d ρ1 => match d, ρ1[i]? with
  | .int v, some (.ow (.drw lg cl rest turn)) => .nx (ρ1.set i (.ow (.drw lg cl rest v)))
  | _, _ => .no else .no
section
variable (o : Ok X G W) (i : Nat) {x : Str} {j : Nat} {e : Expr} {m : E} {npos kpos pos' pos : Pos} (he : PE X e (teOf G W m)) (hN : X.N[i]? = some x := by rfl)
  (hv : Vis X.env.scope x := by first | exact Or.inl rfl | exact Or.inr (Or.inl rfl) | exact Or.inr (Or.inr rfl))
  (hd : (x == ("__debug__" : Str)) = false := by decide) (hcd : (x == ("__classdict__" : Str)) = false := by decide)
include o he hN hv hd hcd
theorem s_drRest 
    (ha : ∀ v, assign (.Subscript (.Name x npos) (.Constant (.str "rest") j kpos) pos') X.env v = (do
      let ov ← holding [v] (eval (.Name x npos) X.env)
      let iv ← holding [v, ov] (eval (.Constant (.str "rest") j kpos) X.env)
      standAt pos'
      holding [v, ov, iv] (setItem ov iv v)
      release [v, ov, iv] []) := by intro _; rfl)
    (hs : swapsWithSole [.Subscript (.Name x npos) (.Constant (.str "rest") j kpos) pos'] e pos.line X.env = pure false := by rfl) (hw : swappedStores [.Subscript (.Name x npos) (.Constant (.str "rest") j kpos) pos'] e X.env = pure none := by rfl)
    (h1 : (assignEach [.Subscript (.Name x npos) (.Constant (.str "rest") j kpos) pos'] X.env).map (·.2) = [assign (.Subscript (.Name x npos) (.Constant (.str "rest") j kpos) pos') X.env] := by rfl) :
    PS X (.Assign [.Subscript (.Name x npos) (.Constant (.str "rest") j kpos) pos'] e pos) (tsOf G W pin (sDrRest i m)) :=
  PS.imp (ps_asg he (pg_sub (pe_var hN hv hd hcd) pe_str (set_dict (by have := o.hu; omega)) ha) hs hw h1) fun D σ H ⟨ρ, F, fp, en, h⟩ => by
    unfold sDrRest at h
    split at h
    · refine ocS_bind en h fun y d ρ1 H1 F1 fp1 s1 e1 r1 h1 => ?_
      split at h1
      · rename_i v lg cl rest turn hd
        cases r1.int_inv
        obtain ⟨u, g1, g2⟩ := e1.ow i _ hd
        refine ⟨u, g1, ?_⟩
        cases g2 with
        | @drw p l c _ _ _ _ _ k1 k2 f k3 n1 z1 z2 q =>
          have hq := (q p).mpr (Or.inl rfl)
          refine ⟨p, _, rfl, (DPut.k (k := .inr "rest") k1 (by rw [sizeLine_eq]; show 4 < 16777216; decide)), ?_⟩
          rw [dr_putR]
          have nl : l ≠ p := Ne.symm n1
          have nc : c ≠ p := fun z => e1.nf i p hq (by rw [← z]; exact f)
          exact h1 σ _ F1 fp1 (Stp.put hq) (e1.put hq g1 (fun z => z) (.drw upd_same (by rw [upd_ne nl]; exact k2) f (by rw [upd_ne nc]; exact k3) n1 z1 z2 q)) (Pn.refl _ _)
      · exact h1.elim
    · exact h.elim
theorem s_drTurn 
    (ha : ∀ v, assign (.Subscript (.Name x npos) (.Constant (.str "turn") j kpos) pos') X.env v = (do
      let ov ← holding [v] (eval (.Name x npos) X.env)
      let iv ← holding [v, ov] (eval (.Constant (.str "turn") j kpos) X.env)
      standAt pos'
      holding [v, ov, iv] (setItem ov iv v)
      release [v, ov, iv] []) := by intro _; rfl)
    (hs : swapsWithSole [.Subscript (.Name x npos) (.Constant (.str "turn") j kpos) pos'] e pos.line X.env = pure false := by rfl) (hw : swappedStores [.Subscript (.Name x npos) (.Constant (.str "turn") j kpos) pos'] e X.env = pure none := by rfl)
    (h1 : (assignEach [.Subscript (.Name x npos) (.Constant (.str "turn") j kpos) pos'] X.env).map (·.2) = [assign (.Subscript (.Name x npos) (.Constant (.str "turn") j kpos) pos') X.env] := by rfl) :
    PS X (.Assign [.Subscript (.Name x npos) (.Constant (.str "turn") j kpos) pos'] e pos) (tsOf G W pin (sDrTurn i m)) :=
  PS.imp (ps_asg he (pg_sub (pe_var hN hv hd hcd) pe_str (set_dict (by have := o.hu; omega)) ha) hs hw h1) fun D σ H ⟨ρ, F, fp, en, h⟩ => by
    unfold sDrTurn at h
    split at h
    · refine ocS_bind en h fun y d ρ1 H1 F1 fp1 s1 e1 r1 h1 => ?_
      split at h1
      · rename_i v lg cl rest turn hd
        cases r1.int_inv
        obtain ⟨u, g1, g2⟩ := e1.ow i _ hd
        refine ⟨u, g1, ?_⟩
        cases g2 with
        | @drw p l c _ _ _ _ _ k1 k2 f k3 n1 z1 z2 q =>
          have hq := (q p).mpr (Or.inl rfl)
          refine ⟨p, _, rfl, (DPut.k (k := .inr "turn") k1 (by rw [sizeLine_eq]; show 4 < 16777216; decide)), ?_⟩
          rw [dr_putT]
          have nl : l ≠ p := Ne.symm n1
          have nc : c ≠ p := fun z => e1.nf i p hq (by rw [← z]; exact f)
          exact h1 σ _ F1 fp1 (Stp.put hq) (e1.put hq g1 (fun z => z) (.drw upd_same (by rw [upd_ne nl]; exact k2) f (by rw [upd_ne nc]; exact k3) n1 z1 z2 q)) (Pn.refl _ _)
      · exact h1.elim
    · exact h.elim
end
/-! the large ones -/
def iDrLg (i : Nat) : EB := fun ρ => match ρ[i]? with
  | some (.ow (.drw lg cl rest turn)) => .ok (!lg.isEmpty) ρ
  | _ => .no
def iDrPop (i : Nat) : E := fun ρ => match ρ[i]? with
  | some (.ow (.drw (g :: lg) cl rest turn)) => .ok (.int g) (ρ.set i (.ow (.drw lg cl rest turn)))
  | _ => .no
theorem dpA_ints {K : Frag} : ∀ (ns : List Int), DpAll K H (ns.map V.int) (ns.map PyData.int)
  | [] => .nil
  | n :: ns => .cons (.int n) (dpA_ints ns)
theorem layA_ints : ∀ (ns : List Int), PyData.canLayAll0 (ns.map PyData.int) = true
  | [] => rfl
  | n :: ns => by
    rw [List.map_cons]
    simp only [PyData.canLayAll0, Bool.and_eq_true]
    exact ⟨rfl, layA_ints ns⟩
theorem shaped_ints (ns : List Int) : SeqAt.shaped (.list (ns.map PyData.int)) = true := by
  unfold SeqAt.shaped
  rw [Bool.and_eq_true, decide_eq_true_eq]
  refine ⟨layA_ints ns, ?_⟩
  show PyData.depth (.list (ns.map PyData.int)) ≤ 64
  simp only [PyData.depth]
  rw [PySem.W.depth_ints]
  decide
theorem eqv_nil (ns : List Int) : PyData.eqv (.list (ns.map PyData.int)) (.list []) = ns.isEmpty := by
  cases ns with
  | nil => rfl
  | cons n ns => rfl
theorem n_drLg (o : Ok X G W) (i : Nat) {x : Str} {j : Nat} {npos kpos spos lpos pos : Pos} (hN : X.N[i]? = some x := by rfl) (hv : Vis X.env.scope x := by first | exact Or.inl rfl | exact Or.inr (Or.inl rfl) | exact Or.inr (Or.inr rfl))
    (hd : (x == ("__debug__" : Str)) = false := by decide) (hcd : (x == ("__classdict__" : Str)) = false := by decide) :
    PT X (.Compare (.Subscript (.Name x npos) (.Constant (.str "large") j kpos) spos) [.NotEq] [.List [] lpos] pos) (ttOf G W (iDrLg i)) :=
  PT.imp (pt_cmpR (opNe o) (dr_ix (by have := o.hu; omega) i hN hv hd hcd) (pe_lst pa_nil) (by first | exact nobehind _ (by decide) (by decide) | rfl)) fun σ H Q ⟨ρ, F, fp, en, h⟩ => by
    unfold iDrLg at h
    split at h
    · rename_i lg cl rest turn hd
      obtain ⟨v, e1, e2⟩ := en.ow i _ hd
      refine ⟨v, e1, ?_⟩
      cases e2 with
      | @drw p l c _ _ _ _ _ h1 h2 f h3 n1 z1 z2 e =>
        refine ⟨p, .ref l, rfl, (by have g := DGet.k (k := .inr "large") h1; exact g), Nat.zero_le _, fun q hq => ?_⟩
        have fr : Fr H F (upd H q (.lst [])) F := Fr.new hq
        refine ⟨.list (lg.map PyData.int), .list [], .lst (SqL.of (fr.keep _ _ h2)) (dpA_ints lg), .lst (SqL.of upd_same) .nil, shaped_ints lg, rfl, !lg.isEmpty, by rw [eqv_nil], h _ _ F fp (fr.stp _) (en.fr fr) rfl⟩
    · exact h.elim
theorem m_drPop (o : Ok X G W) (i : Nat) {x : Str} {j : Nat} {k0 : Nat} {npos kpos spos zpos apos cpos : Pos} (hN : X.N[i]? = some x := by rfl) (hv : Vis X.env.scope x := by first | exact Or.inl rfl | exact Or.inr (Or.inl rfl) | exact Or.inr (Or.inr rfl))
    (hd : (x == ("__debug__" : Str)) = false := by decide) (hcd : (x == ("__classdict__" : Str)) = false := by decide)
    (hbase : attributeBase (.Subscript (.Name x npos) (.Constant (.str "large") j kpos) spos) "pop" X.env (eval (.Subscript (.Name x npos) (.Constant (.str "large") j kpos) spos) X.env) = eval (.Subscript (.Name x npos) (.Constant (.str "large") j kpos) spos) X.env := by rfl)
    (hfew : ((backTo cpos (starEach [.Constant (.int 0) k0 zpos] X.env)).all (fun x => !x.1) && (backToKw cpos (keywordEach [] X.env)).all (fun x => x.1.isSome)
      && decide (([.Constant (.int 0) k0 zpos] : List Expr).length + ([] : List Keyword).length + (if ([] : List Keyword).isEmpty then 0 else 1) < 30)) = true := by rfl)
    (hline : (apos.endLine == cpos.line) = true := by rfl) (hs1 : starEach [.Constant (.int 0) k0 zpos] X.env = [(false, eval (.Constant (.int 0) k0 zpos) X.env)] := by rfl) :
    PE X (.Call (.Attribute (.Subscript (.Name x npos) (.Constant (.str "large") j kpos) spos) "pop" apos) [.Constant (.int 0) k0 zpos] [] cpos) (teOf G W (iDrPop i)) := by
  have hm : MtR X "list.pop" rPopAt := mt_popAt
  refine PE.imp (pe_bm PySem.F.plainAttrs_list PySem.F.slot_list_pop PySem.F.type_list_pop hm (dr_ix (by have := o.hu; omega) i hN hv hd hcd) (pa_cons pe_int pa_nil hs1) hbase hfew hline hs1 rfl) ?_
  rintro σ H Q ⟨ρ, F, fp, en, h⟩
  unfold iDrPop at h
  split at h
  · rename_i g lg cl rest turn hd
    obtain ⟨v, e1, e2⟩ := en.ow i _ hd
    refine ⟨v, e1, ?_⟩
    cases e2 with
    | @drw p l c _ _ _ _ _ h1 h2 f h3 n1 z1 z2 e =>
      have hq := (e l).mpr (Or.inr rfl)
      refine ⟨p, .ref l, rfl, (by have g := DGet.k (k := .inr "large") h1; exact g), Or.inl ⟨rfl, _, SqL.of h2⟩, ?_⟩
      refine ⟨l, (g :: lg).map V.int, 0, 0, .int g, rfl, rfl, h2, by decide, by decide, ?_, rfl, ?_⟩
      · unfold seqIndex?
        simp
      · have nc : c ≠ l := fun z => en.nf i l hq (by rw [← z]; exact f)
        exact h (.int g) _ F fp (Stp.put hq) (en.put hq e1 (fun z => z) (.drw (by rw [upd_ne n1]; exact h1) upd_same f (by rw [upd_ne nc]; exact h3) n1 (by rw [List.length_cons] at z1; omega) z2 e)) (.int g)
  · exact h.elim
end
end MR
set_option maxRecDepth 100000
set_option maxHeartbeats 4000000
/-! MirS: name = [..]; the draw's begin. -/
namespace MR
open PySem L2 PyProof.Rows
section
variable {X : Cx} {G : Gx} {W : WX} {σ : L2.St} {H : Hp} {F : AP1} {fp : FPt} {ρ : Env} {cs : List String} {pin : List Nat}
/-! ### name = [e for ..] on one line -/
section
variable (o : Ok X G W) (i : Nat) {y : Str} {py : Pos} {elt tg iter : Expr} {ifs : List Expr} {scope : Scope} {own : List (Str × Nat)} {pos spos : Pos} {M : EL} {t : TM} {l : List Nat} {ts : EB} {el : E} (hN : X.N.Nodup) (hi : PI X tg iter (tiOf G W M)) (ok : BlkOk X.N X.env.scope scope own)
  (hg : ∀ (s : Shared) (H : Hp) (C : Addr) (cl : List (Str × Addr)) (fp : List Addr), PG (X.blk s H scope (compEnvC scope cl C X.env) fp) tg (tgOf G l t)) (ht : ∀ (s : Shared) (H : Hp) (C : Addr) (cl : List (Str × Addr)) (fp : List Addr), PTs (X.blk s H scope (compEnvC scope cl C X.env) fp) ifs (ttOf G W0 ts))
  (he : ∀ (s : Shared) (H : Hp) (C : Addr) (cl : List (Str × Addr)) (fp : List Addr), PE (X.blk s H scope (compEnvC scope cl C X.env) fp) elt (teOf G W0 el)) (hl : ∀ i ∈ l, i ∈ own.map (·.2) := by decide) (hy : X.N[i]? = some y := by rfl) (hyl : X.env.scope.names.lookup y = some .local := by rfl)
  (hp : i ∉ pin := by decide) (hsw : swapsWith (.ListComp elt [⟨tg, iter, ifs, 0⟩] scope pos) (some (.Name y py)) spos.line X.env = pure true := by rfl) (hs : ∀ x, foldedSetIterable iter X.env x = pure x := by intro _; rfl)
include o hN hi ok hg ht he hl hy hyl hp hsw hs
theorem s_setLcO : PS X (.Assign [.Name y py] (.ListComp elt [⟨tg, iter, ifs, 0⟩] scope pos) spos) (tsOf G W pin (sSetO i (iLc M t ts el (own.map (·.2))))) :=
  PS.imp (ps_setLc o.calm hN hy hyl hsw hi ok hg ht he hs) fun D σ H h => q_lc hl _ _ _ (q_setO hp D σ H h)
theorem s_setLc : PS X (.Assign [.Name y py] (.ListComp elt [⟨tg, iter, ifs, 0⟩] scope pos) spos) (tsOf G W pin (sSet i (iLc M t ts el (own.map (·.2))))) :=
  PS.imp (ps_setLc o.calm hN hy hyl hsw hi ok hg ht he hs) fun D σ H h => q_lc hl _ _ _ (q_frz (iLc_fz _ _ _ _ _) _ _ _ (q_set hp D σ H h))
end
/-! ### the draw's begin -/
def aInt (i : Int) : Int := if i < 0 then -i else i
def lgOf (ns : List Int) : List Int := (ns.filter fun g => decide ((10 : Int) ^ 18 ≤ aInt g)).map fun g => aInt g - 10 ^ 18
def spB (G : Gx) : Sp := fun vs H Q _ => vs.length = 1 ∧ ∃ F ns, (∀ a, F a → H a ≠ none) ∧ FzA G F H vs [.scr ns] ∧ ∀ v H' F' q, Fr H F H' F' → Own G F' H' v (.drw (lgOf ns) (ns.map aInt) 0 0) q → New0 H H' F' q → Q v H'
abbrev trsB (G : Gx) (W : WX) (mC : E) : List (TE × TE) := [(tC (.str "large"), tVar 1), (tC (.str "rest"), tC (.int 0)), (tC (.str "cells"), toOf G W mC), (tC (.str "turn"), tC (.int 0))]
theorem own_ints {v : V} {ns : List Int} {q : AP1} (h : Own G F H v (.lst (ns.map IV.int)) q) : ∃ p, v = .ref p ∧ H p = some (.lst (ns.map V.int)) ∧ ns.length ≤ big ∧ ∀ a, q a ↔ a = p := by
  cases h with
  | @lst p vs _ _ hp a z e =>
    have hi : intsOf (ns.map IV.int) = some ns := by
      clear hp a z e
      induction ns with
      | nil => rfl
      | cons n ns ih => simp only [List.map_cons, intsOf, ih, Option.map]
    have ev := a.ints hi
    subst ev
    exact ⟨p, rfl, hp, by rw [List.length_map] at z; exact z, e⟩
theorem q_beg {mL mC : E} {ns : List Int} {vs : List V} {N : List Str} {Q : VK} {E : XK} (hL : mL [.fz (.scr ns), .un, .un] = .ok (.lst ((lgOf ns).map .int)) [.fz (.scr ns), .un, .un])
    (hC : mC [.fz (.scr ns), .ow (.lst ((lgOf ns).map .int)), .un] = .ok (.lst ((ns.map aInt).map .int)) [.fz (.scr ns), .ow (.lst ((lgOf ns).map .int)), .un]) (hN : N.length = 3) (h1 : vs.length = 1) (ft : ∀ a, F a → H a ≠ none) (fa : FzA G F H vs [.scr ns])
    (hQ : ∀ v H' F' q, Fr H F H' F' → Own G F' H' v (.drw (lgOf ns) (ns.map aInt) 0 0) q → New0 H H' F' q → Q v H') :
    tSeq (tsOf G W [] (sSetO 1 mL)) (tRet (tDisp (trsB G W mC))) { nx := fun _ H' => Q .non H', rt := Q } (L2.start N vs) H := by
  have e0 : EnvR G F H (vs.map some) (envOf [false] [.scr ns]) (fun _ _ => False) := by
    refine ⟨fun j d z => ?_, fun j d z => ?_, fun _ _ _ h => h.elim, fun _ _ h => h.elim, fun _ _ h => h.elim, fun _ _ _ h => h.elim, ft, by simp [envOf, h1]⟩
    · cases j with
      | zero =>
        cases z
        cases fa with
        | cons r t => exact ⟨_, rfl, r⟩
      | succ j => simp [envOf] at z
    · cases j with
      | zero => cases z
      | succ j => simp [envOf] at z
  have e1 := e0.start (N := N) h1
  rw [hN] at e1
  refine ⟨_, F, _, e1, ?_⟩
  show OcS G W [] (L2.start N vs) H F (fun _ _ => False) ((mL [.fz (.scr ns), .un, .un]).bindS fun d ρ1 => .nx (ρ1.set 1 (.ow d))) _
  rw [hL]
  intro σ1 H1 F1 fp1 s1 e2 _ p hp
  obtain ⟨u, g1, g2⟩ := e2.ow 1 _ rfl
  refine ⟨u, g1, ?_⟩
  have fr0 : Fr H1 F1 (upd H1 p (.dK [])) F1 := Fr.new hp
  have e3 := e2.fr fr0
  refine ⟨_, F1, fp1, e3, ?_⟩
  show OcO G W σ1 _ F1 fp1 (mC [.fz (.scr ns), .ow (.lst ((lgOf ns).map .int)), .un]) _
  rw [hC]
  intro c H2 F2 fp2 qc s2 e4 oc nc
  obtain ⟨l, rfl, hl, zl, ql⟩ := own_ints g2
  obtain ⟨cc, rfl, hcc, zc, qqc⟩ := own_ints oc
  have nFp : ¬ F1 p := fun f => e2.ft p f hp
  have nPp : ¬ un fp1 p := fun ⟨i, q⟩ => e2.tr i p q hp
  have pk : H2 p = some (.dK []) := s2.keep _ _ upd_same nPp
  obtain ⟨l2, el, hl2, _, ql2⟩ : ∃ l2, V.ref l = .ref l2 ∧ H2 l2 = some (.lst ((lgOf ns).map V.int)) ∧ _ ∧ ∀ a, fp2 1 a ↔ a = l2 := by
    obtain ⟨u2, k1, k2⟩ := e4.ow 1 _ rfl
    obtain ⟨l2, rfl, b1, b2, b3⟩ := own_ints k2
    rw [g1] at k1
    cases k1
    exact ⟨l, rfl, b1, b2, b3⟩
  cases el
  have inl : fp2 1 l := (ql2 l).mpr rfl
  have inc : qc cc := (qqc cc).mpr rfl
  have npl : p ≠ l := fun z => by rw [z] at pk; rw [hl2] at pk; cases pk
  have npc : p ≠ cc := fun z => by
    have := nc.old cc inc
    rw [← z, upd_same] at this
    cases this
  have nlc : l ≠ cc := fun z => nc.np cc inc ⟨1, by rw [← z]; exact inl⟩
  refine ⟨pk, [(.inr "large", .ref l), (.inr "rest", .int 0), (.inr "cells", .ref cc), (.inr "turn", .int 0)], rfl, (by decide : 4 ≤ 15), ?_⟩
  have s3 : Stp H F (un fun _ _ => False) H2 F2 (un fp2) := (s1.trans (fr0.stp _)).trans s2
  have nu : ∀ a, ¬ un (fun (_ : Nat) (_ : Addr) => False) a := fun a ⟨_, z⟩ => z
  have nF2p : ¬ F2 p := fun f => by
    rcases s2.fnew p f with g | g | g
    · exact nFp g
    · exact nPp g
    · rw [upd_same] at g; cases g
  have hpH : H p = none := s1.dom p hp
  have hlH : H l = none := (s3.pnew l ⟨1, inl⟩).elim (fun z => (nu l z).elim) id
  have hcH : H cc = none := s1.dom cc (fr0.dom cc (nc.old cc inc))
  have kp : ∀ a u, a ≠ p → H2 a = some u → upd H2 p (.dK (mergeK [] [(.inr "large", .ref l), (.inr "rest", .int 0), (.inr "cells", .ref cc), (.inr "turn", .int 0)])) a = some u := fun a u h1 h2 => by rw [upd_ne h1]; exact h2
  have dp : ∀ a, upd H2 p (.dK (mergeK [] [(.inr "large", .ref l), (.inr "rest", .int 0), (.inr "cells", .ref cc), (.inr "turn", .int 0)])) a = none → H2 a = none := fun a z => by
    by_cases hq : a = p
    · rw [hq, upd_same] at z; cases z
    · rw [upd_ne hq] at z; exact z
  refine hQ (.ref p) _ (fun a => F2 a ∨ a = cc) (fun a => a = p ∨ a = l) ⟨fun a o z => ?_, fun a f => Or.inl (s3.frm a f), fun a f => ?_⟩ (.drw upd_same ?_ (Or.inr rfl) ?_ npl zl zc fun a => Iff.rfl) ⟨?_, ?_, ?_, ?_⟩
  · exact kp a o (fun q => by rw [q, hpH] at z; cases z) (s3.keep a o z (nu a))
  · rcases f with f | f
    · rcases s3.fnew a f with g | g | g
      · exact Or.inl g
      · exact (nu a g).elim
      · exact Or.inr ⟨g, fun z => e4.ft a f (dp a z)⟩
    · rw [f]
      exact Or.inr ⟨hcH, fun z => by have := dp cc z; rw [hcc] at this; cases this⟩
  · rw [upd_ne (Ne.symm npl)]; exact hl2
  · rw [upd_ne (Ne.symm npc)]; exact hcc
  · rintro a (z | z)
    · rw [z]; exact hpH
    · rw [z]; exact hlH
  · rintro a (z | z) q
    · rw [z, upd_same] at q; cases q
    · rw [z, upd_ne (Ne.symm npl), hl2] at q; cases q
  · rintro a (z | z) (f | f)
    · exact nF2p (by rw [← z]; exact f)
    · exact npc (z.symm.trans f)
    · exact e4.nf 1 l inl (by rw [← z]; exact f)
    · exact nlc (z.symm.trans f)
  · rintro a o (z | z) q
    · rw [z, upd_same] at q; cases q; exact fun z => z
    · rw [z, upd_ne (Ne.symm npl), hl2] at q; cases q; exact fun z => z
/-! what the two comprehensions give -/
def gAbs : E := iCallJ fAbs (jCons (iVar 2) jNil)
def g18 : E := iBin oPow (iC (.int 10)) (iC (.int 18))
def mLarge : E := iLc (iSeq (iVar 0)) (tgN 2) (iCmp oGe gAbs g18) (iBin oSub gAbs g18) [2]
def mCells : E := iLc (iSeq (iVar 0)) (tgN 2) iYes gAbs [2]
theorem ev_abs {x y : Sl} {n : Int} : gAbs [x, y, .fz (.int n)] = .ok (.int (aInt n)) [x, y, .fz (.int n)] := rfl
theorem ev_18 {ρ : Env} : g18 ρ = .ok (.int (10 ^ 18)) ρ := rfl
theorem ev_cells {ns : List Int} {y : Sl} : mCells [.fz (.scr ns), y, .un] = .ok (.lst ((ns.map aInt).map .int)) [.fz (.scr ns), y, .un] := by
  have h : ∀ (ms : List Int), lcLoop (tgN 2) iYes gAbs [2] (ms.map .int) [.fz (.scr ns), y, .un] = .ok ((ms.map aInt).map .int) [.fz (.scr ns), y, .un] := by
    intro ms
    induction ms with
    | nil => rfl
    | cons m ms ih =>
      simp only [List.map_cons, lcLoop, tgN, wipeE, iYes, List.set]
      rw [ev_abs]
      simp only [restE, keepF, List.set]
      show (Rz.bind (lcLoop (tgN 2) iYes gAbs [2] (ms.map .int) [.fz (.scr ns), y, .un]) _) = _
      rw [ih]
      rfl
  show (Rz.bind (lcLoop (tgN 2) iYes gAbs [2] (ns.map .int) [.fz (.scr ns), y, .un]) _) = _
  rw [h ns]
  rfl
theorem ev_large {ns : List Int} {y : Sl} : mLarge [.fz (.scr ns), y, .un] = .ok (.lst ((lgOf ns).map .int)) [.fz (.scr ns), y, .un] := by
  have h : ∀ (ms : List Int), lcLoop (tgN 2) (iCmp oGe gAbs g18) (iBin oSub gAbs g18) [2] (ms.map .int) [.fz (.scr ns), y, .un] = .ok ((lgOf ms).map .int) [.fz (.scr ns), y, .un] := by
    intro ms
    induction ms with
    | nil => rfl
    | cons m ms ih =>
      simp only [List.map_cons, lcLoop, tgN, wipeE, List.set]
      have e1 : iCmp oGe gAbs g18 [.fz (.scr ns), y, .fz (.int m)] = .ok (decide ((10 : Int) ^ 18 ≤ aInt m)) [.fz (.scr ns), y, .fz (.int m)] := rfl
      have e2 : iBin oSub gAbs g18 [.fz (.scr ns), y, .fz (.int m)] = .ok (.int (aInt m - 10 ^ 18)) [.fz (.scr ns), y, .fz (.int m)] := rfl
      rw [e1]
      by_cases hd : (10 : Int) ^ 18 ≤ aInt m
      · rw [decide_eq_true hd]
        dsimp only
        rw [e2]
        simp only [restE, keepF, List.set]
        show (Rz.bind (lcLoop (tgN 2) (iCmp oGe gAbs g18) (iBin oSub gAbs g18) [2] (ms.map .int) [.fz (.scr ns), y, .un]) _) = _
        rw [ih]
        unfold lgOf
        rw [List.filter_cons_of_pos (by simpa using hd)]
        rfl
      · rw [decide_eq_false hd]
        simp only [restE, keepF, List.set]
        show lcLoop (tgN 2) (iCmp oGe gAbs g18) (iBin oSub gAbs g18) [2] (ms.map .int) [.fz (.scr ns), y, .un] = _
        rw [ih]
        unfold lgOf
        rw [List.filter_cons_of_neg (by simpa using hd)]
  show (Rz.bind (lcLoop (tgN 2) (iCmp oGe gAbs g18) (iBin oSub gAbs g18) [2] (ns.map .int) [.fz (.scr ns), y, .un]) _) = _
  rw [h ns]
  rfl
end
section
variable {P : Program} {w : World} {K : Frag} {mg : Str → Option Value} {base : Heap}
/-- THE RULE for the draw's begin -/
theorem beg_ok {x qual : Str} {st : Stmt} {f : Addr} {fd : FuncData} {N ps : List Str} {k : Nat} {G : Gx} (Fu : Fun K x qual st f fd) (S : FnScope N ps (defScope st)) (hps : ps.length = 1) (hN : N.length = 3)
    (hbody : ∀ (cdv : Value) (A : Around) (outer : List PySem.Env) (s : Shared) (H : Hp) (E : XK), Room k (A.deeper (PyProof.Rows.envOfC qual (defScope st) s.heap.objs.size f cdv)) →
      PSs (cxOf (L2.CX P w) P w K mg base N qual (defScope st) f cdv A outer s H E) (defBody st) (tSeq (tsOf G (fun cls d _ H => E cls d H) [] (sSetO 1 mLarge)) (tRet (tDisp (trsB G (fun cls d _ H => E cls d H) mCells))))) : FnOk P w K mg base (L2.CX P w) (k + 1) f fd ps (spB G) :=
  Fu.okX S (fun vs H Q E h => by rw [hps]; exact h.1) fun cdv A outer s H vs Q E hr h => by
    obtain ⟨h1, F, ns, ft, fa, hQ⟩ := h
    exact ⟨_, hbody cdv A outer s H E hr, q_beg (E := E) ev_large ev_cells hN h1 ft fa hQ⟩
end
section
variable {X : Cx} {G : Gx} {W : WX} {σ : L2.St} {H : Hp} {F : AP1} {fp : FPt} {ρ : Env} {pin : List Nat}
def iBeg (A : E) : E := fun ρ => (A ρ).bind fun d ρ1 => match d with
  | .scr ns => .ok (.drw (lgOf ns) (ns.map aInt) 0 0) ρ1
  | _ => .no
theorem o_beg (o : Ok X G W) {k : Nat} {f : Addr} {fd : FuncData} {ps : List Str} {x : Str} {e : Expr} {p pos : Pos} {A : E} (Fo : FnOk X.prog X.w X.K X.mg X.base (L2.CX X.prog X.w) k f fd ps (spB G)) (hr : Room k X.A) (hg : Gl X x) (hm : X.mg x = some (.ref f))
    (hk : PySem.W.keepIn X.K (.ref f) = true) (hb : Binds X.K fd ps []) (ha : PE X e (teOf G W A)) (hdb : (x == ("__debug__" : Str)) = false := by decide)
    (he : starEach [e] X.env = [(false, eval e X.env)] := by rfl) : PE X (.Call (.Name x p) [e] [] pos) (toOf G W (iBeg A)) :=
  PE.imp (pe_callS Fo hr hg hm hk hb (fun σ => passAt o.tk σ) (pa_cons ha pa_nil he) hdb he rfl) fun σ H Q ⟨ρ, F, fp, en, h⟩ => by
    refine ocO_bind en h fun x a ρ1 H1 F1 fp1 s1 e1 r1 h1 => ?_
    cases a with
    | scr ns => exact ⟨rfl, F1, ns, e1.ft, .cons r1 .nil, fun v H' F' q g z n => ocO_ok h1 e1 g z n⟩
    | _ => exact h1.elim
end
end MR
set_option maxRecDepth 100000
set_option maxHeartbeats 4000000
/-! MirT: a, b = e, f; promises made simpler; the draw's steps as plain functions. -/
namespace MR
open PySem L2 PyProof.Rows
section
variable {X : Cx} {G : Gx} {W : WX} {σ : L2.St} {H H1 H2 : Hp} {F F1 F2 : AP1} {fp fp1 fp2 : FPt} {ρ : Env} {cs : List String} {pin : List Nat}
/-! ### two or three names at once -/
theorem New1.step {q : AP1} (n : New1 H H1 F1 fp1 q) (s : Stp H1 F1 (un fp1) H2 F2 (un fp2)) : New1 H H2 F2 fp2 q := by
  refine ⟨n.old, fun a p z => n.tr a p (s.dom a z), fun a p f => ?_, fun a p f => ?_, fun a o p z => ?_⟩
  · rcases s.fnew a f with g | g | g
    · exact n.nf a p g
    · exact n.np a p g
    · exact n.tr a p g
  · rcases s.pnew a f with g | g
    · exact n.np a p g
    · exact n.tr a p g
  · cases hu : H1 a with
    | none => exact (n.tr a p hu).elim
    | some u =>
      rw [s.keep a u hu (n.np a p)] at z
      cases z
      exact n.ni a o p hu
theorem Own.step {q : AP1} {v : V} {d : IV} (r : Own G F1 H1 v d q) (n : New1 H H1 F1 fp1 q) (e : EnvR G F1 H1 σ ρ fp1) (s : Stp H1 F1 (un fp1) H2 F2 (un fp2)) : Own G F2 H2 v d q :=
  r.mono (e.stq s) fun a o h p => s.keep a o h (n.np a p)
/-- a value to be stored: own (true) or for all -/
def slK (k : Bool) (d : IV) : Sl := if k = true then .ow d else .fz d
def tkOf (G : Gx) (W : WX) (k : Bool) (m : E) : TE := if k = true then toOf G W m else teOf G W m
theorem k_o {e : Expr} {m : E} (h : PE X e (toOf G W m)) : PE X e (tkOf G W true m) := h
theorem k_f {e : Expr} {m : E} (h : PE X e (teOf G W m)) : PE X e (tkOf G W false m) := h
/-- what is known of such a value -/
def HasK (G : Gx) (H0 : Hp) (F : AP1) (H : Hp) (fp : FPt) (k : Bool) (v : V) (d : IV) (q : AP1) : Prop := if k = true then Own G F H v d q ∧ New1 H0 H F fp q else Fz G F H v d ∧ ∀ a, ¬ q a
theorem HasK.step {k : Bool} {v : V} {d : IV} {q : AP1} {H0 : Hp} (h : HasK G H0 F1 H1 fp1 k v d q) (e : EnvR G F1 H1 σ ρ fp1) (s : Stp H1 F1 (un fp1) H2 F2 (un fp2)) : HasK G H0 F2 H2 fp2 k v d q := by
  cases k with
  | true => exact ⟨h.1.step h.2 e s, h.2.step s⟩
  | false => exact ⟨h.1.mono (e.stq s), h.2⟩
/-- what evaluating one gives, for what follows (B: where the whole began) -/
theorem ocS_bindK {k : Bool} {m : E} {K : IV → Env → Fl} {P : VK} {D : Ends} {HB : Hp} {FB : AP1} {fpB : FPt} (sb : Stp HB FB (un fpB) H F (un fp)) (e : EnvR G F H σ ρ fp) (h : OcS G W pin σ HB FB fpB ((m ρ).bindS K) D)
    (hk : ∀ x d ρ1 H1 F1 fp1 q, Stp H F (un fp) H1 F1 (un fp1) → EnvR G F1 H1 σ ρ1 fp1 → HasK G H F1 H1 fp1 k x d q → OcS G W pin σ HB FB fpB (K d ρ1) D → P x H1) : tkOf G W k m σ H P := by
  cases k with
  | true =>
    show toOf G W m σ H P
    refine ⟨ρ, F, fp, e, ?_⟩
    cases hm : m ρ with
    | ok d ρ1 =>
      rw [hm] at h
      exact fun v H' F' fp' q t e' r n => hk v d ρ1 H' F' fp' q t e' ⟨r, n⟩ h
    | ex c p ρ' => rw [hm] at h; exact fun d H' F' fp' t e' r => h d σ H' F' fp' (sb.trans t) e' (Pn.refl _ _) r
    | no => rw [hm] at h; exact h
  | false =>
    show teOf G W m σ H P
    refine ⟨ρ, F, fp, e, ?_⟩
    cases hm : m ρ with
    | ok d ρ1 =>
      rw [hm] at h
      exact fun v H' F' fp' t e' r => hk v d ρ1 H' F' fp' (fun _ => False) t e' ⟨r, fun _ z => z⟩ h
    | ex c p ρ' => rw [hm] at h; exact fun d H' F' fp' t e' r => h d σ H' F' fp' (sb.trans t) e' (Pn.refl _ _) r
    | no => rw [hm] at h; exact h
theorem EnvR.setK {k : Bool} {v : V} {d : IV} {q : AP1} {H0 : Hp} {i : Nat} (e : EnvR G F H σ ρ fp) (h : HasK G H0 F H fp k v d q) : EnvR G F H (σ.set i (some v)) (ρ.set i (slK k d)) (fun j => if k = true ∧ j = i then q else fp j) := by
  cases k with
  | true =>
    have := e.setOw (i := i) h.1 h.2
    simpa [slK] using this
  | false =>
    have := e.setFz (i := i) h.1
    simpa [slK] using this
theorem HasK.set {k k' : Bool} {v w : V} {d d' : IV} {q q' : AP1} {H0 H1 : Hp} {i : Nat} (h : HasK G H0 F H fp k v d q) (h' : HasK G H1 F H fp k' w d' q') (ap : ∀ a, q a → q' a → False) : HasK G H1 F H (fun j => if k = true ∧ j = i then q else fp j) k' w d' q' := by
  cases k' with
  | false => exact h'
  | true =>
    refine ⟨h'.1, h'.2.old, h'.2.tr, h'.2.nf, fun a p ⟨j, z⟩ => ?_, h'.2.ni⟩
    have z' : (if k = true ∧ j = i then q else fp j) a := z
    by_cases hj : k = true ∧ j = i
    · rw [if_pos hj] at z'; exact ap a z' p
    · rw [if_neg hj] at z'; exact h'.2.np a p ⟨j, z'⟩
theorem HasK.apart {k k' : Bool} {v w : V} {d d' : IV} {q q' : AP1} {H0 : Hp} (h : HasK G H0 F1 H1 fp1 k v d q) (h' : HasK G H1 F2 H2 fp2 k' w d' q') : ∀ a, q a → q' a → False := fun a p p' => by
  cases k with
  | false => exact h.2 a p
  | true => cases k' with
    | false => exact h'.2 a p'
    | true => exact h.2.tr a p (h'.2.old a p')
theorem Stp.setK {k : Bool} {q : AP1} {i : Nat} {P : AP1} {fp1 : FPt} (s : Stp H F P H1 F1 (un fp1)) (ho : ∀ a, k = true → q a → H a = none) : Stp H F P H1 F1 (un fun j => if k = true ∧ j = i then q else fp1 j) :=
  ⟨s.keep, s.frm, s.fnew, fun a ⟨j, h⟩ => by
    have h' : (if k = true ∧ j = i then q else fp1 j) a := h
    by_cases hj : k = true ∧ j = i
    · rw [if_pos hj] at h'; exact Or.inr (ho a hj.1 h')
    · rw [if_neg hj] at h'; exact s.pnew a ⟨j, h'⟩, s.dom⟩
theorem HasK.old {k : Bool} {v : V} {d : IV} {q : AP1} {H0 : Hp} (h : HasK G H0 F H fp k v d q) : ∀ a, k = true → q a → H0 a = none := fun a e p => by
  subst e; exact h.2.old a p
def sPar2 (i : Nat) (ka : Bool) (A : E) (j : Nat) (kb : Bool) (B : E) : S := fun ρ => (A ρ).bindS fun a ρ1 => (B ρ1).bindS fun b ρ2 => .nx ((ρ2.set i (slK ka a)).set j (slK kb b))
theorem pn_set (i : Nat) (o : Option V) (hp : i ∉ pin) : Pn pin σ (σ.set i o) := (SetOnly.set i σ o).pn fun k m z => hp (by rw [List.mem_singleton] at z; rw [← z]; exact m)
theorem q_par2 {i j : Nat} {ka kb : Bool} {A B : E} (hp : i ∉ pin) (hp' : j ∉ pin) : ∀ D σ H, tsOf G W pin (sPar2 i ka A j kb B) D σ H → tPar i j (tCons (tkOf G W ka A) (tCons (tkOf G W kb B) tNil)) D σ H := by
  rintro D σ H ⟨ρ, F, fp, e, h⟩
  refine ocS_bindK (Stp.refl _ _ _) e h fun x a ρ1 H1 F1 fp1 q1 s1 e1 r1 h1 => ?_
  refine ocS_bindK s1 e1 h1 fun y b ρ2 H2 F2 fp2 q2 s2 e2 r2 h2 => ?_
  refine ⟨x, y, rfl, ?_⟩
  have r1' := r1.step e1 s2
  have e3 := e2.setK (i := i) r1'
  have r2' := r1'.set (i := i) r2 (r1.apart r2)
  have s3 : Stp H F (un fp) H2 F2 (un fun jj => if ka = true ∧ jj = i then q1 else fp2 jj) := (s1.trans s2).setK r1.old
  have s4 : Stp H F (un fp) H2 F2 (un fun jj => if kb = true ∧ jj = j then q2 else if ka = true ∧ jj = i then q1 else fp2 jj) := s3.setK fun a e p => s1.dom a (r2.old a e p)
  exact h2 _ H2 F2 _ s4 (e3.setK (i := j) r2') ((pn_set i _ hp).trans (pn_set j _ hp'))
theorem s_par2 (o : Ok X G W) (i j : Nat) {x y : Str} {a b : Expr} {ka kb : Bool} {A B : E} {px py pt pos : Pos} {kt k2 pt2} (hN : X.N.Nodup) (ha : PE X a (tkOf G W ka A)) (hb : PE X b (tkOf G W kb B)) (hi : X.N[i]? = some x := by rfl) (hj : X.N[j]? = some y := by rfl) (hij : i ≠ j := by decide)
    (hx : X.env.scope.names.lookup x = some .local := by rfl) (hy : X.env.scope.names.lookup y = some .local := by rfl) (hp : i ∉ pin := by decide) (hp' : j ∉ pin := by decide)
    (hw : swappedStores [.Tuple [.Name x px, .Name y py] kt pt] (.Tuple [a, b] k2 pt2) X.env = pure (some [x, y]) := by rfl) (hs : swapsWithSole [.Tuple [.Name x px, .Name y py] kt pt] (.Tuple [a, b] k2 pt2) pos.line X.env = pure false := by rfl)
    (hs1 : starEach [a, b] X.env = (false, eval a X.env) :: starEach [b] X.env := by rfl) (hs2 : starEach [b] X.env = [(false, eval b X.env)] := by rfl) :
    PS X (.Assign [.Tuple [.Name x px, .Name y py] kt pt] (.Tuple [a, b] k2 pt2) pos) (tsOf G W pin (sPar2 i ka A j kb B)) :=
  PS.imp (ps_par o.calm hN hi hj hij hx hy (pa_cons ha (pa_cons hb pa_nil hs2) hs1) hw hs) (q_par2 hp hp')
def sPar3 (i : Nat) (ka : Bool) (A : E) (j : Nat) (kb : Bool) (B : E) (l : Nat) (kc : Bool) (C : E) : S := fun ρ => (A ρ).bindS fun a ρ1 => (B ρ1).bindS fun b ρ2 => (C ρ2).bindS fun c ρ3 => .nx (((ρ3.set i (slK ka a)).set j (slK kb b)).set l (slK kc c))
theorem q_par3 {i j l : Nat} {ka kb kc : Bool} {A B C : E} (hp : i ∉ pin) (hp' : j ∉ pin) (hp2 : l ∉ pin) : ∀ D σ H, tsOf G W pin (sPar3 i ka A j kb B l kc C) D σ H → tPar3 i j l (tCons (tkOf G W ka A) (tCons (tkOf G W kb B) (tCons (tkOf G W kc C) tNil))) D σ H := by
  rintro D σ H ⟨ρ, F, fp, e, h⟩
  refine ocS_bindK (Stp.refl _ _ _) e h fun x a ρ1 H1 F1 fp1 q1 s1 e1 r1 h1 => ?_
  refine ocS_bindK s1 e1 h1 fun y b ρ2 H2 F2 fp2 q2 s2 e2 r2 h2 => ?_
  refine ocS_bindK (s1.trans s2) e2 h2 fun z c ρ3 H3 F3 fp3 q3 s3 e3 r3 h3 => ?_
  refine ⟨x, y, z, rfl, ?_⟩
  have r1' := r1.step e1 s2
  have r1'' := r1'.step e2 s3
  have r2' := r2.step e2 s3
  have ap12 := r1.apart r2
  have ap23 := r2.apart r3
  have ap13 : ∀ a, q1 a → q3 a → False := fun a p p' => by
    cases ka with
    | false => exact r1.2 a p
    | true => cases kc with
      | false => exact r3.2 a p'
      | true => exact r1.2.tr a p (s2.dom a (r3.2.old a p'))
  have e4 := e3.setK (i := i) r1''
  have r2s := r1''.set (i := i) r2' ap12
  have e5 := e4.setK (i := j) r2s
  have r3s := r2s.set (i := j) (r1''.set (i := i) r3 ap13) ap23
  have s4 : Stp H F (un fp) H3 F3 (un fun jj => if ka = true ∧ jj = i then q1 else fp3 jj) := ((s1.trans s2).trans s3).setK r1.old
  have s5 := s4.setK (k := kb) (i := j) (q := q2) fun a e p => s1.dom a (r2.old a e p)
  have s6 := s5.setK (k := kc) (i := l) (q := q3) fun a e p => (s1.trans s2).dom a (r3.old a e p)
  exact h3 _ H3 F3 _ s6 (e5.setK (i := l) r3s) (((pn_set i _ hp).trans (pn_set j _ hp')).trans (pn_set l _ hp2))
theorem s_par3 (o : Ok X G W) (i j l : Nat) {x y z : Str} {a b c : Expr} {ka kb kc : Bool} {A B C : E} {px py pz pt pos : Pos} {kt k2 pt2} (hN : X.N.Nodup) (ha : PE X a (tkOf G W ka A)) (hb : PE X b (tkOf G W kb B)) (hc : PE X c (tkOf G W kc C)) (hi : X.N[i]? = some x := by rfl) (hj : X.N[j]? = some y := by rfl) (hl : X.N[l]? = some z := by rfl)
    (hij : i ≠ j := by decide) (hil : i ≠ l := by decide) (hjl : j ≠ l := by decide) (hx : X.env.scope.names.lookup x = some .local := by rfl) (hy : X.env.scope.names.lookup y = some .local := by rfl) (hz : X.env.scope.names.lookup z = some .local := by rfl) (hp : i ∉ pin := by decide) (hp' : j ∉ pin := by decide) (hp2 : l ∉ pin := by decide)
    (hw : swappedStores [.Tuple [.Name x px, .Name y py, .Name z pz] kt pt] (.Tuple [a, b, c] k2 pt2) X.env = pure (some [x, y, z]) := by rfl) (hs : swapsWithSole [.Tuple [.Name x px, .Name y py, .Name z pz] kt pt] (.Tuple [a, b, c] k2 pt2) pos.line X.env = pure false := by rfl)
    (hs1 : starEach [a, b, c] X.env = (false, eval a X.env) :: starEach [b, c] X.env := by rfl) (hs2 : starEach [b, c] X.env = (false, eval b X.env) :: starEach [c] X.env := by rfl) (hs3 : starEach [c] X.env = [(false, eval c X.env)] := by rfl) :
    PS X (.Assign [.Tuple [.Name x px, .Name y py, .Name z pz] kt pt] (.Tuple [a, b, c] k2 pt2) pos) (tsOf G W pin (sPar3 i ka A j kb B l kc C)) :=
  PS.imp (ps_par3 o.calm hN hi hj hl hij hil hjl hx hy hz (pa_cons ha (pa_cons hb (pa_cons hc pa_nil hs3) hs2) hs1) hw hs) (q_par3 hp hp' hp2)
end
/-! ### promises made simpler -/
section
variable {P : Program} {w : World} {K : Frag} {mg : Str → Option Value} {base : Heap}
theorem sp_imp {G : Gx} {ks : List Bool} {f g : Fn} (h : ∀ ds, g ds ≠ .no → f ds = g ds) {vs : List V} {H : Hp} {Q : VK} {E : XK} (s : spOf G ks g vs H Q E) : spOf G ks f vs H Q E := by
  obtain ⟨hl, ds, F, fp, h1, e, q⟩ := s
  refine ⟨hl, ds, F, fp, h1, e, ?_⟩
  by_cases hg : g ds = .no
  · rw [hg] at q; exact q.elim
  · rw [h ds hg]; exact q
/-- a def's mirror by another function that says the same where it says something -/
theorem fn_imp {k : Nat} {f : Addr} {fd : FuncData} {ps : List Str} {G : Gx} {ks : List Bool} {m g : Fn} (Fo : FnOk P w K mg base (L2.CX P w) k f fd ps (spOf G ks m)) (h : ∀ ds, g ds ≠ .no → m ds = g ds) : FnOk P w K mg base (L2.CX P w) k f fd ps (spOf G ks g) :=
  Fo.imp fun vs H Q E s => sp_imp h s
end
/-! ### the draw's steps -/
def mixP (cl : List Int) (t p : Int) : Int := cl.foldl (fun b g => (b * 48271 + g) % p) ((t * 69621 + p / 7) % p)
def mixN (cl : List Int) (t : Int) : Int := [2147483629, 2147483587, 2147483579].foldl (fun f p => f * 2147483647 + mixP cl t p ^ 5 % p) 0
def mixF : Fn := fun ds => match ds with
  | [.drw lg cl rest turn] => .ok (.int (mixN cl (turn + 1))) [.drw lg cl rest (turn + 1)]
  | _ => .no
def takeF : Fn := fun ds => match ds with
  | [.drw lg cl rest turn, .int n] => if 0 < n ∧ n < 1073741824 then (if rest = 0 then (match lg with
      | g :: lg' => .ok (.int (g % n)) [.drw lg' cl (g / n) turn]
      | [] => .ok (.int (mixN cl (turn + 1) % n)) [.drw [] cl (mixN cl (turn + 1) / n) (turn + 1)])
    else .ok (.int (rest % n)) [.drw lg cl (rest / n) turn]) else .no
  | _ => .no
/-! the mirrors of the two defs; slots: draw, turn, found, prime, blend, grain -/
def mixB : S := sSeq (sDrTurn 0 (iBin oPlus (iDrTurn 0) (iC (.int 1)))) (sSeq (sPar2 1 false (iCallJ fInt (jCons (iDrTurn 0) jNil)) 2 false (iC (.int 0)))
  (sSeq (sFor (iSeq (iLst (iCons (iC (.int 2147483629)) (iCons (iC (.int 2147483587)) (iCons (iC (.int 2147483579)) iNil))))) (tgN 3)
    (sSeq (sSet 4 (iBin oMod (iBin oPlus (iBin oMul (iVar 1) (iC (.int 69621))) (iBin oDiv (iVar 3) (iC (.int 7)))) (iVar 3)))
      (sSeq (sFor (iSeq (iDrCells 0)) (tgN 5) (sSet 4 (iBin oMod (iBin oPlus (iBin oMul (iVar 4) (iC (.int 48271))) (iCallJ fInt (jCons (iVar 5) jNil))) (iVar 3))))
        (sSet 2 (iBin oPlus (iBin oMul (iVar 2) (iC (.int 2147483647))) (iBin oMod (iBin oPow (iVar 4) (iC (.int 5))) (iVar 3)))))))
    (sRet (iVar 2))))
def takeB : S := sSeq (sIf (iCmp oEq (iDrRest 0) (iC (.int 0))) (sDrRest 0 (iIf (iDrLg 0) (iDrPop 0) (iCallF [true] mixF (jSlot 0 jNil)))) sNx)
  (sSeq (sSet 2 (iBin oMod (iCallJ fInt (jCons (iDrRest 0) jNil)) (iVar 1))) (sSeq (sDrRest 0 (iBin oDiv (iCallJ fInt (jCons (iDrRest 0) jNil)) (iVar 1))) (sRet (iVar 2))))
theorem mulC_r {i j : Int} (h1 : -(2 ^ 64) < j) (h2 : j < 2 ^ 64) : mulC i j = true := by
  unfold mulC
  rw [Bool.or_eq_true]
  right
  rw [Bool.and_eq_true, decide_eq_true_eq, decide_eq_true_eq]
  exact ⟨h1, h2⟩
theorem ev_eq0 {r : Int} : oEq (.int r) (.int 0) = some (.bl (r == 0)) := rfl
theorem ev_mod {a n : Int} (h : 0 < n) : oMod (.int a) (.int n) = some (.int (a % n)) := by
  show (if decide (0 < n) = true then some (IV.int (a % n)) else none) = _
  rw [if_pos (decide_eq_true h)]
theorem ev_div {a n : Int} (h : 0 < n) (h' : n < 1073741824) : oDiv (.int a) (.int n) = some (.int (a / n)) := by
  show (if (decide (0 < n) && decide (n < 1073741824)) = true then some (IV.int (a / n)) else none) = _
  rw [if_pos (by rw [decide_eq_true h, decide_eq_true h']; rfl)]
theorem ev_mul {a n : Int} (h1 : -(2 ^ 64) < n) (h2 : n < 2 ^ 64) : oMul (.int a) (.int n) = some (.int (a * n)) := by
  show (if mulC a n = true then some (IV.int (a * n)) else none) = _
  rw [if_pos (mulC_r h1 h2)]
theorem ev_plus {a b : Int} : oPlus (.int a) (.int b) = some (.int (a + b)) := rfl
theorem takeB_ok : ∀ ds, takeF ds ≠ .no → fnOf 3 [true, false] takeB ds = takeF ds := by
  intro ds h
  unfold takeF at h
  split at h
  · rename_i lg cl rest turn n
    split at h
    · rename_i hn
      have c1 := fun a => ev_mod (a := a) hn.1
      have c2 := fun a => ev_div (a := a) hn.1 hn.2
      by_cases hr : rest = 0
      · subst hr
        cases lg with
        | nil =>
          simp [takeF, hn, fnOf, takeB, envOf, sSeq, sIf, Rz.bindS, Rz.bind, iCmp, iDrRest, iC, ev_eq0, sDrRest, isOw, iIf, iDrLg, iDrPop, iCallF, jSlot, jNil, callF, gather, slots, mixF, scatter, sSet, iBin, iCallJ, jCons, rsA, rs, fInt, ofO, iVar, c1, c2, sRet, outsOf, List.replicate]
        | cons g lg =>
          simp [takeF, hn, fnOf, takeB, envOf, sSeq, sIf, Rz.bindS, Rz.bind, iCmp, iDrRest, iC, ev_eq0, sDrRest, isOw, iIf, iDrLg, iDrPop, iCallF, jSlot, jNil, callF, gather, slots, mixF, scatter, sSet, iBin, iCallJ, jCons, rsA, rs, fInt, ofO, iVar, c1, c2, sRet, outsOf, List.replicate]
      · simp [takeF, hn, hr, fnOf, takeB, envOf, sSeq, sIf, Rz.bindS, Rz.bind, iCmp, iDrRest, iC, ev_eq0, sNx, sDrRest, isOw, sSet, iBin, iCallJ, jCons, jNil, rsA, rs, fInt, ofO, iVar, c1, c2, sRet, outsOf, List.replicate]
    · exact (h rfl).elim
  · exact (h rfl).elim
/-! the mixing -/
def bodyP : S := sSeq (sSet 4 (iBin oMod (iBin oPlus (iBin oMul (iVar 1) (iC (.int 69621))) (iBin oDiv (iVar 3) (iC (.int 7)))) (iVar 3)))
      (sSeq (sFor (iSeq (iDrCells 0)) (tgN 5) (sSet 4 (iBin oMod (iBin oPlus (iBin oMul (iVar 4) (iC (.int 48271))) (iCallJ fInt (jCons (iVar 5) jNil))) (iVar 3))))
        (sSet 2 (iBin oPlus (iBin oMul (iVar 2) (iC (.int 2147483647))) (iBin oMod (iBin oPow (iVar 4) (iC (.int 5))) (iVar 3)))))
theorem mixP_lt {cl : List Int} {t p : Int} (hp : 0 < p) : 0 ≤ mixP cl t p ∧ mixP cl t p < p := by
  unfold mixP
  have h : ∀ (cl : List Int) (b : Int), 0 ≤ b ∧ b < p → 0 ≤ cl.foldl (fun b g => (b * 48271 + g) % p) b ∧ cl.foldl (fun b g => (b * 48271 + g) % p) b < p := by
    intro cl
    induction cl with
    | nil => intro b h; exact h
    | cons g cl ih => intro b h; exact ih _ ⟨Int.emod_nonneg _ (by omega), Int.emod_lt_of_pos _ hp⟩
  exact h cl _ ⟨Int.emod_nonneg _ (by omega), Int.emod_lt_of_pos _ hp⟩
theorem inner_ok {lg : List Int} {rest turn t f p : Int} {cl : List Int} (hp : 0 < p) : ∀ (ms : List Int) (b : Int) (x : Sl), ∃ y, forLoop (tgN 5) (sSet 4 (iBin oMod (iBin oPlus (iBin oMul (iVar 4) (iC (.int 48271))) (iCallJ fInt (jCons (iVar 5) jNil))) (iVar 3))) (ms.map .int)
    [.ow (.drw lg cl rest turn), .fz (.int t), .fz (.int f), .fz (.int p), .fz (.int b), x] = .nx [.ow (.drw lg cl rest turn), .fz (.int t), .fz (.int f), .fz (.int p), .fz (.int (ms.foldl (fun b g => (b * 48271 + g) % p) b)), y] := by
  intro ms
  induction ms with
  | nil => intro b x; exact ⟨x, rfl⟩
  | cons m ms ih =>
    intro b x
    obtain ⟨y, hy⟩ := ih ((b * 48271 + m) % p) (.fz (.int m))
    refine ⟨y, ?_⟩
    rw [List.foldl_cons, ← hy]
    have c1 := fun a => ev_mod (a := a) hp
    have c2 := fun a => ev_mul (a := a) (n := 48271) (by decide) (by decide)
    simp [List.map_cons, forLoop, tgN, sSet, Rz.bindS, Rz.bind, iBin, iVar, iC, ofO, c1, c2, ev_plus, iCallJ, jCons, jNil, rsA, rs, fInt, List.set]
theorem bodyP_ok {lg : List Int} {rest turn t f p : Int} {cl : List Int} (hp : 0 < p) (hp2 : p < 2 ^ 32) (b x : Sl) : ∃ y, bodyP [.ow (.drw lg cl rest turn), .fz (.int t), .fz (.int f), .fz (.int p), b, x]
    = .nx [.ow (.drw lg cl rest turn), .fz (.int t), .fz (.int (f * 2147483647 + mixP cl t p ^ 5 % p)), .fz (.int p), .fz (.int (mixP cl t p)), y] := by
  obtain ⟨y, hy⟩ := inner_ok (lg := lg) (rest := rest) (turn := turn) (t := t) (f := f) (cl := cl) hp cl ((t * 69621 + p / 7) % p) x
  refine ⟨y, ?_⟩
  have c1 := fun a => ev_mod (a := a) hp
  have c2 := fun a => ev_mul (a := a) (n := 69621) (by decide) (by decide)
  have c3 := fun a => ev_mul (a := a) (n := 2147483647) (by decide) (by decide)
  have c4 : oDiv (.int p) (.int 7) = some (.int (p / 7)) := ev_div (by decide) (by decide)
  have hm := mixP_lt (cl := cl) (t := t) hp
  have c5 : oPow (.int (mixP cl t p)) (.int 5) = some (.int (mixP cl t p ^ 5)) := by
    show (if (decide ((0 : Int) ≤ 5) && decide ((5 : Int) ≤ 1000000) && decide ((mixP cl t p).natAbs < 2 ^ 64)) = true then some (IV.int (mixP cl t p ^ (5 : Int).toNat)) else none) = _
    rw [if_pos]
    · rfl
    · have : (mixP cl t p).natAbs < 2 ^ 64 := by omega
      rw [decide_eq_true this]; rfl
  have hy' : forLoop (tgN 5) (sSet 4 (iBin oMod (iBin oPlus (iBin oMul (iVar 4) (iC (.int 48271))) (iCallJ fInt (jCons (iVar 5) jNil))) (iVar 3))) (cl.map .int)
    [.ow (.drw lg cl rest turn), .fz (.int t), .fz (.int f), .fz (.int p), .fz (.int ((t * 69621 + p / 7) % p)), x] = .nx [.ow (.drw lg cl rest turn), .fz (.int t), .fz (.int f), .fz (.int p), .fz (.int (mixP cl t p)), y] := hy
  have e1 : sSet 4 (iBin oMod (iBin oPlus (iBin oMul (iVar 1) (iC (.int 69621))) (iBin oDiv (iVar 3) (iC (.int 7)))) (iVar 3)) [.ow (.drw lg cl rest turn), .fz (.int t), .fz (.int f), .fz (.int p), b, x] = .nx [.ow (.drw lg cl rest turn), .fz (.int t), .fz (.int f), .fz (.int p), .fz (.int ((t * 69621 + p / 7) % p)), x] := by
    simp [sSet, Rz.bindS, Rz.bind, iBin, iVar, iC, ofO, c1, c2, c4, ev_plus, List.set]
  have e2 : ∀ ρ, (iSeq (iDrCells 0)) (.ow (.drw lg cl rest turn) :: ρ) = .ok (cl.map .int) (.ow (.drw lg cl rest turn) :: ρ) := fun ρ => rfl
  have e3 : sSet 2 (iBin oPlus (iBin oMul (iVar 2) (iC (.int 2147483647))) (iBin oMod (iBin oPow (iVar 4) (iC (.int 5))) (iVar 3))) [.ow (.drw lg cl rest turn), .fz (.int t), .fz (.int f), .fz (.int p), .fz (.int (mixP cl t p)), y] = .nx [.ow (.drw lg cl rest turn), .fz (.int t), .fz (.int (f * 2147483647 + mixP cl t p ^ 5 % p)), .fz (.int p), .fz (.int (mixP cl t p)), y] := by
    simp [sSet, Rz.bindS, Rz.bind, iBin, iVar, iC, ofO, c1, c3, c5, ev_plus, List.set]
  unfold bodyP sSeq
  rw [e1]
  dsimp only
  unfold sFor
  rw [e2]
  simp only [Rz.bindS]
  rw [hy']
  dsimp only
  exact e3
theorem mixB_ok : ∀ ds, mixF ds ≠ .no → fnOf 6 [true] mixB ds = mixF ds := by
  intro ds h
  unfold mixF at h
  split at h
  · rename_i lg cl rest turn
    obtain ⟨y1, h1⟩ := bodyP_ok (lg := lg) (rest := rest) (turn := turn + 1) (t := turn + 1) (f := 0) (p := 2147483629) (cl := cl) (by decide) (by decide) .un .un
    obtain ⟨y2, h2⟩ := bodyP_ok (lg := lg) (rest := rest) (turn := turn + 1) (t := turn + 1) (f := 0 * 2147483647 + mixP cl (turn + 1) 2147483629 ^ 5 % 2147483629) (p := 2147483587) (cl := cl) (by decide) (by decide) (.fz (.int (mixP cl (turn + 1) 2147483629))) y1
    obtain ⟨y3, h3⟩ := bodyP_ok (lg := lg) (rest := rest) (turn := turn + 1) (t := turn + 1) (f := (0 * 2147483647 + mixP cl (turn + 1) 2147483629 ^ 5 % 2147483629) * 2147483647 + mixP cl (turn + 1) 2147483587 ^ 5 % 2147483587) (p := 2147483579) (cl := cl) (by decide) (by decide) (.fz (.int (mixP cl (turn + 1) 2147483587))) y2
    have hB : mixB = sSeq (sDrTurn 0 (iBin oPlus (iDrTurn 0) (iC (.int 1)))) (sSeq (sPar2 1 false (iCallJ fInt (jCons (iDrTurn 0) jNil)) 2 false (iC (.int 0)))
      (sSeq (sFor (iSeq (iLst (iCons (iC (.int 2147483629)) (iCons (iC (.int 2147483587)) (iCons (iC (.int 2147483579)) iNil))))) (tgN 3) bodyP) (sRet (iVar 2)))) := rfl
    have hfor : sFor (iSeq (iLst (iCons (iC (.int 2147483629)) (iCons (iC (.int 2147483587)) (iCons (iC (.int 2147483579)) iNil))))) (tgN 3) bodyP [.ow (.drw lg cl rest (turn + 1)), .fz (.int (turn + 1)), .fz (.int 0), .un, .un, .un]
        = .nx [.ow (.drw lg cl rest (turn + 1)), .fz (.int (turn + 1)), .fz (.int (mixN cl (turn + 1))), .fz (.int 2147483579), .fz (.int (mixP cl (turn + 1) 2147483579)), y3] := by
      show forLoop (tgN 3) bodyP [.int 2147483629, .int 2147483587, .int 2147483579] _ = _
      simp only [forLoop, tgN, List.set]
      rw [h1]
      dsimp only [List.set]
      rw [h2]
      dsimp only [List.set]
      rw [h3]
      rfl
    have e1 : sDrTurn 0 (iBin oPlus (iDrTurn 0) (iC (.int 1))) [.ow (.drw lg cl rest turn), .un, .un, .un, .un, .un] = .nx [.ow (.drw lg cl rest (turn + 1)), .un, .un, .un, .un, .un] := rfl
    have e2 : sPar2 1 false (iCallJ fInt (jCons (iDrTurn 0) jNil)) 2 false (iC (.int 0)) [.ow (.drw lg cl rest (turn + 1)), .un, .un, .un, .un, .un] = .nx [.ow (.drw lg cl rest (turn + 1)), .fz (.int (turn + 1)), .fz (.int 0), .un, .un, .un] := rfl
    have e3 : mixB [.ow (.drw lg cl rest turn), .un, .un, .un, .un, .un] = .rt (.int (mixN cl (turn + 1))) [.ow (.drw lg cl rest (turn + 1)), .fz (.int (turn + 1)), .fz (.int (mixN cl (turn + 1))), .fz (.int 2147483579), .fz (.int (mixP cl (turn + 1) 2147483579)), y3] := by
      rw [hB]
      unfold sSeq
      rw [e1]
      dsimp only
      rw [e2]
      dsimp only
      rw [hfor]
      rfl
    show (match mixB [.ow (.drw lg cl rest turn), .un, .un, .un, .un, .un] with | .rt d ρ => _ | .nx ρ => _ | .ex c p ρ => _ | _ => _) = _
    rw [e3]
    rfl
  · exact (h rfl).elim
end MR
set_option maxRecDepth 100000
set_option maxHeartbeats 4000000
/-! MirU: the head: what is asked of the written part; defs by name. -/
namespace MR
open PySem L2 PyProof.Rows
/-! ### a def, wherever it stands -/
abbrev FunM (K : Frag) (d : DefM) (fd : FuncData) : Prop := FunD K d.name d.qual (defArgs d.st) (defBody d.st) (defScope d.st) (d.dvs K) (d.kws K) (d.adr K) fd
theorem DefM.fun_ {K : Frag} {d : DefM} (e : fnAt K (d.adr K) = d.val) (c : d.good K = true) (hc : d.clo = []) : ∃ fd, FunM K d fd := by
  obtain ⟨kp, c2⟩ := He.ba c
  unfold fnAt at e
  cases q : K.lookup (d.adr K) with
  | none => rw [q] at c2; cases c2
  | some ob =>
    obtain ⟨oc, od, dt, osl⟩ := ob
    rw [q] at c2 e
    cases dt with
    | func g =>
      obtain ⟨a1, a2, a3, a4, a5, a6, a7, a8, a9, a10, a11, a12, a13, a14, a15⟩ := g
      have e' : (some (a1, a2, a3, a4, a5, a6, a7.map fun p => (p.1, 0), a15) : He.FnW) = d.val := e
      unfold DefM.val at e'
      rw [hc] at e'
      simp only [Option.some.injEq, Prod.mk.injEq, List.map_nil, List.map_eq_nil_iff] at e'
      obtain ⟨r1, r2, r3, r4, r5, r6, r7, r8⟩ := e'
      subst r1 r2 r3 r4 r5 r6 r7 r8
      obtain ⟨k1, k2⟩ := He.ba (show (PySem.W.codeIn K a13 d.qual && (He.dflB K a8 (d.dvs K) && He.kwdB K a9 (d.kws K))) = true from c2)
      obtain ⟨k3, k4⟩ := He.ba k2
      exact ⟨_, ⟨oc, od, a8, a9, a10, a11, a12, a13, a14, osl, rfl, q, k1, He.dflB_ok k3, He.kwdB_ok k4⟩, kp⟩
    | _ => cases c2
/-! ### the hook -/
/-- what the head tells -/
structure Sy (fa : List He.Fa) (fn : List DefM) (ex : Frag → Bool) (K : Frag) (mg : Str → Option Value) : Prop where
  c : SaysM fa fn ex K
  ns : ∃ h : Heap, K.In h ∧ h.Ns mainGlobals mg
section
variable {fa : List He.Fa} {fn : List DefM} {ex : Frag → Bool} {K : Frag} {mg : Str → Option Value}
theorem Sy.fact (S : Sy fa fn ex K mg) (i : Nat) {f : He.Fa} (h : fa[i]? = some f := by rfl) : f.ok K = true := by
  have e : ((fa.all fun f => f.ok K) && ((fn.all fun d => d.good K) && ex K)) = true := congrArg Prod.fst S.c
  exact List.all_eq_true.mp (He.ba e).1 f (List.mem_of_getElem? h)
theorem Sy.ex_ (S : Sy fa fn ex K mg) : ex K = true := by
  have e : ((fa.all fun f => f.ok K) && ((fn.all fun d => d.good K) && ex K)) = true := congrArg Prod.fst S.c
  exact (He.ba (He.ba e).2).2
theorem Sy.def_ (S : Sy fa fn ex K mg) (i : Nat) {d : DefM} (h : fn[i]? = some d := by rfl) (hc : d.clo = [] := by rfl) : ∃ fd, FunM K d fd := by
  have e : ((fa.all fun f => f.ok K) && ((fn.all fun d => d.good K) && ex K)) = true := congrArg Prod.fst S.c
  have e2 : fn.map (fun d => fnAt K (d.adr K)) = fn.map DefM.val := congrArg Prod.snd S.c
  have e3 := congrArg (fun l : List He.FnW => l[i]?) e2
  simp only [List.getElem?_map, h, Option.map] at e3
  exact DefM.fun_ (Option.some.inj e3) (List.all_eq_true.mp (He.ba (He.ba e).2).1 d (List.mem_of_getElem? h)) hc
/-- a def that closes over names -/
theorem DefM.funC {K : Frag} {d : DefM} (e : fnAt K (d.adr K) = d.val) (c : d.good K = true) : ∃ (oc : Value) (od : Option Addr) (dV kV doc pm : Value) (an : Option Addr) (cdv ct : Value) (cl : List (Str × Addr)) (osl : Array (Option Value)),
    K.lookup (d.adr K) = some ⟨oc, od, .func (PySem.W.fnX d.name d.qual (defArgs d.st) (defBody d.st) (defScope d.st) cl dV kV doc pm an cdv ct), osl⟩ ∧ PySem.W.codeIn K cdv d.qual = true ∧ cl.map (·.1) = d.clo := by
  obtain ⟨kp, c2⟩ := He.ba c
  unfold fnAt at e
  cases q : K.lookup (d.adr K) with
  | none => rw [q] at c2; cases c2
  | some ob =>
    obtain ⟨oc, od, dt, osl⟩ := ob
    rw [q] at c2 e
    cases dt with
    | func g =>
      obtain ⟨a1, a2, a3, a4, a5, a6, a7, a8, a9, a10, a11, a12, a13, a14, a15⟩ := g
      have e' : (some (a1, a2, a3, a4, a5, a6, a7.map fun p => (p.1, 0), a15) : He.FnW) = d.val := e
      unfold DefM.val at e'
      simp only [Option.some.injEq, Prod.mk.injEq] at e'
      obtain ⟨r1, r2, r3, r4, r5, r6, r7, r8⟩ := e'
      subst r1 r2 r3 r4 r5 r6 r8
      obtain ⟨k1, k2⟩ := He.ba (show (PySem.W.codeIn K a13 d.qual && (He.dflB K a8 (d.dvs K) && He.kwdB K a9 (d.kws K))) = true from c2)
      refine ⟨oc, od, a8, a9, a10, a11, a12, a13, a14, a7, osl, rfl, k1, ?_⟩
      have := congrArg (List.map Prod.fst) r7
      simpa [List.map_map, Function.comp_def] using this
    | _ => cases c2
theorem Sy.defC (S : Sy fa fn ex K mg) (i : Nat) {d : DefM} (h : fn[i]? = some d := by rfl) : ∃ (oc : Value) (od : Option Addr) (dV kV doc pm : Value) (an : Option Addr) (cdv ct : Value) (cl : List (Str × Addr)) (osl : Array (Option Value)),
    K.lookup (d.adr K) = some ⟨oc, od, .func (PySem.W.fnX d.name d.qual (defArgs d.st) (defBody d.st) (defScope d.st) cl dV kV doc pm an cdv ct), osl⟩ ∧ PySem.W.codeIn K cdv d.qual = true ∧ cl.map (·.1) = d.clo := by
  have e : ((fa.all fun f => f.ok K) && ((fn.all fun d => d.good K) && ex K)) = true := congrArg Prod.fst S.c
  have e2 : fn.map (fun d => fnAt K (d.adr K)) = fn.map DefM.val := congrArg Prod.snd S.c
  have e3 := congrArg (fun l : List He.FnW => l[i]?) e2
  simp only [List.getElem?_map, h, Option.map] at e3
  exact DefM.funC (Option.some.inj e3) (List.all_eq_true.mp (He.ba (He.ba e).2).1 d (List.mem_of_getElem? h))
theorem Sy.glo (S : Sy fa fn ex K mg) (i : Nat) {x : Str} (h : fa[i]? = some (.glo x) := by rfl) : mg x = some (.ref (He.ga K x)) := by
  obtain ⟨hh, X, N⟩ := S.ns
  exact He.glo_ok X N (S.fact i h)
theorem Sy.free (S : Sy fa fn ex K mg) (i : Nat) {x : Str} (h : fa[i]? = some (.free x) := by rfl) : mg x = none := by
  obtain ⟨hh, X, N⟩ := S.ns
  exact He.free_ok X N (S.fact i h)
end
/-! ### the module's own values -/
mutual
theorem kiv_ok {G : Gx} : ∀ (d : IV) (u : Value), kiv G.K d u = true → ∃ v, RelV v u ∧ ∀ F H, Fz G F H v d
  | .non, u, h => by
    cases u <;> first | exact ⟨.non, rfl, fun F H => .non⟩ | cases h
  | .bl b, u, h => by
    cases u with
    | bool c =>
      simp only [kiv, beq_iff_eq] at h
      subst h
      exact ⟨.bl b, rfl, fun F H => .bl b⟩
    | _ => cases h
  | .int i, u, h => by
    cases u with
    | int j t =>
      simp only [kiv, beq_iff_eq] at h
      subst h
      exact ⟨.int i, ⟨t, rfl⟩, fun F H => .int i⟩
    | _ => cases h
  | .str s, u, h => by
    cases u with
    | str z t =>
      simp only [kiv, beq_iff_eq] at h
      subst h
      exact ⟨.str s, ⟨t, rfl⟩, fun F H => .str s⟩
    | _ => cases h
  | .tup ds, u, h => by
    cases u with
    | ref a =>
      simp only [kiv] at h
      split at h
      · rename_i c od its n sl q
        obtain ⟨h1, h2⟩ := He.ba h
        obtain ⟨h3, h4⟩ := He.ba h2
        have hc : c = "tuple" := of_decide_eq_true h1
        have hz : its.size ≤ 1000 := of_decide_eq_true h3
        subst hc
        obtain ⟨vs, r, fa⟩ := kivA_ok ds its.toList h4
        have hl : vs.length = its.size := by rw [r.length]; simp
        refine ⟨.ref a, rfl, fun F H => .tup (Or.inr ⟨_, its, n, q, rfl, rfl, big_le (Nat.le_trans hz (by decide)), r⟩) (fa F H) (by rw [hl]; exact Nat.le_trans hz (by decide))⟩
      · cases h
    | _ => cases h
  | .ty _, u, h => by cases u <;> cases h
  | .cl _, u, h => by cases u <;> cases h
  | .lst _, u, h => by cases u <;> cases h
  | .scr _, u, h => by cases u <;> cases h
  | .dic _, u, h => by cases u <;> cases h
  | .ins _ _, u, h => by cases u <;> cases h
  | .drw _ _ _ _, u, h => by cases u <;> cases h
theorem kivA_ok {G : Gx} : ∀ (ds : List IV) (us : List Value), kivA G.K ds us = true → ∃ vs, Vals vs us ∧ ∀ F H, FzA G F H vs ds
  | [], [], _ => ⟨[], .nil, fun F H => .nil⟩
  | [], _ :: _, h => by cases h
  | _ :: _, [], h => by cases h
  | d :: ds, u :: us, h => by
    simp only [kivA] at h
    obtain ⟨h1, h2⟩ := He.ba h
    obtain ⟨v, r, f⟩ := kiv_ok d u h1
    obtain ⟨vs, rs, fs⟩ := kivA_ok ds us h2
    exact ⟨v :: vs, .cons r rs, fun F H => .cons (f F H) (fs F H)⟩
end
/-- the module's name x stands for d -/
structure GV (G : Gx) (mg : Str → Option Value) (x : Str) (d : IV) : Prop where
  ex : ∃ v u, mg x = some u ∧ RelV v u ∧ ∀ F H, Fz G F H v d
theorem gv_of {G : Gx} {mg : Str → Option Value} {x : Str} {d : IV} (hn : ∃ h : Heap, G.K.In h ∧ h.Ns mainGlobals mg) (h : gvB G.K x d = true) : GV G mg x d := by
  unfold gvB at h
  split at h
  · rename_i u q
    obtain ⟨hh, X, N⟩ := hn
    obtain ⟨v, r, f⟩ := kiv_ok d u h
    exact ⟨v, u, PySem.W.mg_of X N q, r, f⟩
  · cases h
/-! ### own classes -/
/-- the usual G -/
def gx (K : Frag) : Gx := ⟨K, fun c => He.ga K (Str.ofString c), fun c => .ref (He.ga K (Str.ofString c)), ((He.cT K ("law", none)).2, ((("law" : Str) ++ ".<locals>.") ++ "<lambda>"))⟩
theorem kc_of {K : Frag} {cs : List String} (inj : ∀ c ∈ cs, ∀ c' ∈ cs, Str.ofString c = Str.ofString c' → c = c') (h : kcB K (cs.map Str.ofString) = true) : KC (gx K) cs := by
  obtain ⟨h1, h2⟩ := He.ba h
  obtain ⟨h3, h4⟩ := He.ba h2
  have at_ : ∀ c ∈ cs, _ := fun c hc => List.all_eq_true.mp h1 (Str.ofString c) (List.mem_map.mpr ⟨c, hc, rfl⟩)
  simp only [Bool.and_eq_true, decide_eq_true_eq, List.all_eq_true, List.mem_map, forall_exists_index, and_imp, forall_apply_eq_imp_iff₂] at at_
  refine ⟨fun c hc => ⟨(at_ c hc).1, (at_ c hc).2.1, (at_ c hc).2.2.1, (at_ c hc).2.2.2.1⟩, fun c hc => (at_ c hc).2.2.2.2.1, of_decide_eq_true h3, of_decide_eq_true h4, fun c hc => (at_ c hc).2.2.2.2.2.1, fun c hc c' hc' => ?_, fun c hc T hT => ?_, fun c hc T hT => ?_⟩
  · have := (at_ c hc).2.2.2.2.2.2.1 c' hc'
    refine this.trans ?_
    by_cases e : c = c'
    · subst e; simp
    · rw [decide_eq_false e, decide_eq_false fun z => e (inj c hc c' hc' z)]
  · exact (at_ c hc).2.2.2.2.2.2.2.1 T hT
  · exact (at_ c hc).2.2.2.2.2.2.2.2 T hT
/-! ### promises, by name -/
section
variable {P : Program} {w : World} {K : Frag} {mg : Str → Option Value} {base : Heap}
theorem ok_of {N : List Str} {qual : Str} {scope : Scope} {f : Addr} {cdv : Value} {A : Around} {outer : List PySem.Env} {s : Shared} {H : Hp} {E : XK} {k : Nat} {G : Gx} (hr : Room k (A.deeper (envOfC qual scope s.heap.objs.size f cdv))) (hK : K = G.K) :
    Ok (cxOf (L2.CX P w) P w K mg base N qual scope f cdv A outer s H E) G (fun cls d _ H => E cls d H) := ⟨hK, rfl, takes_of rfl rfl rfl rfl, by have := hr.un; show (A.deeper (envOfC qual scope s.heap.objs.size f cdv)).units + 80 < cLine; omega⟩
structure FnM (P : Program) (w : World) (K : Frag) (mg : Str → Option Value) (base : Heap) (G : Gx) (k : Nat) (x : Str) (ks : List Bool) (fn : Fn) : Prop where
  ex : ∃ (f : Addr) (fd : FuncData) (ps : List Str), mg x = some (.ref f) ∧ PySem.W.keepIn K (.ref f) = true ∧ Binds K fd ps [] ∧ FnOk P w K mg base (L2.CX P w) k f fd ps (spOf G ks fn)
theorem FnM.imp {G : Gx} {k : Nat} {x : Str} {ks : List Bool} {m g : Fn} (h : FnM P w K mg base G k x ks m) (e : ∀ ds, g ds ≠ .no → m ds = g ds) : FnM P w K mg base G k x ks g := by
  obtain ⟨f, fd, ps, h1, h2, h3, h4⟩ := h
  exact ⟨f, fd, ps, h1, h2, h3, fn_imp h4 e⟩
theorem FnM.mono {G : Gx} {k j : Nat} {x : Str} {ks : List Bool} {m : Fn} (h : FnM P w K mg base G k x ks m) (e : k ≤ j) : FnM P w K mg base G j x ks m := by
  obtain ⟨f, fd, ps, h1, h2, h3, h4⟩ := h
  exact ⟨f, fd, ps, h1, h2, h3, h4.mono e⟩
/-- a def's body -/
theorem fn_okD {d : DefM} {fd : FuncData} {N ps : List Str} {k : Nat} {G : Gx} {ks : List Bool} {body : S} (F : FunM K d fd) (S : FnScope N ps (defScope d.st)) (hks : ks.length = ps.length) (hN : ks.length ≤ N.length)
    (hbody : ∀ (cdv : Value) (A : Around) (outer : List PySem.Env) (s : Shared) (H : Hp) (E : XK), Room k (A.deeper (envOfC d.qual (defScope d.st) s.heap.objs.size (d.adr K) cdv)) →
      PSs (cxOf (L2.CX P w) P w K mg base N d.qual (defScope d.st) (d.adr K) cdv A outer s H E) (defBody d.st) (tsOf G (fun cls d _ H => E cls d H) (pinOf ks 0) body)) : FnOk P w K mg base (L2.CX P w) (k + 1) (d.adr K) fd ps (spOf G ks (fnOf N.length ks body)) :=
  F.ok S (fun vs H Q E h => by rw [← hks]; exact h.1) fun cdv A outer s H vs Q E hr h => ⟨_, hbody cdv A outer s H E hr, fn_body hN h⟩
structure BegM (P : Program) (w : World) (K : Frag) (mg : Str → Option Value) (base : Heap) (G : Gx) (k : Nat) (x : Str) : Prop where
  ex : ∃ (f : Addr) (fd : FuncData) (ps : List Str), mg x = some (.ref f) ∧ PySem.W.keepIn K (.ref f) = true ∧ Binds K fd ps [] ∧ FnOk P w K mg base (L2.CX P w) k f fd ps (spB G)
theorem beg_okD {d : DefM} {fd : FuncData} {N ps : List Str} {k : Nat} {G : Gx} (F : FunM K d fd) (S : FnScope N ps (defScope d.st)) (hps : ps.length = 1) (hN : N.length = 3)
    (hbody : ∀ (cdv : Value) (A : Around) (outer : List PySem.Env) (s : Shared) (H : Hp) (E : XK), Room k (A.deeper (envOfC d.qual (defScope d.st) s.heap.objs.size (d.adr K) cdv)) →
      PSs (cxOf (L2.CX P w) P w K mg base N d.qual (defScope d.st) (d.adr K) cdv A outer s H E) (defBody d.st) (tSeq (tsOf G (fun cls d _ H => E cls d H) [] (sSetO 1 mLarge)) (tRet (tDisp (trsB G (fun cls d _ H => E cls d H) mCells))))) : FnOk P w K mg base (L2.CX P w) (k + 1) (d.adr K) fd ps (spB G) :=
  F.ok S (fun vs H Q E h => by rw [hps]; exact h.1) fun cdv A outer s H vs Q E hr h => by
    obtain ⟨h1, F, ns, ft, fa, hQ⟩ := h
    exact ⟨_, hbody cdv A outer s H E hr, q_beg (E := E) ev_large ev_cells hN h1 ft fa hQ⟩
end
section
variable {X : Cx} {G : Gx} {W : WX}
theorem m_callM (o : Ok X G W) {k : Nat} {x : Str} {ks : List Bool} {fn : Fn} {e : Expr} {es : List Expr} {p pos : Pos} {J : EAv} (Fo : FnM X.prog X.w X.K X.mg X.base G k x ks fn) (hr : Room k X.A) (ha : PA X (e :: es) (tjOf G W J)) (hg : Gl X x := by rfl) (hdb : (x == ("__debug__" : Str)) = false := by decide)
    (he : starEach (e :: es) X.env = (false, eval e X.env) :: starEach es X.env := by rfl) (hpl : (backTo pos (starEach es X.env)).any (·.1) = false := by rfl) : PE X (.Call (.Name x p) (e :: es) [] pos) (teOf G W (iCallF ks fn J)) := by
  obtain ⟨f, fd, ps, h1, h2, h3, h4⟩ := Fo.ex
  exact m_call o h4 hr hg h1 h2 h3 ha hdb he hpl
theorem m_callM0 (o : Ok X G W) {k : Nat} {x : Str} {fn : Fn} {p pos : Pos} (Fo : FnM X.prog X.w X.K X.mg X.base G k x [] fn) (hr : Room k X.A) (hg : Gl X x := by rfl) (hdb : (x == ("__debug__" : Str)) = false := by decide) : PE X (.Call (.Name x p) [] [] pos) (teOf G W (iCallF [] fn jNil)) := by
  obtain ⟨f, fd, ps, h1, h2, h3, h4⟩ := Fo.ex
  have hl : ∀ vs H Q E, spOf G [] fn vs H Q E → vs.length = 0 := fun vs H Q E h => h.1
  refine ⟨fun pins s σ H Q I h => ?_⟩
  have h' : tjOf G W jNil σ H (fun vs H1 => spOf G [] fn vs H1 Q (fun cls d H => W cls d σ H)) := q_callF σ H Q h
  obtain ⟨ρ, F, fp, en, h''⟩ := h'
  have h5 : spOf G [] fn [] H Q (WE W σ) := h'' [] H F fp (Stp.refl _ _ _) en .nil
  refine wpAny_Call_Name_kw (ld_glob I hg h1 ?_ hdb)
  exact PySem.W.callWith_K0 I.kIn h2 (run_fnS (E := fun _ => WE W σ) h4 hr h3 (passAt o.tk σ) I .nil h5)
theorem o_begM (o : Ok X G W) {k : Nat} {x : Str} {e : Expr} {p pos : Pos} {A : E} (Fo : BegM X.prog X.w X.K X.mg X.base G k x) (hr : Room k X.A) (ha : PE X e (teOf G W A)) (hg : Gl X x := by rfl) (hdb : (x == ("__debug__" : Str)) = false := by decide)
    (he : starEach [e] X.env = [(false, eval e X.env)] := by rfl) : PE X (.Call (.Name x p) [e] [] pos) (toOf G W (iBeg A)) := by
  obtain ⟨f, fd, ps, h1, h2, h3, h4⟩ := Fo.ex
  exact o_beg o h4 hr hg h1 h2 h3 ha hdb he
theorem m_gv {x : Str} {d : IV} {pos : Pos} (hv : GV G X.mg x d) (hg : Gl X x := by rfl) (hd : (x == ("__debug__" : Str)) = false := by decide) : PE X (.Name x pos) (teOf G W (iC d)) := by
  obtain ⟨v, u, h1, h2, h3⟩ := hv.ex
  exact PE.imp (pe_glob hg h1 h2 hd) (q_c h3)
end
/-! ### the law -/
theorem stL_start {K : Frag} {H : Hp} {a : Addr} {vs : List V} (hO : Only H) (h : SqL K H a vs) : StL K H a vs := by
  rcases h with (h | ⟨o, h⟩) | h
  · rcases hO a with z | ⟨o, xs, z⟩
    · rw [z] at h; cases h
    · rw [z] at h; cases h
  · exact Or.inl ⟨o, h⟩
  · exact Or.inr h
theorem law_sp {G : Gx} {H : Hp} {a : Addr} {ns : List Int} {fn : Fn} {outs : List IV} {E : XK} (hO : Only H) (h : SqL G.K H a (ns.map V.int)) (hl : ns.length ≤ 63) (hf : fn [.scr ns] = .ok (.bl true) outs) : spOf G [false] fn [.ref a] H (fun v _ => v = .bl true) E := by
  refine ⟨rfl, [.scr ns], fun _ => False, fun _ _ => False, rfl, ?_, ?_⟩
  · refine ⟨fun j d z => ?_, fun j d z => ?_, fun _ _ _ h => h.elim, fun _ _ h => h.elim, fun _ _ h => h.elim, fun _ _ _ h => h.elim, fun _ h => h.elim, rfl⟩
    · cases j with
      | zero => cases z; exact ⟨_, rfl, .scr (stL_start hO h) hl⟩
      | succ j => simp [envOf] at z
    · cases j with
      | zero => cases z
      | succ j => simp [envOf] at z
  · rw [hf]
    intro v H' F' fp' s e r
    exact r.bl_inv
end MR
set_option maxRecDepth 100000
set_option maxHeartbeats 4000000
/-! MirV: [e for x in y], y a slot's own list. -/
namespace MR
open PySem L2 PyProof.Rows
section
variable {X : Cx} {G : Gx} {W : WX} {σ : L2.St} {H : Hp} {F : AP1} {fp : FPt} {ρ : Env} {cs : List String} {pin : List Nat}
def lcLoopO (i : Nat) (t : TM) (ts : EB) (el : E) (own : List Nat) : Nat → Nat → Env → Rz (List IV)
  | n, j, ρ => match ρ[i]? with
    | some (.ow (.lst ds)) => (match ds[j]? with
      | none => .ok [] ρ
      | some d => (match n with
        | 0 => .no
        | n + 1 => (match t d (wipeE ρ own) with
          | none => .no
          | some ρa => (match ts ρa with
            | .ok false ρb => lcLoopO i t ts el own n (j + 1) (restE ρ ρb own)
            | .ok true ρb => (match el ρb with
              | .ok y ρc => (lcLoopO i t ts el own n (j + 1) (restE ρ ρc own)).bind fun ys ρ' => .ok (y :: ys) ρ'
              | _ => .no)
            | _ => .no))))
    | _ => .no
def lenO (i : Nat) (ρ : Env) : Nat := match ρ[i]? with
  | some (.ow (.lst ds)) => ds.length
  | _ => 0
def iLcO (i : Nat) (t : TM) (ts : EB) (el : E) (own : List Nat) : E := fun ρ => if isOwL ρ[i]? = true then (lcLoopO i t ts el own (lenO i ρ) 0 ρ).bind fun xs ρ2 => .ok (.lst xs) ρ2 else .no
theorem iLcO_fz (i : Nat) (t : TM) (ts : EB) (el : E) (own : List Nat) : ∀ ρ d ρ', iLcO i t ts el own ρ = .ok d ρ' → canFz d = true := by
  intro ρ d ρ' h
  unfold iLcO at h
  split at h
  · obtain ⟨xs, ρ2, _, h2⟩ := Rz.bind_ok h
    cases h2; rfl
  · cases h
structure LoW (G : Gx) (W : WX) (σ : L2.St) (H1 : Hp) (F1 : AP1) (fp1 : FPt) (s : Nat) (t : TM) (ts : EB) (el : E) (own : List Nat) (Q : VK) (D : Addr) (n i : Nat) (H : Hp) (ρ : Env) (F : AP1) (fp : FPt) (acc : List V) (xs : List IV) : Prop where
  stp : Stp H1 F1 (un fp1) H F (un fp)
  env : EnvR G F H σ ρ fp
  at_ : H D = some (.lst acc)
  nf : ¬ F D
  np : ¬ un fp D
  fz : FzA G F H acc xs
  len : acc.length ≤ i
  rest : OcO G W σ H1 F1 fp1 ((lcLoopO s t ts el own n i ρ).bind fun ys ρ' => .ok (.lst (xs ++ ys)) ρ') Q
theorem q_lcO {s : Nat} {t : TM} {ts : EB} {el : E} {own l : List Nat} (hl : ∀ i ∈ l, i ∈ own) : ∀ σ H Q, toOf G W (iLcO s t ts el own) σ H Q → tLc (iList G.K (tVar s)) (tgOf G l t) (ttOf G W0 ts) (teOf G W0 el) own σ H Q := by
  rintro σ H1 Q ⟨ρ1, F1, fp1, e1, h⟩
  unfold iLcO at h
  split at h
  rotate_left
  · exact h.elim
  rename_i how
  obtain ⟨d0, hd0⟩ := isOwL_some how
  obtain ⟨u, g1, g2⟩ := e1.ow s _ hd0
  refine ⟨u, g1, ?_⟩
  have hN : lenO s ρ1 = d0.length := by unfold lenO; rw [hd0]
  cases g2 with
  | @lst p vs0 _ _ hp0 a0 z0 q0 =>
    refine ⟨p, rfl, ⟨vs0, SqL.of hp0⟩, ?_⟩
    have hbig : d0.length ≤ big := by rw [← a0.len]; exact z0
    rw [hN] at h
    intro D hD
    refine ⟨fun i m H => m = d0.length - i ∧ i ≤ d0.length ∧ ∃ ρ F fp acc xs, LoW G W σ H1 F1 fp1 s t ts el own Q D (d0.length - i) i H ρ F fp acc xs, ⟨d0.length, rfl, Nat.zero_le _, ρ1, F1, fp1, [], [], ?_⟩, ?_⟩
    · exact ⟨Stp.new hD, e1.fr (Fr.new hD), upd_same, fun f => e1.ft D f hD, fun ⟨i, q⟩ => e1.tr i D q hD, .nil, Nat.le_refl _, h⟩
    rintro i m H' ⟨rfl, hi, ρ, F, fp, acc, xs, w⟩
    have rest := w.rest
    unfold lcLoopO at rest
    cases hs : ρ[s]? with
    | none => rw [hs] at rest; exact rest.elim
    | some sl => cases sl with
      | un => rw [hs] at rest; exact rest.elim
      | fz d => rw [hs] at rest; exact rest.elim
      | ow dd => cases dd with
        | lst ds =>
          rw [hs] at rest
          dsimp only at rest
          obtain ⟨u', g1', g2'⟩ := w.env.ow s _ hs
          rw [g1] at g1'
          cases g1'
          cases g2' with
          | @lst _ vs _ _ hp a z q =>
            cases hd : ds[i]? with
            | none =>
              rw [hd] at rest
              refine Or.inl ⟨⟨vs, SqL.of hp, by rw [a.len]; exact List.getElem?_eq_none_iff.mp hd⟩, ?_⟩
              have rest' : OcO G W σ H1 F1 fp1 (.ok (.lst (xs ++ [])) ρ) Q := rest
              rw [List.append_nil] at rest'
              refine rest' (.ref D) H' F fp (fun a => a = D) w.stp w.env (.lst w.at_ w.fz (by have := w.len; omega) fun _ => Iff.rfl) ⟨?_, ?_, ?_, ?_, ?_⟩
              · intro a z; rw [z]; exact hD
              · intro a z q; rw [z, w.at_] at q; cases q
              · intro a z; rw [z]; exact w.nf
              · intro a z; rw [z]; exact w.np
              · intro a o z q; rw [z, w.at_] at q; cases q; exact fun z => z
            | some d =>
              rw [hd] at rest
              obtain ⟨x0, ex0, fx⟩ := a.get hd
              by_cases hlt : i < d0.length
              rotate_left
              · have h0 : d0.length - i = 0 := by omega
                rw [h0] at rest
                exact rest.elim
              have hsub : d0.length - i = (d0.length - (i + 1)) + 1 := by omega
              rw [hsub] at rest
              dsimp only at rest
              refine Or.inr ⟨⟨vs, x0, SqL.of hp, ex0⟩, fun H2 => i + 1 ≤ d0.length ∧ ∃ ρ F fp acc xs, LoW G W σ H1 F1 fp1 s t ts el own Q D (d0.length - (i + 1)) (i + 1) H2 ρ F fp acc xs, fun H2 q => ⟨d0.length - (i + 1), by omega, rfl, q⟩, ?_⟩
              rintro x H2 ⟨rfl, y⟩
              have ey := y vs (SqL.of hp)
              rw [ex0] at ey
              cases ey
              refine ⟨wipeE ρ own, F, fp, d, w.env.wipe own, fx, ?_⟩
              cases ht : t d (wipeE ρ own) with
              | none => rw [ht] at rest; exact rest.elim
              | some ρa =>
                rw [ht] at rest
                intro σ2 fp2 e3 p3 so
                have hw := wipe_eq so hl
                refine ⟨hw, ρa, F, fp2, e3, ?_⟩
                have st3 : Stp H1 F1 (un fp1) H2 F (un fp2) := ⟨w.stp.keep, w.stp.frm, w.stp.fnew, fun a z => w.stp.pnew a (p3 a z), w.stp.dom⟩
                cases hts : ts ρa with
                | no => simp only [hts] at rest; exact rest.elim
                | ex c p ρb => simp only [hts] at rest; exact rest.elim
                | ok b ρb =>
                  simp only [hts] at rest
                  intro b' H3 F3 fp3 s3 e4 rb
                  obtain rfl : b' = b := rb
                  have D3 : H3 D = some (.lst acc) := s3.keep _ _ w.at_ fun z => w.np (p3 D z)
                  have nD3 : ¬ F3 D := fun f => by
                    rcases s3.fnew D f with g | g | g
                    · exact w.nf g
                    · exact w.np (p3 D g)
                    · rw [w.at_] at g; cases g
                  have nP3 : ¬ un fp3 D := fun f => by
                    rcases s3.pnew D f with g | g
                    · exact w.np (p3 D g)
                    · rw [w.at_] at g; cases g
                  have st4 : Stp H1 F1 (un fp1) H3 F3 (un fp3) := st3.trans s3
                  have q3 : Stq H2 F H3 F3 := e3.stq s3
                  cases b' with
                  | false =>
                    simp only [Bool.false_eq_true, if_false]
                    refine ⟨by omega, restE ρ ρb own, F3, fp3, acc, xs, st4, e4.rest hw fun j dj z => ?_, D3, nD3, nP3, w.fz.mono q3, by have := w.len; omega, rest⟩
                    obtain ⟨v, g1, g2⟩ := w.env.fz j dj z
                    exact ⟨v, g1, g2.mono q3⟩
                  | true =>
                    simp only [if_true]
                    refine ⟨ρb, F3, fp3, e4, ?_⟩
                    cases hel : el ρb with
                    | no => simp only [hel] at rest; exact rest.elim
                    | ex c p ρc => simp only [hel] at rest; exact rest.elim
                    | ok y ρc =>
                      simp only [hel] at rest
                      intro v H4 F4 fp4 s4 e5 fv
                      have D4 : H4 D = some (.lst acc) := s4.keep _ _ D3 nP3
                      have nD4 : ¬ F4 D := fun f => by
                        rcases s4.fnew D f with g | g | g
                        · exact nD3 g
                        · exact nP3 g
                        · rw [D3] at g; cases g
                      have nP4 : ¬ un fp4 D := fun f => by
                        rcases s4.pnew D f with g | g
                        · exact nP3 g
                        · rw [D3] at g; cases g
                      have st5 : Stp H1 F1 (un fp1) H4 F4 (un fp4) := st4.trans s4
                      have q4 : Stq H2 F H4 F4 := q3.trans (e4.stq s4)
                      have hal : acc.length < big := by have := w.len; omega
                      have e6 : EnvR G F4 (upd H4 D (.lst (acc ++ [v]))) σ (restE ρ ρc own) fp4 := by
                        refine EnvR.upd (e5.rest hw fun j dj z => ?_) nD4 nP4 fun u z => ?_
                        · obtain ⟨v, g1, g2⟩ := w.env.fz j dj z
                          exact ⟨v, g1, g2.mono q4⟩
                        · rw [D4] at z; cases z; exact fun z => z
                      have st6 : Stp H1 F1 (un fp1) (upd H4 D (.lst (acc ++ [v]))) F4 (un fp4) := by
                        refine ⟨fun a o z n => ?_, st5.frm, st5.fnew, st5.pnew, fun a z => ?_⟩
                        · have : a ≠ D := fun q => by rw [q, hD] at z; cases z
                          rw [upd_ne this]; exact st5.keep a o z n
                        · by_cases hp : a = D
                          · rw [hp, upd_same] at z; cases z
                          · rw [upd_ne hp] at z; exact st5.dom a z
                      have q5 : Stq H4 F4 (upd H4 D (.lst (acc ++ [v]))) F4 := by
                        refine ⟨fun a o z f => ?_, fun a o z mm => ?_, fun _ f => f⟩
                        · rw [upd_ne (fun q => nD4 (by rw [← q]; exact f))]; exact z
                        · rw [upd_ne (fun q => by rw [q, D4] at z; cases z; exact mm)]; exact z
                      refine ⟨acc, D4, Nat.lt_of_lt_of_le hal big_line, by omega, restE ρ ρc own, F4, fp4, acc ++ [v], xs ++ [y], st6, e6, upd_same, nD4, nP4, (FzA.snoc (w.fz.mono q4) fv).mono q5, by rw [List.length_append, List.length_singleton]; have := w.len; omega, ?_⟩
                      have hr : ((lcLoopO s t ts el own (d0.length - (i + 1)) (i + 1) (restE ρ ρc own)).bind fun ys ρ' => Rz.ok (y :: ys) ρ').bind (fun ys ρ' => Rz.ok (IV.lst (xs ++ ys)) ρ')
                          = (lcLoopO s t ts el own (d0.length - (i + 1)) (i + 1) (restE ρ ρc own)).bind fun ys ρ' => Rz.ok (IV.lst (xs ++ [y] ++ ys)) ρ' := by
                        cases lcLoopO s t ts el own (d0.length - (i + 1)) (i + 1) (restE ρ ρc own) with
                        | ok a b => simp only [Rz.bind, List.append_assoc, List.singleton_append]
                        | ex c p b => rfl
                        | no => rfl
                      rw [← hr]; exact rest
        | _ => rw [hs] at rest; exact rest.elim
section
variable (o : Ok X G W) (i : Nat) {x : Str} {npos : Pos} {elt tg : Expr} {ifs : List Expr} {scope : Scope} {own : List (Str × Nat)} {pos : Pos} {t : TM} {l : List Nat} {ts : EB} {el : E} (hN : X.N.Nodup) (ok : BlkOk X.N X.env.scope scope own)
  (hg : ∀ (s : Shared) (H : Hp) (C : Addr) (cl : List (Str × Addr)) (fp : List Addr), PG (X.blk s H scope (compEnvC scope cl C X.env) fp) tg (tgOf G l t)) (ht : ∀ (s : Shared) (H : Hp) (C : Addr) (cl : List (Str × Addr)) (fp : List Addr), PTs (X.blk s H scope (compEnvC scope cl C X.env) fp) ifs (ttOf G W0 ts))
  (he : ∀ (s : Shared) (H : Hp) (C : Addr) (cl : List (Str × Addr)) (fp : List Addr), PE (X.blk s H scope (compEnvC scope cl C X.env) fp) elt (teOf G W0 el)) (hl : ∀ i ∈ l, i ∈ own.map (·.2) := by decide)
  (hi : X.N[i]? = some x := by rfl) (hv : Vis X.env.scope x := by first | exact Or.inl rfl | exact Or.inr (Or.inl rfl) | exact Or.inr (Or.inr rfl)) (hd : (x == ("__debug__" : Str)) = false := by decide) (hcd : (x == ("__classdict__" : Str)) = false := by decide)
  (hs : ∀ z, foldedSetIterable (.Name x npos) X.env z = pure z := by intro _; rfl)
include o hN ok hg ht he hl hi hv hd hcd hs
theorem o_lcO : PE X (.ListComp elt [⟨tg, .Name x npos, ifs, 0⟩] scope pos) (toOf G W (iLcO i t ts el (own.map (·.2)))) := by
  have h := pi_list (tg := tg) (pe_var (pos := npos) hi hv hd hcd)
  rw [o.K] at h
  exact PE.imp (pe_lc o.calm hN h ok hg ht he hs) (q_lcO hl)
theorem m_lcO : PE X (.ListComp elt [⟨tg, .Name x npos, ifs, 0⟩] scope pos) (teOf G W (iLcO i t ts el (own.map (·.2)))) := m_frz (o_lcO o i hN ok hg ht he hl hi hv hd hcd hs) (iLcO_fz _ _ _ _ _)
end
end
end MR
set_option maxRecDepth 100000
set_option maxHeartbeats 4000000
/-! MirX: + and * and slices of anything; classes by name. -/
namespace MR
open PySem L2 PyProof.Rows
section
variable {X : Cx} {G : Gx} {W : WX} {σ : L2.St} {H : Hp} {F : AP1} {fp : FPt} {ρ : Env} {cs : List String} {pin : List Nat}
theorem fz_new {vs : List V} {ds : List IV} {l : Addr} (hl : H l = none) (a : FzA G F H vs ds) (z : vs.length ≤ big) : Fr H F (upd H l (.lst vs)) (fun a => F a ∨ a = l) ∧ Fz G (fun a => F a ∨ a = l) (upd H l (.lst vs)) (.ref l) (.lst ds) := by
  have fr : Fr H F (upd H l (.lst vs)) (fun a => F a ∨ a = l) := Fr.newF hl
  exact ⟨fr, .lst (Or.inr rfl) upd_same (a.mono fr.stq) z⟩
def oAdd4 (x y : IV) : Option IV := match x with
  | .lst _ => oCat x y
  | _ => oPlus x y
def rAdd4 (K : Frag) : R2 := fun x y H Q => rPlus K x y H Q ∨ rCat x y H Q
theorem ob_add4 : OpB G (rAdd4 G.K) oAdd4 := by
  intro F H x y dx dy d Q hx hy hf k
  unfold oAdd4 at hf
  split at hf
  · rename_i xs
    unfold oCat at hf
    split at hf
    · rename_i xs2 ys hh
      cases hh
      split at hf
      · rename_i hz
        cases hf
        obtain ⟨p, vs, rfl, h1, a1, z1⟩ := hx.seqL
        obtain ⟨p2, vs2, rfl, h2, a2, z2⟩ := hy.seqL
        have e1 := a1.len
        have e2 := a2.len
        refine Or.inr ⟨p, p2, vs, vs2, rfl, rfl, h1, h2, big_le (by omega), fun l hl => ?_⟩
        obtain ⟨fr, fz⟩ := fz_new hl (a1.app a2) (by rw [List.length_append]; omega)
        exact k _ _ _ fr fz
      · cases hf
    · cases hf
  · exact Or.inl (ob_plus F H x y dx dy d Q hx hy hf k)
theorem m_add4 (o : Ok X G W) {a b : Expr} {A B : E} {pos : Pos} (ha : PE X a (teOf G W A)) (hb : PE X b (teOf G W B)) : PE X (.BinOp a .Add b pos) (teOf G W (iBin oAdd4 A B)) := by
  have h : OpR X (binaryOp .Add) (rAdd4 X.K) := OpR.or op_plus op_cat
  rw [o.K] at h
  exact m_bin h ob_add4.toF ha hb
theorem m_add4V (o : Ok X G W) {a b : Expr} {A B : EV} {pos : Pos} (ha : PE X a (tvOf G W A)) (hb : PE X b (tvOf G W B)) : PE X (.BinOp a .Add b pos) (teOf G W (iBinV oAdd4 A B)) := by
  have h : OpR X (binaryOp .Add) (rAdd4 X.K) := OpR.or op_plus op_cat
  rw [o.K] at h
  exact m_binV h ob_add4 ha hb
def oMul4 (x y : IV) : Option IV := match x with
  | .lst _ => oRep x y
  | _ => oMul x y
def rMul4 : R2 := fun x y H Q => rI CMul (fun i j => .int (i * j)) x y H Q ∨ rRep x y H Q
theorem ob_mul4 : OpB G rMul4 oMul4 := by
  intro F H x y dx dy d Q hx hy hf k
  unfold oMul4 at hf
  split at hf
  · rename_i xs
    unfold oRep at hf
    split at hf
    · rename_i xs n hh
      split at hf
      · rename_i hz
        cases hf
        obtain ⟨h1, h2, h3⟩ := hz
        cases hy.int_inv
        obtain ⟨p, vs, rfl, hp, a1, z1⟩ := hx.seqL
        have e1 := a1.len
        cases hh
        have hm : vs.length * n.toNat ≤ big := Nat.le_trans (Nat.mul_le_mul (by omega : vs.length ≤ 1000) (by omega : n.toNat ≤ 1000)) (by decide)
        refine Or.inr ⟨p, n, vs, rfl, rfl, hp, by omega, by omega, big_le hm, fun l hl => ?_⟩
        obtain ⟨fr, fz⟩ := fz_new hl (a1.rep n.toNat) (by rw [rep_len, Nat.mul_comm]; exact hm)
        exact k _ _ _ fr fz
      · cases hf
    · cases hf
  · unfold oMul fIc at hf
    split at hf
    · split at hf
      · rename_i hc
        cases hx.int_inv
        cases hy.int_inv
        cases hf
        simp only [mulC, Bool.or_eq_true, Bool.and_eq_true, decide_eq_true_eq] at hc
        exact Or.inl ⟨_, _, rfl, rfl, hc, k _ _ _ (Fr.refl _ _) (.int _)⟩
      · cases hf
    · cases hf
theorem m_mul4 {a b : Expr} {A B : E} {pos : Pos} (ha : PE X a (teOf G W A)) (hb : PE X b (teOf G W B)) : PE X (.BinOp a .Mult b pos) (teOf G W (iBin oMul4 A B)) := by
  have h : OpR X (binaryOp .Mult) rMul4 := OpR.or op_mul op_rep
  exact m_bin h ob_mul4.toF ha hb
/-! slices of anything -/
def fSl4 (d : IV) (lo hi : Option Int) : Option IV := match d with
  | .lst _ => fSlL d lo hi
  | _ => fSl d lo hi
def rSl4 (K : Frag) : V → Option Int → Option Int → Hp → VK → Prop := fun x lo hi H Q => rSlM K x lo hi H Q ∨ rSlL K x lo hi H Q
theorem m_sl4 (o : Ok X G W) {e : Expr} {lo hi : Option Expr} {p2 pos : Pos} {A : EV} {L U : EO} (he : PE X e (tvOf G W A)) (hl : PO X lo (tpOf G W L)) (hu : PO X hi (tpOf G W U)) : PE X (.Subscript e (.Slice lo hi none p2) pos) (teOf G W (iSl fSl4 A L U)) := by
  have h : SlR X (rSl4 X.K) := SlR.or (SlR.or sl_tupA sl_str) sl_list
  rw [o.K] at h
  refine PE.imp (pe_slice h he hl hu) ?_
  rintro σ H Q ⟨ρ, F, fp, e, h⟩
  refine oc_bind e h fun x a ρ1 H1 F1 fp1 s1 e1 r1 h1 => ?_
  refine oc_bind e1 h1 fun l l' ρ2 H2 F2 fp2 s2 e2 r2 h2 => ?_
  refine oc_bind e2 h2 fun u u' ρ3 H3 F3 fp3 s3 e3 r3 h3 => ?_
  obtain rfl : l = l' := r2
  obtain rfl : u = u' := r3
  have r1' : RAv G σ F3 H3 x a := RAv.mono (e2.stq s3) (RAv.mono (e1.stq s2) r1)
  cases hf : (rs a ρ3).bind fun d => fSl4 d l u with
  | none => rw [hf] at h3; exact h3.elim
  | some d =>
    rw [hf] at h3
    obtain ⟨dx, g1, g2⟩ := Option.bind_eq_some_iff.mp hf
    have b := r1'.bz e3 g1
    unfold fSl4 at g2
    split at g2
    · have g3 : some (IV.lst (cutI _ l u)) = some d := g2
      · cases g3
        obtain ⟨p, vs, rfl, hp, al, z⟩ := b.seqL
        refine Or.inr ⟨p, vs, rfl, SqL.of hp, fun q hq => ?_⟩
        obtain ⟨fr, fz⟩ := fz_new hq (al.cut l u) (Nat.le_trans (cutV_length _ _ _) z)
        exact oc_ok h3 e3 fr fz
    · unfold fSl at g2
      split at g2
      · cases g2
        obtain ⟨p, vs, rfl, hp, al, z⟩ := b.seqT
        refine Or.inl (Or.inl ⟨p, vs, rfl, hp, fun ⟨w1, w2⟩ => ?_, fun w q hq => ?_⟩)
        · have e0 : cutV vs l u = vs := by
            unfold cutV
            rw [w1, w2, List.drop_zero, Nat.sub_zero, List.take_length]
          have c := al.cut l u
          rw [e0] at c
          exact oc_ok h3 e3 (Fr.refl _ _) (.tup hp c z)
        · exact oc_ok h3 e3 (Fr.new hq) (.tup (SqT.of upd_same) ((al.cut l u).mono (Fr.new hq).stq) (Nat.le_trans (cutV_length _ _ _) z))
      · split at g2
        · rename_i hz
          cases g2
          cases b.str_inv
          exact Or.inl (Or.inr ⟨_, rfl, big_le hz, oc_ok h3 e3 (Fr.refl _ _) (.str _)⟩)
        · cases g2
      · cases g2
end
/-! ### classes, by name -/
theorem prB_ok {K : Frag} {C : Addr} {g : Str} (h : prB K C g = true) : PropOf K C g (prAt K C g) (gtAt K (prAt K C g)) := by
  obtain ⟨h1, h⟩ := He.ba h
  obtain ⟨h2, h⟩ := He.ba h
  obtain ⟨h3, h⟩ := He.ba h
  refine ⟨of_decide_eq_true h1, of_decide_eq_true h2, of_decide_eq_true h3, ?_⟩
  split at h
  · rename_i a r q
    rw [q, of_decide_eq_true h]
    exact ⟨r, rfl⟩
  · cases h
theorem naB_ok {K : Frag} {cs : List String} {f : Str} (h : naB K (cs.map Str.ofString) f = true) : ∀ c ∈ cs, NoAttr (gx K).K ((gx K).cls c) f := fun c hc => by
  have := List.all_eq_true.mp h (Str.ofString c) (List.mem_map.mpr ⟨c, hc, rfl⟩)
  exact (of_decide_eq_true this : PySem.W.findIn K (.ref (He.ga K (Str.ofString c))) f = some none)
section
variable {P : Program} {w : World} {K : Frag} {mg : Str → Option Value} {base : Heap}
structure PropM (P : Program) (w : World) (K : Frag) (mg : Str → Option Value) (base : Heap) (G : Gx) (c : String) (g f : Str) : Prop where
  ex : ∃ (p ga : Addr) (fd : FuncData) (ps : List Str), Cls K (G.cls c) ∧ PropOf K (G.cls c) g p ga ∧ FnOk P w K mg base (L2.CX P w) 1 ga fd ps (getSp (G.cls c) f) ∧ Binds K fd ps []
theorem prop_of {d : DefM} {fd : FuncData} {c : String} {g f : Str} {p1 p2 p3 : Pos} (hc : Cls K ((gx K).cls c)) (hp : prB K ((gx K).cls c) g = true) (hn : NoAttr K ((gx K).cls c) f) (F : FunM K d fd) (ha : d.adr K = gtAt K (prAt K ((gx K).cls c) g)) (hd : d.dvs K = [])
    (S : FnScope ["self"] ["self"] (defScope d.st)) (hb : defBody d.st = [.Return (some (.Attribute (.Name "self" p1) f p2)) p3]) (hkw : d.kws K = [])
    (hbi : ∀ (kV doc pm : Value) (an : Option Addr) (cdv ct : Value) (us : List Value), us.length = (["self"] : List Str).length → bindArgs (PySem.W.fnOf d.name d.qual (defArgs d.st) (defBody d.st) (defScope d.st) .none kV doc pm an cdv ct) ⟨us, []⟩ = pure ((["self"] : List Str).zip us)) : PropM P w K mg base (gx K) c g f := by
  have F' := F
  rw [FunM, hd, hkw] at F'
  have bi := FunD.bindsN F' hbi
  obtain ⟨oc, od, dV, kV, doc, pm, an, cdv, ct, osl, e, lk, hcd, _, _⟩ := F.ex
  refine ⟨_, _, fd, ["self"], hc, prB_ok hp, ?_, bi⟩
  rw [← ha]
  subst e
  exact fn_getter lk hcd S rfl hb hc hn
structure MkM (P : Program) (w : World) (K : Frag) (mg : Str → Option Value) (base : Heap) (G : Gx) (k : Nat) (c : String) (x : Str) (n : Nat) (fn : Fn) (f : Addr) (fd : FuncData) (ps : List Str) : Prop where
  gl : mg x = some (.ref (G.cls c))
  mkr : Mk K (G.cls c) f
  ok : FnOk P w K mg base (L2.CX P w) k f fd ps (spOf G (ksI n) fn)
  len : ps.length = n + 1
end
section
variable {X : Cx} {G : Gx} {W : WX}
theorem m_propM (o : Ok X G W) (c : String) {e : Expr} {g f : Str} {A : EV} {pos : Pos} (h : PropM X.prog X.w X.K X.mg X.base G c g f) (hr : Room 2 X.A) (he : PE X e (tvOf G W A)) (hab : attributeBase e g X.env (eval e X.env) = eval e X.env := by rfl) : PE X (.Attribute e g pos) (teOf G W (iProp c A f)) := by
  obtain ⟨p, ga, fd, ps, h1, h2, h3, h4⟩ := h.ex
  exact m_prop o c h1 h2 h3 hr h4 he hab
theorem m_makeM (o : Ok X G W) {c : String} {k n : Nat} {f : Addr} {fd : FuncData} {ps : List Str} {fn : Fn} {x : Str} {e : Expr} {es : List Expr} {p pos : Pos} {A : EA} (M : MkM X.prog X.w X.K X.mg X.base G k c x n fn f fd ps) (hb : Binds X.K fd ps []) (hr : Room (k + 1) X.A)
    (ha : PA X (e :: es) (taOf G W A)) (hA : LenA A (e :: es).length) (hn : n = (e :: es).length := by rfl) (hg : Gl X x := by rfl) (hdb : (x == ("__debug__" : Str)) = false := by decide)
    (he : starEach (e :: es) X.env = (false, eval e X.env) :: starEach es X.env := by rfl) (hpl : (backTo pos (starEach es X.env)).any (·.1) = false := by rfl) : PE X (.Call (.Name x p) (e :: es) [] pos) (teOf G W (iMake c fn [] A)) :=
  m_make o c (dds := []) (dvs := []) M.mkr M.ok hr hg M.gl hb .nil (fun _ _ => .nil) (by rw [hn]; simp) M.len ha hA.len hdb he hpl
theorem m_makeKM (o : Ok X G W) {c : String} {k n m : Nat} {f : Addr} {fd : FuncData} {ps ks : List Str} {fn : Fn} {x : Str} {e : Expr} {es : List Expr} {kws : List Keyword} {p pos : Pos} {A Z : EA} (M : MkM X.prog X.w X.K X.mg X.base G k c x (n + m) fn f fd ps) (hr : Room (k + 1) X.A)
    (hb : KBn X.K fd ps (n + 1) ks (fun us ws => us ++ ws) (fun vs zs => vs ++ zs)) (ha : PA X (e :: es) (taOf G W A)) (hA : LenA A n) (hk : PK X kws (taOf G W Z)) (hZ : LenA Z m) (hm2 : ks.length = m := by rfl) (hg : Gl X x := by rfl)
    (hall : (backToKw pos (keywordEach kws X.env)).all (·.1.isSome) = true := by rfl) (hks : (backToKw pos (keywordEach kws X.env)).filterMap (·.1) = ks := by rfl) (hdb : (x == ("__debug__" : Str)) = false := by decide)
    (he : starEach (e :: es) X.env = (false, eval e X.env) :: starEach es X.env := by rfl) (hpl : ((backTo pos (starEach (e :: es) X.env)).any (·.1) || (backToKw pos (keywordEach kws X.env)).any (·.1.isNone)) = false := by rfl) :
    PE X (.Call (.Name x p) (e :: es) kws pos) (teOf G W (iMakeK c fn A Z)) := m_makeK o c M.mkr M.ok hr hg M.gl hb ha hA hk hZ hm2 hall hks hdb he hpl
end
/-- an own ==, by name -/
structure EqS (P : Program) (w : World) (K : Frag) (mg : Str → Option Value) (base : Heap) (G : Gx) (n : Nat) (c : String) (fn : Fn) (f : Addr) (fd : FuncData) (ps : List Str) : Prop where
  ok : FnOk P w K mg base (L2.CX P w) n f fd ps (spOf G [false, false] fn)
  eq : PySem.W.findIn K (.ref (G.cls c)) "__eq__" = some (some (.ref f))
  fn_ : PySem.W.isFn K (.ref f) = true
  bi : Binds K fd ps []
theorem EqS.to {X : Cx} {G : Gx} {n : Nat} {c : String} {fn : Fn} {f : Addr} {fd : FuncData} {ps : List Str} (h : EqS X.prog X.w X.K X.mg X.base G n c fn f fd ps) : EqF X G n c fn f fd ps := ⟨h.ok, h.eq, h.fn_, h.bi⟩
/-- a promise that lets nothing out -/
theorem shut {P : Program} {w : World} {K : Frag} {mg : Str → Option Value} {base : Heap} {k : Nat} {f : Addr} {fd : FuncData} {ps : List Str} {sp : Sp} (F : FnOk P w K mg base (L2.CX P w) k f fd ps sp) : FnOk P w K mg base CX0 k f fd ps (fun vs H Q _ => sp vs H Q fun _ _ _ => False) :=
  ⟨fun vs H Q E h => F.len _ _ _ _ h, fun A outer s H as us vs Q E hr he hb hv hs => codeAny_mono (F.run A outer s H as us vs Q _ hr he hb hv hs) fun r s' q => by
    cases r with
    | error e => obtain ⟨_, _, _, _, _, _, _, _, _, _, _, _, hE⟩ := q; exact hE.elim
    | ok fl => cases fl <;> exact q⟩
end MR
set_option maxRecDepth 100000
set_option maxHeartbeats 4000000
/-! MirY: extend, repr (where no repr is under way), calls by name, defs whose promise wants that no repr is under way. -/
namespace MR
open PySem L2 PyProof.Rows
section
variable {X : Cx} {G : Gx} {W : WX} {σ : L2.St} {H : Hp} {F : AP1} {fp : FPt} {ρ : Env} {pin : List Nat}
/-! ### x.extend(e) -/
def sExt (i : Nat) (m : E) : S := fun ρ => if isOwL ρ[i]? = true then (m ρ).bindS fun d ρ1 => match d, ρ1[i]? with
  | .lst es, some (.ow (.lst ds)) => if ds.length + es.length < 100000 then .nx (ρ1.set i (.ow (.lst (ds ++ es)))) else .no
  | _, _ => .no else .no
theorem s_ext (o : Ok X G W) (i : Nat) {x : Str} {e : Expr} {m : E} {apos cpos pos npos : Pos} (he : PE X e (teOf G W m)) (hN : X.N[i]? = some x := by rfl)
    (hv : Vis X.env.scope x := by first | exact Or.inl rfl | exact Or.inr (Or.inl rfl) | exact Or.inr (Or.inr rfl)) (hd : (x == ("__debug__" : Str)) = false := by decide) (hcd : (x == ("__classdict__" : Str)) = false := by decide)
    (hbase : attributeBase (.Name x npos) "extend" X.env (eval (.Name x npos) X.env) = eval (.Name x npos) X.env := by rfl)
    (hfew : ((backTo cpos (starEach [e] X.env)).all (fun x => !x.1) && (backToKw cpos (keywordEach [] X.env)).all (fun x => x.1.isSome)
      && decide (([e] : List Expr).length + ([] : List Keyword).length + (if ([] : List Keyword).isEmpty then 0 else 1) < 30)) = true := by rfl)
    (hline : (apos.endLine == cpos.line) = true := by rfl) (hs1 : starEach [e] X.env = [(false, eval e X.env)] := by rfl)
    (hs : swapsWith (.Call (.Attribute (.Name x npos) "extend" apos) [e] [] cpos) none pos.line X.env = pure false := by rfl) :
    PS X (.Expr (.Call (.Attribute (.Name x npos) "extend" apos) [e] [] cpos) pos) (tsOf G W pin (sExt i m)) := by
  have hm : MtR X "list.extend" rExtend := mt_extend
  refine PS.imp (ps_expr (pe_bm PySem.F.plainAttrs_list PySem.F.slot_list_extend PySem.F.type_list_extend hm (pe_var hN hv hd hcd) (pa_cons he pa_nil hs1) hbase hfew hline hs1 rfl) hs) ?_
  rintro D σ H ⟨ρ, F, fp, en, h⟩
  unfold sExt at h
  split at h
  · rename_i hw
    obtain ⟨d0, hd0⟩ := isOwL_some hw
    obtain ⟨u, g1, g2⟩ := en.ow i _ hd0
    refine ⟨u, g1, by rw [o.K]; exact g2.isL, ?_⟩
    refine ocS_bind en h fun y d ρ1 H1 F1 fp1 s1 e1 r1 h1 => ?_
    split at h1
    · rename_i es ds hds
      obtain ⟨u', g1', g2'⟩ := e1.ow i _ hds
      obtain rfl : u' = u := by rw [g1] at g1'; cases g1'; rfl
      split at h1
      · rename_i hz
        obtain ⟨b, ws, rfl, hb, ab, zb⟩ := Bz.seqL (.fz r1)
        cases g2' with
        | @lst p vs _ _ hp a z q =>
          have hq := (q p).mpr rfl
          have hl := a.len
          have hl2 := ab.len
          have qq := e1.putS (o := .lst (vs ++ ws)) hq
          refine ⟨p, b, vs, ws, rfl, rfl, hp, hb, big_le (Nat.le_trans (by omega : vs.length + ws.length ≤ 100000) (by decide)), ?_⟩
          exact h1 σ _ F1 fp1 (Stp.put hq) (e1.put hq g1 (fun z => z) (.lst upd_same (FzA.app (a.mono qq) (ab.mono qq)) (by rw [List.length_append]; exact Nat.le_trans (by omega : vs.length + ws.length ≤ 100000) (by decide)) q)) (Pn.refl _ _)
      · exact h1.elim
    · exact h1.elim
  · exact h.elim
/-! ### repr(x), x a tuple or a list of plain data -/
def isSq : IV → Bool
  | .tup _ => true
  | .lst _ => true
  | _ => false
def rpOk (d : IV) : Bool := pln d && ((pd d).showable && (!(pd d).hasDict && (decide ((pd d).shown.length ≤ sizeLine) && decide ((pd d).depth ≤ 60))))
def fRepr : List IV → Option IV
  | [d] => if rpOk d = true then some (.str (pd d).shown) else none
  | _ => none
def rRepr (K : Frag) : List V → Hp → VK → Prop := fun xs H Q => ∃ v d, xs = [v] ∧ Dp K H v d ∧ d.showable = true ∧ d.hasDict = false ∧ d.shown.length ≤ sizeLine ∧ d.depth ≤ 60 ∧ Q (.str d.shown) H
theorem c_repr (hG : X.A.guards = some []) (hu : X.A.units + 80 < cLine) : CallR X (.builtin "repr") (rRepr X.K) := by
  intro pins s σ H xs us Q I r h
  obtain ⟨v, d, rfl, hp, h1, h2, h3, h4, q⟩ := h
  obtain ⟨u, rfl, ru⟩ := r.one
  obtain ⟨as, rd⟩ := Dp.reads I d v u hp ru
  have fin : ∀ a, u = .ref a → wpAny (model X.prog X.w) X.A (call (.builtin "repr") [u]) (EP X pins σ Q) X.xe s := by
    rintro a rfl
    refine repr_of_reads' rd h1 (fun z => by rw [h2] at z; cases z) hG (by omega) (fun b o e => e) (fun h' u tk k => ?_) h3
    exact ⟨.str d.shown, H, I.kept k, ⟨u, rfl⟩, q⟩
  cases hp with
  | non =>
    cases ru
    refine P.repr_of_none ?_
    exact ⟨.str "None", H, I.tok _, ⟨_, rfl⟩, by simpa only [PyData.shown] using q⟩
  | bl b =>
    cases ru
    refine P.repr_of_bool ?_
    exact ⟨.str (if b then "True" else "False"), H, I.tok _, ⟨_, rfl⟩, by simpa only [PyData.shown] using q⟩
  | int i =>
    obtain ⟨t, rfl⟩ := ru
    refine P.repr_of_int (by simpa [PyData.showable] using h1) ?_
    exact ⟨.str (toString i), H, I.tok _, ⟨_, rfl⟩, by simpa only [PyData.shown] using q⟩
  | str x =>
    obtain ⟨t, rfl⟩ := ru
    refine P.repr_of_str ?_ (by simpa only [PyData.shown] using h3)
    exact ⟨.str (reprText x), H, I.kept (t' := s.toks + 1) fun b o e => e, ⟨_, rfl⟩, by simpa only [PyData.shown] using q⟩
  | _ => cases ru; exact fin _ rfl
theorem b_repr : CallB G (rRepr G.K) fRepr := by
  intro F H xs ds d Q hx hf k
  unfold fRepr at hf
  split at hf
  · rename_i d1
    split at hf
    · rename_i hs
      cases hf
      unfold rpOk at hs
      simp only [Bool.and_eq_true, Bool.not_eq_true', decide_eq_true_eq] at hs
      obtain ⟨h1, h2, h3, h4, h5⟩ := hs
      obtain ⟨v, rfl, b⟩ := hx.one
      exact ⟨_, _, rfl, b.dp h1, h2, h3, h4, h5, k _ _ _ (Fr.refl _ _) (.str _)⟩
    · cases hf
  · cases hf
theorem m_repr (o : Ok X G W) (hG : X.A.guards = some []) {e : Expr} {p pos : Pos} {J : EAv} (hg : Gl X "repr") (hm : X.mg "repr" = none) (ha : PA X [e] (tjOf G W J)) (he : starEach [e] X.env = [(false, eval e X.env)] := by rfl) : PE X (.Call (.Name "repr" p) [e] [] pos) (teOf G W (iCallJ fRepr J)) := by
  have hc : CallR X (.builtin "repr") (rRepr X.K) := c_repr hG (by have := o.hu; omega)
  rw [o.K] at hc
  exact m_callJ hc b_repr hg hm rfl ha (he := he)
end
/-! ### f(k = v, ..), values only -/
def permL {α : Type} (perm : List Nat) (l : List α) : List α := perm.filterMap fun i => l[i]?
theorem vals_perm {vs : List V} {us : List Value} (r : Vals vs us) (perm : List Nat) : Vals (permL perm vs) (permL perm us) := by
  induction perm with
  | nil => exact .nil
  | cons i perm ih =>
    cases hv : vs[i]? with
    | none =>
      have hu : us[i]? = none := by
        rw [List.getElem?_eq_none_iff] at hv ⊢
        rw [← r.length]; exact hv
      have e1 : permL (i :: perm) vs = permL perm vs := by unfold permL; rw [List.filterMap_cons, hv]
      have e2 : permL (i :: perm) us = permL perm us := by unfold permL; rw [List.filterMap_cons, hu]
      rw [e1, e2]
      exact ih
    | some v =>
      obtain ⟨u, hu, q⟩ := r.get hv
      have e1 : permL (i :: perm) vs = v :: permL perm vs := by unfold permL; rw [List.filterMap_cons, hv]
      have e2 : permL (i :: perm) us = u :: permL perm us := by unfold permL; rw [List.filterMap_cons, hu]
      rw [e1, e2]
      exact .cons q ih
theorem fza_get {G : Gx} {F : AP1} {H : Hp} : ∀ {vs : List V} {ds : List IV} {i : Nat} {v : V}, FzA G F H vs ds → vs[i]? = some v → ∃ d, ds[i]? = some d ∧ Fz G F H v d
  | _, _, _, _, .nil, e => by simp at e
  | _, _, 0, _, .cons r _, e => by simp at e; subst e; exact ⟨_, rfl, r⟩
  | _, _, i + 1, _, .cons _ r, e => by
    obtain ⟨d, h1, h2⟩ := fza_get (i := i) r (by simpa using e)
    exact ⟨d, by simpa using h1, h2⟩
theorem fza_perm {G : Gx} {F : AP1} {H : Hp} {vs : List V} {ds : List IV} (r : FzA G F H vs ds) (perm : List Nat) : FzA G F H (permL perm vs) (permL perm ds) := by
  induction perm with
  | nil => exact .nil
  | cons i perm ih =>
    cases hv : vs[i]? with
    | none =>
      have hu : ds[i]? = none := by
        rw [List.getElem?_eq_none_iff] at hv ⊢
        rw [← r.len]; exact hv
      have e1 : permL (i :: perm) vs = permL perm vs := by unfold permL; rw [List.filterMap_cons, hv]
      have e2 : permL (i :: perm) ds = permL perm ds := by unfold permL; rw [List.filterMap_cons, hu]
      rw [e1, e2]
      exact ih
    | some v =>
      obtain ⟨u, hu, q⟩ := fza_get r hv
      have e1 : permL (i :: perm) vs = v :: permL perm vs := by unfold permL; rw [List.filterMap_cons, hv]
      have e2 : permL (i :: perm) ds = u :: permL perm ds := by unfold permL; rw [List.filterMap_cons, hu]
      rw [e1, e2]
      exact .cons q ih
theorem ras_v {G : Gx} {σ : L2.St} {F : AP1} {H : Hp} : ∀ {vs : List V} {ds : List IV}, FzA G F H vs ds → RAs G σ F H vs (ds.map .v)
  | _, _, .nil => .nil
  | _, _, .cons h t => .cons h (ras_v t)
/-- how the written arguments come to the parameters: n by place, m by name -/
structure KBp (K : Frag) (fd : FuncData) (ps : List Str) (n : Nat) (ks : List Str) (perm : List Nat) : Prop where
  pos : 0 < ps.length
  to : ∀ (s : Shared) (us ws : List Value), K.In s.heap → us.length = n → ws.length = ks.length → BindsTo s fd ⟨us, ks.zip ws⟩ (ps.zip (permL perm (us ++ ws)))
def guardL {α : Type} (n m : Nat) (perm : List Nat) (us ws : List α) : List α := if us.length = n ∧ ws.length = m then permL perm (us ++ ws) else []
theorem KBp.kb {K : Frag} {fd : FuncData} {ps ks : List Str} {n : Nat} {perm : List Nat} (b : KBp K fd ps n ks perm) : KBinds K fd ps ks (guardL n ks.length perm) (guardL n ks.length perm) := by
  refine ⟨fun s us ws kin hl => ?_, fun {vs us zs ws} r1 r2 => ?_⟩
  · unfold guardL at hl ⊢
    by_cases h : us.length = n ∧ ws.length = ks.length
    · rw [if_pos h]; exact b.to s us ws kin h.1 h.2
    · rw [if_neg h] at hl
      have := b.pos
      simp at hl; omega
  · unfold guardL
    rw [r1.length, r2.length]
    by_cases h : us.length = n ∧ ws.length = ks.length
    · rw [if_pos h, if_pos h]; exact vals_perm (r1.append r2) perm
    · rw [if_neg h, if_neg h]; exact .nil
/-- .. by a def's text -/
theorem FunM.kbp {K : Frag} {d : DefM} {fd : FuncData} {ps ks : List Str} {n : Nat} {perm : List Nat} (F : FunM K d fd) (hp : 0 < ps.length) (hd : d.dfl = [])
    (h : ∀ (kV doc pm : Value) (an : Option Addr) (cdv ct : Value) (us ws : List Value), us.length = n → ws.length = ks.length → bindArgs (PySem.W.fnOf d.name d.qual (defArgs d.st) (defBody d.st) (defScope d.st) .none kV doc pm an cdv ct) ⟨us, ks.zip ws⟩ = pure (ps.zip (permL perm (us ++ ws)))) : KBp K fd ps n ks perm := by
  obtain ⟨oc, od, dV, kV, doc, pm, an, cdv, ct, osl, rfl, lk, hcd, hD, _⟩ := F.ex
  have hd' : d.dvs K = [] := by unfold DefM.dvs; rw [hd]; rfl
  rw [hd'] at hD
  rcases hD with ⟨_, rfl⟩ | ⟨e, _⟩
  · exact ⟨hp, fun s us ws kin h1 h2 => .of_eq (h kV doc pm an cdv ct us ws h1 h2)⟩
  · exact absurd rfl e
structure FnK (P : Program) (w : World) (K : Frag) (mg : Str → Option Value) (base : Heap) (G : Gx) (k : Nat) (x : Str) (np : Nat) (fn : Fn) (n : Nat) (ks : List Str) (perm : List Nat) : Prop where
  ex : ∃ (f : Addr) (fd : FuncData) (ps : List Str), mg x = some (.ref f) ∧ PySem.W.keepIn K (.ref f) = true ∧ KBp K fd ps n ks perm ∧ FnOk P w K mg base (L2.CX P w) k f fd ps (spOf G (List.replicate np false) fn)
def iCallK (np : Nat) (fn : Fn) (perm : List Nat) (A Z : EA) : E := fun ρ => (A ρ).bind fun ds ρ1 => (Z ρ1).bind fun zs ρ2 => callF (List.replicate np false) fn ((permL perm (ds ++ zs)).map .v) ρ2
/-- a call's end, whatever ended it -/
theorem end_of {X : Cx} {CX : CXT} {pins : List (Addr × Obj)} {σ : L2.St} {H : Hp} {s : Shared} {Q : VK} {E : XK} (hx : PassesAt CX X σ E) (I : Inv X pins σ H s) {c : Code}
    (h : codeAny (model X.prog X.w) X.A c (CR CX X.stack X.prog X.w H s Q E) s) : codeAny (model X.prog X.w) X.A c (fun r s' => match r with
      | .ok (.ret u) => EP X pins σ Q u s'
      | .ok _ => False
      | .error e => X.xe e s') s := codeAny_mono h fun r s' hq => by
  cases r with
  | error e => exact hx pins H s e s' I hq
  | ok fl => cases fl <;> first | exact I.after hq | exact hq.elim
theorem run_fnkS {X : Cx} {CX : CXT} {k : Nat} {f : Addr} {fd : FuncData} {ps ks : List Str} {sp : Sp} {E : XK} {g : List Value → List Value → List Value} {gV : List V → List V → List V} {pins : List (Addr × Obj)} {σ : L2.St} {H : Hp} {s : Shared} {Q : VK} {us ws : List Value} {vs zs : List V}
    (F : FnOk X.prog X.w X.K X.mg X.base CX k f fd ps sp) (hr : Room k X.A) (hb : KBinds X.K fd ps ks g gV) (hx : PassesAt CX X σ E) (I : Inv X pins σ H s) (r : Vals vs us) (rz : Vals zs ws) (h : sp (gV vs zs) H Q E) :
    wpAny (model X.prog X.w) X.A (call (.ref f) us (ks.zip ws)) (EP X pins σ Q) X.xe s := by
  have r2 := hb.rel r rz
  have hl : (g us ws).length = ps.length := (r2.length).symm.trans (F.len _ _ _ _ h)
  have run := end_of hx I (F.run X.A X.stack s H ⟨us, ks.zip ws⟩ (g us ws) (gV vs zs) Q E hr I.env0 (hb.to s us ws I.kIn hl) r2 h)
  refine wpAny_call (codeAny_mono run fun r s' hq => ?_)
  cases r with
  | error e => exact hq
  | ok fl => cases fl <;> first | exact hq | exact hq.elim
section
variable {X : Cx} {G : Gx} {W : WX}
theorem m_callK (o : Ok X G W) {k np n : Nat} {ks : List Str} {perm : List Nat} {fn : Fn} {x : Str} {e : Expr} {es : List Expr} {kws : List Keyword} {p pos : Pos} {A Z : EA} (Fo : FnK X.prog X.w X.K X.mg X.base G k x np fn n ks perm) (hr : Room k X.A)
    (ha : PA X (e :: es) (taOf G W A)) (hA : LenA A n) (hk : PK X kws (taOf G W Z)) (hZ : LenA Z ks.length) (hg : Gl X x := by rfl)
    (hall : (backToKw pos (keywordEach kws X.env)).all (·.1.isSome) = true := by rfl) (hks : (backToKw pos (keywordEach kws X.env)).filterMap (·.1) = ks := by rfl) (hdb : (x == ("__debug__" : Str)) = false := by decide)
    (he : starEach (e :: es) X.env = (false, eval e X.env) :: starEach es X.env := by rfl) (hpl : ((backTo pos (starEach (e :: es) X.env)).any (·.1) || (backToKw pos (keywordEach kws X.env)).any (·.1.isNone)) = false := by rfl) :
    PE X (.Call (.Name x p) (e :: es) kws pos) (teOf G W (iCallK np fn perm A Z)) := by
  obtain ⟨f, fd, ps, h1, h2, hb, h4⟩ := Fo.ex
  refine ⟨fun pins s σ H Q I h => ?_⟩
  refine wpAny_Call_Name_kw (ld_glob I hg h1 ?_ hdb)
  obtain ⟨ρ, F, fp, en, h⟩ := h
  have hP : taOf G W A σ H (fun vs H1 => ∃ ds ρ1 F1 fp1, ds.length = n ∧ EnvR G F1 H1 σ ρ1 fp1 ∧ FzA G F1 H1 vs ds ∧ Oc RV G W σ H1 F1 fp1 ((Z ρ1).bind fun zs ρ2 => callF (List.replicate np false) fn ((permL perm (ds ++ zs)).map .v) ρ2) Q) := by
    refine ⟨ρ, F, fp, en, ?_⟩
    unfold iCallK at h
    cases hA' : A ρ with
    | no => rw [hA'] at h; exact h
    | ex c p ρ' => rw [hA'] at h; exact h
    | ok ds ρ1 =>
      rw [hA'] at h
      exact fun vs H1 F1 fp1 t e1 r => ⟨ds, ρ1, F1, fp1, hA.len _ _ _ hA', e1, r, Oc.step t h⟩
  refine PySem.W.callWith_KW (h₀ := X.base) I.ok.mod.kin h2 hall (thn (ha.run pos pins s σ H _ I hP) fun us s1 ⟨vs, H1, I1, r, q⟩ => ?_) hpl he
  obtain ⟨ds, ρ1, F1, fp1, hl, e1, fa, w⟩ := q
  have hZP : taOf G W Z σ H1 (fun zs H2 => ∃ es' ρ2 F2 fp2, es'.length = ks.length ∧ EnvR G F2 H2 σ ρ2 fp2 ∧ FzA G F2 H2 vs ds ∧ FzA G F2 H2 zs es' ∧ Oc RV G W σ H2 F2 fp2 (callF (List.replicate np false) fn ((permL perm (ds ++ es')).map .v) ρ2) Q) := by
    refine ⟨ρ1, F1, fp1, e1, ?_⟩
    cases hZ' : Z ρ1 with
    | no => rw [hZ'] at w; exact w
    | ex c p ρ' => rw [hZ'] at w; exact w
    | ok es' ρ2 =>
      rw [hZ'] at w
      exact fun zs H2 F2 fp2 t e2 r2 => ⟨es', ρ2, F2, fp2, hZ.len _ _ _ hZ', e2, fa.mono (e1.stq t), r2, Oc.step t w⟩
  refine thn (hk.run pos pins s1 σ H1 _ I1 hZP) fun ws s2 ⟨zs, H2, I2, rz, q2⟩ => ⟨I2.kIn, ?_⟩
  obtain ⟨es', ρ2, F2, fp2, hl2, e2, fa2, fz2, w2⟩ := q2
  rw [hks]
  have hlu : vs.length = n := by rw [fa2.len, hl]
  have hlw : zs.length = ks.length := by rw [fz2.len, hl2]
  refine run_fnkS h4 hr hb.kb (passAt o.tk σ) I2 r rz ?_
  have := call_sp e2 (ras_v (fza_perm (fa2.app fz2) perm)) w2
  unfold guardL
  rw [if_pos ⟨hlu, hlw⟩]
  exact this
theorem m_callK0 (o : Ok X G W) {k np : Nat} {ks : List Str} {perm : List Nat} {fn : Fn} {x : Str} {kws : List Keyword} {p pos : Pos} {Z : EA} (Fo : FnK X.prog X.w X.K X.mg X.base G k x np fn 0 ks perm) (hr : Room k X.A)
    (hk : PK X kws (taOf G W Z)) (hZ : LenA Z ks.length) (hg : Gl X x := by rfl)
    (hall : (backToKw pos (keywordEach kws X.env)).all (·.1.isSome) = true := by rfl) (hks : (backToKw pos (keywordEach kws X.env)).filterMap (·.1) = ks := by rfl) (hdb : (x == ("__debug__" : Str)) = false := by decide)
    (hpl : ((backTo pos (starEach [] X.env)).any (·.1) || (backToKw pos (keywordEach kws X.env)).any (·.1.isNone)) = false := by rfl) :
    PE X (.Call (.Name x p) [] kws pos) (teOf G W (iCallK np fn perm iNil Z)) := by
  obtain ⟨f, fd, ps, h1, h2, hb, h4⟩ := Fo.ex
  refine ⟨fun pins s σ H Q I h => ?_⟩
  refine wpAny_Call_Name_kw (ld_glob I hg h1 ?_ hdb)
  obtain ⟨ρ1, F1, fp1, e1, w⟩ := h
  have hZP : taOf G W Z σ H (fun zs H2 => ∃ es' ρ2 F2 fp2, es'.length = ks.length ∧ EnvR G F2 H2 σ ρ2 fp2 ∧ FzA G F2 H2 zs es' ∧ Oc RV G W σ H2 F2 fp2 (callF (List.replicate np false) fn ((permL perm ([] ++ es')).map .v) ρ2) Q) := by
    refine ⟨ρ1, F1, fp1, e1, ?_⟩
    unfold iCallK iNil at w
    simp only [Rz.bind] at w
    cases hZ' : Z ρ1 with
    | no => rw [hZ'] at w; exact w
    | ex c p ρ' => rw [hZ'] at w; exact w
    | ok es' ρ2 =>
      rw [hZ'] at w
      exact fun zs H2 F2 fp2 t e2 r2 => ⟨es', ρ2, F2, fp2, hZ.len _ _ _ hZ', e2, r2, Oc.step t w⟩
  refine PySem.W.callWith_KW0 (h₀ := X.base) I.ok.mod.kin h2 hall (thn (hk.run pos pins s σ H _ I hZP) fun ws s2 ⟨zs, H2, I2, rz, q2⟩ => ⟨I2.kIn, ?_⟩) hpl
  obtain ⟨es', ρ2, F2, fp2, hl2, e2, fz2, w2⟩ := q2
  rw [hks]
  have hlw : zs.length = ks.length := by rw [fz2.len, hl2]
  refine run_fnkS (us := []) (vs := []) h4 hr hb.kb (passAt o.tk σ) I2 .nil rz ?_
  have := call_sp e2 (ras_v (fza_perm (FzA.app .nil fz2) perm)) w2
  unfold guardL
  rw [if_pos ⟨rfl, hlw⟩]
  exact this
end
/-! ### a def whose promise wants that no repr is under way -/
structure FnG (P : Program) (w : World) (K : Frag) (mg : Str → Option Value) (base : Heap) (CX : CXT) (k : Nat) (f : Addr) (fd : FuncData) (ps : List Str) (sp : Sp) : Prop where
  len : ∀ vs H Q E, sp vs H Q E → vs.length = ps.length
  run : ∀ (A : Around) (outer : List PySem.Env) (s : Shared) (H : Hp) (as : Args) (us : List Value) (vs : List V) (Q : VK) (E : XK), A.guards = some [] → Room k A → Env0 P w K mg base A outer s H → BindsTo s fd as (ps.zip us) → Vals vs us → sp vs H Q E →
    codeAny (model P w) A (.call (.ref f) as) (CR CX outer P w H s Q E) s
theorem FnOk.g {P : Program} {w : World} {K : Frag} {mg : Str → Option Value} {base : Heap} {CX : CXT} {k : Nat} {f : Addr} {fd : FuncData} {ps : List Str} {sp : Sp} (F : FnOk P w K mg base CX k f fd ps sp) : FnG P w K mg base CX k f fd ps sp :=
  ⟨F.len, fun A outer s H as us vs Q E _ hr he hb hv hs => F.run A outer s H as us vs Q E hr he hb hv hs⟩
section
variable {P : Program} {w : World} {K : Frag} {mg : Str → Option Value} {base : Heap}
theorem fn_okG {d : DefM} {fd : FuncData} {N ps : List Str} {k : Nat} {G : Gx} {ks : List Bool} {body : S} (F : FunM K d fd) (S : FnScope N ps (defScope d.st)) (hks : ks.length = ps.length) (hN : ks.length ≤ N.length)
    (hbody : ∀ (cdv : Value) (A : Around) (outer : List PySem.Env) (s : Shared) (H : Hp) (E : XK), A.guards = some [] → Room k (A.deeper (envOfC d.qual (defScope d.st) s.heap.objs.size (d.adr K) cdv)) →
      PSs (cxOf (L2.CX P w) P w K mg base N d.qual (defScope d.st) (d.adr K) cdv A outer s H E) (defBody d.st) (tsOf G (fun cls d _ H => E cls d H) (pinOf ks 0) body)) : FnG P w K mg base (L2.CX P w) (k + 1) (d.adr K) fd ps (spOf G ks (fnOf N.length ks body)) := by
  have hlen : ∀ vs H Q E, spOf G ks (fnOf N.length ks body) vs H Q E → vs.length = ps.length := fun vs H Q E h => by rw [← hks]; exact h.1
  refine ⟨hlen, fun A outer s H as us vs Q E hG hr he hb hv hs => ?_⟩
  obtain ⟨oc, od, dV, kV, doc, pm, an, cdv, ct, osl, rfl, lk, hcd, _, _⟩ := F.ex
  exact LamX.run_ofS lk hcd S hr he hb hv (hlen _ _ _ _ hs) fun hr2 => ⟨_, hbody cdv A outer s H E hG hr2, fn_body hN hs⟩
end
/-! ### the law's end -/
/-- the heap ahead of the law: nothing is told but the script -/
theorem script_at {P : Program} {w : World} {K : Frag} {h : Heap} {a : Addr} {vs : List Value} {ns : List Int} (KX : K.In h) (ha : h.get? a = some { cls := .type "list", data := .seq vs.toArray }) (hi : IntsAre vs ns) (hl : ns.length ≤ sizeLine) :
    ∃ H : Hp, Only H ∧ SqL K H a (ns.map V.int) ∧ HOk P w H h ∧ (∀ b, H b ≠ none → b = a) ∧ (H a ≠ none → K.lookup a = none) := by
  have rv := vals_ints hi
  have hlen : vs.length ≤ sizeLine := by rw [hi.length]; exact hl
  by_cases hk : K.lookup a = none
  · let ob : Obj := { cls := .type "list", data := .seq vs.toArray }
    let H : Hp := fun b => if b = a then some (.frz ob (.lst (ns.map V.int))) else none
    have at_ : H a = some (.frz ob (.lst (ns.map V.int))) := if_pos rfl
    have off : ∀ b, b ≠ a → H b = none := fun b n => if_neg n
    have on_ : ∀ b, H b ≠ none → b = a := fun b z => Classical.byContradiction fun n => z (off b n)
    refine ⟨H, fun b => ?_, Or.inl (Or.inr ⟨ob, at_⟩), fun b u z => ?_, on_, fun _ => hk⟩
    · by_cases n : b = a
      · exact Or.inr ⟨ob, _, by rw [n]; exact at_⟩
      · exact Or.inl (off b n)
    · obtain rfl : b = a := on_ b (by rw [z]; exact Option.some_ne_none _)
      rw [at_] at z
      cases z
      exact ⟨ha, by rw [List.length_map]; exact hl, vs, _, rv, ha⟩
  · obtain ⟨o, ho⟩ := Option.ne_none_iff_exists'.mp hk
    have e := (KX a o ho).symm.trans ha
    cases e
    exact ⟨fun _ => none, fun _ => Or.inl rfl, Or.inr ⟨_, vs.toArray, _, ho, rfl, rfl, rfl, by rw [List.size_toArray]; exact hlen, by simpa using rv⟩, fun b u z => (by cases z), fun b z => absurd rfl z, fun z => absurd rfl z⟩
theorem law_callG {P : Program} {w : World} {K : Frag} {mg mb : Str → Option Value} {k : Nat} {fa a : Addr} {fd : FuncData} {x : Str} {sp : Sp} {s1 : Shared} {vs : List Value} {ns : List Int} (KX : K.In s1.heap) (hns : s1.heap.Ns mainGlobals mg) (hb : s1.heap.Ns builtinsNs mb)
    (hbb : ∀ x : Str, x ≠ "__name__" → mb x = bootBuiltins x) (hlim : s1.heap.NoLimit) (hg : s1.gens = #[]) (ha : s1.heap.get? a = some { cls := .type "list", data := .seq vs.toArray }) (hi : IntsAre vs ns) (hl : ns.length ≤ sizeLine) (hr : Room k callerA)
    (F : ∀ base : Heap, K.In base → base.Ns mainGlobals mg → FnG P w K mg base (L2.CX P w) k fa fd [x] sp) (hbind : ∀ (s : Shared) (u : Value), BindsTo s fd ⟨[u], []⟩ [(x, u)])
    (hsp : ∀ H : Hp, Only H → SqL K H a (ns.map V.int) → sp [.ref a] H (fun v _ => v = .bl true) fun _ _ _ => False) :
    codeAny (model P w) callerA (.call (.ref fa) ⟨[.ref a], []⟩) (fun r s' => r = .ok (.ret (.bool true)) ∧ OldK s1.heap s'.heap ∧ s'.os = s1.os ∧ AllBare s'.gens) s1 := by
  obtain ⟨H, hO, hS, hok, hA, hK⟩ := script_at (P := P) (w := w) KX ha hi hl
  have free : ∀ {b : Addr}, b ≠ a → H b = none := fun {b} n => Classical.byContradiction fun z => n (hA b z)
  have seen : ∀ {b : Addr} {o : Obj} {es : Array DictEntry} {ep : Nat}, s1.heap.get? b = some o → o.data = .dict es ep → H b = none := fun {b o es ep} e q => free fun z => by
    rw [z, ha] at e
    cases e
    cases q
  have nsK : ∀ {b : Addr} {m : Str → Option Value}, s1.heap.Ns b m → (hidT s1.heap H).Ns b m := fun ⟨o, es, ep, e, q, r⟩ => ⟨o, es, ep, hidT_get e (seen e q), q, r⟩
  have kin : K.In (hidT s1.heap H) := fun b o e => hidT_get (KX b o e) (Classical.byContradiction fun z => by
    have n := hA b z
    subst n
    rw [hK z] at e
    cases e)
  obtain ⟨mc, l1, l2⟩ := hlim
  have e0 : Env0 P w K mg (hidT s1.heap H) callerA [] s1 H := ⟨rfl, ⟨kin, nsK hns, ⟨mb, nsK hb, hbb⟩, ⟨mc, nsK l1, l2⟩⟩, fun b o e => of_hidT e, Nat.le_of_eq (hidT_size _ _), trivial, fun b z => (by cases z), hok, .of_eq hg⟩
  refine codeAny_mono ((F _ kin (nsK hns)).run callerA [] s1 H ⟨[.ref a], []⟩ [.ref a] [.ref a] _ _ rfl hr e0 (hbind s1 (.ref a)) (.cons rfl .nil) (hsp H hO hS)) fun r s' z => ?_
  have done : ∀ u, CE [] P w H s1 (fun v _ => v = .bl true) u s' → u = Value.bool true ∧ OldK s1.heap s'.heap ∧ s'.os = s1.os ∧ AllBare s'.gens := fun u ⟨v, H', os, bare, un, hok', rel, q⟩ => by
    have q' : v = .bl true := q
    subst q'
    obtain rfl : u = Value.bool true := rel
    refine ⟨rfl, OldK.of_keep fun b o e => ?_, os, bare⟩
    rcases hO b with n | ⟨ob, xs, n⟩
    · exact un.keep b o e n (by intro t; cases t) (by simp)
    · have t1 := (hok b _ n).1
      have t2 := (hok' b _ (un.frzs b ob _ n)).1
      rw [t1] at e
      cases e
      exact t2
  cases r with
  | error e => obtain ⟨_, _, _, _, _, _, _, _, _, _, _, _, hE⟩ := z; exact hE.elim
  | ok fl =>
    cases fl with
    | ret u =>
      obtain ⟨rfl, q⟩ := done u z
      exact ⟨rfl, q⟩
    | _ => exact False.elim z
/-- as the head's end for a def of any kind, but of one whose promise wants no repr under way -/
theorem walk_ofG {l : PySem.W.OpenLaw} {n k : Nat} {q : Program} {loose : List Str} {XP : (Str → Option Value) → Heap → Prop} {YP : World → Heap → Prop} {d : DefRec} {x : Str} (hn : l.most = some n) (hn2 : n ≤ sizeLine) (hdf : d.params.defaults = []) (hr : Room k callerA)
    (F : ∀ (w : World) (mg : Str → Option Value) (fa : Addr) (h : Heap), YP w h → h.Ns mainGlobals mg → mg d.name = some (.ref fa) →
      ∃ (K : Frag) (fd : FuncData) (sp : Sp), K.In h ∧ (∀ (s : Shared) (u : Value), BindsTo s fd ⟨[u], []⟩ [(x, u)]) ∧
        (∀ (H : Hp) (a : Addr) (ns : List Int), ns.length ≤ n → Only H → SqL K H a (ns.map V.int) → sp [.ref a] H (fun v _ => v = .bl true) fun _ _ _ => False) ∧
        ∀ base : Heap, K.In base → base.Ns mainGlobals mg → FnG l.prog w K mg base (L2.CX l.prog w) k fa fd [x] sp) :
    PySem.W.WalkO q loose XP YP l.row.toRowW d [] (fun f vs => PySem.call f vs) :=
  Att.attach_call hn hdf fun w _ s1 mg _ fa _ _ _ _ a _ ns G Y _ _ _ hmg hobj hints hlen hg =>
    have ⟨_, _, _, KX, hb, hsp, hF⟩ := F w mg fa _ Y G.T.g hmg
    law_callG KX G.T.g G.T.b G.T.builtins G.T.nolimit hg hobj hints (Nat.le_trans hlen hn2) hr hF hb fun H hO hS => hsp H a ns hlen hO hS
end MR
set_option maxRecDepth 100000
set_option maxHeartbeats 4000000
/-! MirZ: len of an own class's instance; x += e. -/
namespace MR
open PySem L2 PyProof.Rows
/-- a method of one parameter, by name -/
structure LenS (P : Program) (w : World) (K : Frag) (mg : Str → Option Value) (base : Heap) (G : Gx) (n : Nat) (c : String) (m : Str) (fn : Fn) (f : Addr) (fd : FuncData) (ps : List Str) : Prop where
  ok : FnOk P w K mg base (L2.CX P w) n f fd ps (spOf G [false] fn)
  at_ : PySem.W.findIn K (.ref (G.cls c)) m = some (some (.ref f))
  fn_ : PySem.W.isFn K (.ref f) = true
  bi : Binds K fd ps []
section
variable {X : Cx} {G : Gx} {W : WX} {σ : L2.St} {H : Hp} {F : AP1} {fp : FPt} {ρ : Env} {pin : List Nat}
def rLenI (G : Gx) (c : String) (fn : Fn) : List V → Hp → VK → Prop := fun vs H Q => ∃ p dx fs, vs = [.ref p] ∧ H p = some (.ins (G.cls c) dx fs) ∧ spOf G [false] fn [.ref p] H (fun v H' => ∃ n : Int, v = .int n ∧ 0 ≤ n ∧ n < 1000 ∧ Q (.int n) H') fun _ _ _ => False
theorem c_lenI {n : Nat} {c : String} {fn : Fn} {f : Addr} {fd : FuncData} {ps : List Str} (h : LenS X.prog X.w X.K X.mg X.base G n c "__len__" fn f fd ps) (hr : Room (n + 1) X.A) : CallR X (.builtin "len") (rLenI G c fn) := by
  intro pins s σ H xs us Q I r hq
  obtain ⟨p, dx, fs, rfl, hp, hsp⟩ := hq
  obtain ⟨u, rfl, ru⟩ := r.one
  cases ru
  obtain ⟨mA, J, _⟩ := ins_get I.hok hp
  obtain ⟨od, J, _⟩ := J.look
  obtain ⟨mm, hF⟩ := I.fr
  refine PySem.W.len_K hF I.ok.mod.kin J h.at_ h.fn_ ?_
  have hl := h.ok.len _ _ _ _ hsp
  have r2 : Vals [V.ref p] [Value.ref p] := .cons rfl .nil
  have hb := h.bi s [.ref p] I.kIn (by rw [List.append_nil, r2.length.symm]; exact hl)
  rw [List.append_nil] at hb
  refine wpAny_call (codeAny_mono (h.ok.run X.A.in1 X.stack s H ⟨[.ref p], []⟩ [.ref p] [.ref p] _ (fun _ _ _ => False) hr.in1 I.env0.in1 hb r2 hsp) fun r s' hq => ?_)
  cases r with
  | error e => obtain ⟨_, _, _, _, _, _, _, _, _, _, _, _, hE⟩ := hq; exact hE.elim
  | ok fl => cases fl with
    | ret w =>
      obtain ⟨z, H', I', rz, k, rfl, k0, k1, q⟩ := I.after hq
      obtain ⟨t, rfl⟩ := rz
      exact ⟨⟨k0, Int.lt_trans k1 (by decide)⟩, .int k, H', I'.tok _, ⟨_, rfl⟩, q⟩
    | next => exact hq.elim
    | brk => exact hq.elim
    | cont => exact hq.elim
def lenI (c : String) (fn : Fn) : IV → Option IV
  | .ins c' fs => if c' = c then (match fn [.ins c fs] with
    | .ok (.int n) [] => if 0 ≤ n ∧ n < 1000 then some (.int n) else none
    | _ => none) else none
  | _ => none
theorem lenI_inv {c : String} {fn : Fn} {d z : IV} (h : lenI c fn d = some z) : ∃ fs n, d = .ins c fs ∧ fn [.ins c fs] = .ok (.int n) [] ∧ 0 ≤ n ∧ n < 1000 ∧ z = .int n := by
  cases d with
  | ins c' fs =>
    unfold lenI at h
    dsimp only at h
    by_cases hc : c' = c
    · subst hc
      rw [if_pos rfl] at h
      split at h
      · rename_i n hn
        split at h
        · rename_i hz
          cases h
          exact ⟨fs, n, rfl, hn, hz.1, hz.2, rfl⟩
        · cases h
      · cases h
    · rw [if_neg hc] at h; cases h
  | _ => cases h
def iLenI (c : String) (fn : Fn) (A : E) : E := fun ρ => (A ρ).bind fun d ρ1 => ofO (lenI c fn d) ρ1
theorem m_lenI (o : Ok X G W) {n : Nat} {c : String} {fn : Fn} {f : Addr} {fd : FuncData} {ps : List Str} (h : LenS X.prog X.w X.K X.mg X.base G n c "__len__" fn f fd ps) (hr : Room (n + 1) X.A) {e : Expr} {p pos : Pos} {A : E} (hg : Gl X "len") (hm : X.mg "len" = none) (ha : PE X e (teOf G W A))
    (he : starEach [e] X.env = [(false, eval e X.env)] := by rfl) : PE X (.Call (.Name "len" p) [e] [] pos) (teOf G W (iLenI c fn A)) := by
  refine PE.imp (pe_callB (c_lenI h hr) hg hm rfl (pa_cons ha pa_nil he) (by decide) (by decide) he rfl) ?_
  rintro σ H Q ⟨ρ, F, fp, en, hh⟩
  refine oc_bind en hh fun x d ρ1 H1 F1 fp1 s1 e1 r1 h1 => ?_
  cases hl : lenI c fn d with
  | none => rw [hl] at h1; exact h1.elim
  | some z =>
    rw [hl] at h1
    obtain ⟨fs, k, rfl, hk, k0, k1, rfl⟩ := lenI_inv hl
    obtain ⟨q, dx, vs, rfl, hp, fa⟩ := (Bz.fz r1).insV
    refine ⟨q, dx, vs, rfl, hp, rfl, [.ins c fs], F1, fun _ _ => False, rfl, ?_, ?_⟩
    · refine ⟨fun j d z => ?_, fun j d z => ?_, fun _ _ _ h => h.elim, fun _ _ h => h.elim, fun _ _ h => h.elim, fun _ _ _ h => h.elim, e1.ft, rfl⟩
      · cases j with
        | zero => cases z; exact ⟨_, rfl, r1⟩
        | succ j => simp [envOf] at z
      · cases j with
        | zero => cases z
        | succ j => simp [envOf] at z
    · rw [hk]
      intro v H' F' fp' s e r
      cases r.int_inv
      exact ⟨k, rfl, k0, k1, oc_ok h1 e1 ⟨fun a o h => s.keep a o h fun ⟨_, z⟩ => z, s.frm, fun a f => (s.fnew a f).elim Or.inl fun z => z.elim (fun ⟨_, z⟩ => z.elim) fun z => Or.inr ⟨z, e.ft a f⟩⟩ (.int k)⟩
/-! ### x += e, whole numbers -/
def sAug (i : Nat) (g : Int → Int → Int) (m : E) : S := fun ρ => match ρ[i]? with
  | some (.fz (.int a)) => (m ρ).bindS fun d ρ1 => match d with
    | .int b => .nx (ρ1.set i (.fz (.int (g a b))))
    | _ => .no
  | _ => .no
theorem s_augI {op : Operator} {g : Int → Int → Int} (hop : PIp X op (ipI g)) (i : Nat) {x : Str} {e : Expr} {m : E} {pos' pos : Pos} (hN : X.N.Nodup) (he : PE X e (teOf G W m)) (hi : X.N[i]? = some x := by rfl) (hx : Loc X.env.scope x := by first | exact Or.inl rfl | exact Or.inr rfl) (hp : i ∉ pin := by decide)
    (hf : X.fn x = true ∨ X.env.scope.names.lookup x = some .local := by first | exact .inl rfl | exact .inr rfl) : PS X (.AugAssign (.Name x pos') op e pos) (tsOf G W pin (sAug i g m)) := by
  refine PS.imp (ps_aug hN hi hx he hop hf) ?_
  rintro D σ H ⟨ρ, F, fp, en, h⟩
  unfold sAug at h
  split at h
  · rename_i a ha
    obtain ⟨v, q1, q2⟩ := en.fz i _ ha
    cases q2.int_inv
    refine ⟨_, q1, ?_⟩
    refine ocS_bind en h fun y d ρ1 H1 F1 fp1 s1 e1 r1 h1 => ?_
    cases d with
    | int b =>
      cases r1.int_inv
      refine ⟨a, b, rfl, rfl, ?_⟩
      exact h1 _ H1 F1 fp1 (Stp.refl _ _ _) (e1.setFz (.int (g a b))) ((SetOnly.set i σ (some _)).pn fun j m z => hp (by rw [List.mem_singleton] at z; rw [← z]; exact m))
    | _ => exact h1.elim
  · exact h.elim
end
end MR
set_option maxRecDepth 100000
set_option maxHeartbeats 4000000
/-! MirW: a key in a dict; < of tuples. -/
namespace MR
open PySem L2 PyProof.Rows
section
variable {X : Cx} {G : Gx} {W : WX} {F : AP1} {H : Hp}
def rDIn (neg : Bool) : R2 := fun y x H Q => ∃ a o, x = .ref a ∧ DGet H a y o ∧ Q (.bl (if neg then !o.isSome else o.isSome)) H
theorem op_dIn (hu : X.A.units + 1 < cLine) : OpR X (compareOp .In) (rDIn false) := by
  intro pins s σ H y x v u Q I ry rx h
  obtain ⟨a, ov, ex, g, q⟩ := h
  subst ex
  obtain rfl : u = Value.ref a := rx
  exact d_in hu I g ry fun s3 I3 => ⟨.bl ov.isSome, H, I3, rfl, q⟩
theorem op_dNotIn (hu : X.A.units + 1 < cLine) : OpR X (compareOp .NotIn) (rDIn true) := by
  intro pins s σ H y x v u Q I ry rx h
  obtain ⟨a, ov, ex, g, q⟩ := h
  subst ex
  obtain rfl : u = Value.ref a := rx
  exact d_notIn hu I g ry fun s3 I3 => ⟨.bl (!ov.isSome), H, I3, rfl, q⟩
def hasK (kvs : List (Key × IV)) (k : Key) : Bool := kvs.any fun kv => decide (kv.1 = k)
theorem FzP.has {vs : List (Key × V)} : ∀ {ds : List (Key × IV)} {k : Key}, FzP G F H vs ds → (valV vs k).isSome = hasK ds k := by
  induction vs with
  | nil =>
    intro ds k h
    cases h
    rfl
  | cons q vs ih =>
    intro ds k h
    cases h with
    | @cons _ k0 v _ d ds hd t =>
      have e := ih (k := k) t
      unfold valV hasK at e ⊢
      simp only [List.find?_cons, List.any_cons]
      by_cases c : k0 = k
      · simp [c]
      · simp only [c, decide_false, Bool.false_or]
        exact e
def oInD (neg : Bool) (x y : IV) : Option IV := match y, ivKey x with
  | .dic kvs, some k => some (.bl (if neg then !hasK kvs k else hasK kvs k))
  | _, _ => none
theorem ob_inD (neg : Bool) : OpB G (rDIn neg) (oInD neg) := by
  intro F H x y dx dy d Q hx hy hf k
  unfold oInD at hf
  split at hf
  · rename_i ds kk hk
    cases hf
    cases Bz.key hx hk
    obtain ⟨p, vs, rfl, h, a, z⟩ := hy.dicV
    refine ⟨p, _, rfl, DGet.k h, ?_⟩
    rw [a.has]
    exact k _ _ _ (Fr.refl _ _) (.bl _)
  · cases hf
theorem m_inDV (o : Ok X G W) {a b : Expr} {A B : EV} {pos : Pos} (ha : PE X a (tvOf G W A)) (hb : PE X b (tvOf G W B)) (hm : behindInMarks .In b = false := by rfl) : PE X (.Compare a [.In] [b] pos) (teOf G W (iBinV (oInD false) A B)) := m_cmpV (op_dIn (by have := o.hu; omega)) (ob_inD false) ha hb hm
theorem n_inDV (o : Ok X G W) {a b : Expr} {A B : EV} {pos : Pos} (ha : PE X a (tvOf G W A)) (hb : PE X b (tvOf G W B)) (hm : behindInMarks .In b = false := by rfl) : PT X (.Compare a [.In] [b] pos) (ttOf G W (iCmpV (oInD false) A B)) := n_cmpV (op_dIn (by have := o.hu; omega)) (ob_inD false) ha hb hm
theorem m_notinDV (o : Ok X G W) {a b : Expr} {A B : EV} {pos : Pos} (ha : PE X a (tvOf G W A)) (hb : PE X b (tvOf G W B)) (hm : behindInMarks .NotIn b = false := by rfl) : PE X (.Compare a [.NotIn] [b] pos) (teOf G W (iBinV (oInD true) A B)) := m_cmpV (op_dNotIn (by have := o.hu; omega)) (ob_inD true) ha hb hm
theorem n_notinDV (o : Ok X G W) {a b : Expr} {A B : EV} {pos : Pos} (ha : PE X a (tvOf G W A)) (hb : PE X b (tvOf G W B)) (hm : behindInMarks .NotIn b = false := by rfl) : PT X (.Compare a [.NotIn] [b] pos) (ttOf G W (iCmpV (oInD true) A B)) := n_cmpV (op_dNotIn (by have := o.hu; omega)) (ob_inD true) ha hb hm
/-! ### t < u, tuples of whole numbers -/
def lexI : List Int → List Int → Bool
  | [], [] => false
  | [], _ :: _ => true
  | _ :: _, [] => false
  | x :: xs, y :: ys => if x = y then lexI xs ys else decide (x < y)
theorem lexI_eq : ∀ xs ys : List Int, HT.lexLt xs ys = lexI xs ys
  | [], [] => rfl
  | [], _ :: _ => rfl
  | _ :: _, [] => rfl
  | x :: xs, y :: ys => by
    rw [HT.lexLt_cons, lexI_eq xs ys]
    rfl
def oLtT (x y : IV) : Option IV := match x, y with
  | .tup xs, .tup ys => (intsOf xs).bind fun ns => (intsOf ys).map fun ms => .bl (lexI ns ms)
  | _, _ => none
theorem of_ltT : OpF G (rLtT G.K) oLtT := by
  intro F H x y dx dy d Q hx hy hf k
  unfold oLtT at hf
  split at hf
  · rename_i xs ys
    obtain ⟨ns, h1, h2⟩ := Option.bind_eq_some_iff.mp hf
    obtain ⟨ms, h3, rfl⟩ := Option.map_eq_some_iff.mp h2
    obtain ⟨p, vs, rfl, hp, a, _⟩ := (Bz.fz hx).seqT
    obtain ⟨q, ws, rfl, hq, b, _⟩ := (Bz.fz hy).seqT
    cases a.ints h1
    cases b.ints h3
    refine ⟨p, q, ns, ms, rfl, rfl, hp, hq, ?_⟩
    rw [lexI_eq]
    exact k _ _ _ (Fr.refl _ _) (.bl _)
  · cases hf
theorem opLtT (o : Ok X G W) : OpR X (compareOp .Lt) (rLtT G.K) := by
  have h := op_ltT (X := X) (by have := o.hu; omega)
  rwa [o.K] at h
theorem m_ltT (o : Ok X G W) {a b : Expr} {A B : E} {pos : Pos} (ha : PE X a (teOf G W A)) (hb : PE X b (teOf G W B)) : PE X (.Compare a [.Lt] [b] pos) (teOf G W (iBin oLtT A B)) := m_cmp (opLtT o) of_ltT ha hb
theorem n_ltT (o : Ok X G W) {a b : Expr} {A B : E} {pos : Pos} (ha : PE X a (teOf G W A)) (hb : PE X b (teOf G W B)) : PT X (.Compare a [.Lt] [b] pos) (ttOf G W (iCmp oLtT A B)) := n_cmp (opLtT o) of_ltT ha hb
end
end MR
set_option maxRecDepth 100000
/-! sets of nested tuples (numbers, texts, None, tuples of such): the table, adding, what a walk needs -/
namespace NSet
open PySem PySem.Spec PyProof.Rows L2
section
variable {P : Program} {w : World}
/-- no class statement lies in v, n levels down -/
def NoCls (P : Program) (w : World) (n : Nat) (s : Shared) (v : Value) : Prop :=
  ∀ (A : Around) (E : Value → Shared → Prop) (Q : Bool → Shared → Prop), Q false s → wpAny (model P w) A (ofAClassStatement n v) Q E s
/-- whether v's hash goes by value is told -/
def Tells (P : Program) (w : World) (n : Nat) (s : Shared) (v : Value) : Prop :=
  ∀ (A : Around) (E : Value → Shared → Prop) (Q : Bool → Shared → Prop), (∀ b, Q b s) → wpAny (model P w) A (hashByValue n v) Q E s
theorem noCls_flat {n : Nat} {s : Shared} {v : Value} (e : ∀ m, ofAClassStatement m v = pure false) : NoCls P w n s v := fun A E Q q => by
  rw [e]; exact wpAny_pure q
theorem noCls_tup {n : Nat} {s : Shared} {a : Addr} {o : Obj} {vs : Array Value} {m : Nat} (hg : s.heap.get? a = some o) (hcl : o.cls = .type "tuple")
    (hdat : o.data = .seq vs m) (ih : ∀ v ∈ vs.toList, NoCls P w n s v) : NoCls P w (n + 1) s (.ref a) := fun A E Q q => by
  have ht : s.TypeIs (.ref a) "tuple" := ⟨o, hg, hcl⟩
  unfold ofAClassStatement
  apply wpAny_bind
  apply wpAny_typeOf ht
  dsimp only
  have et : (("tuple" : String) == "tuple") = true := by decide
  simp only [et, if_true, Bool.not_true, Bool.false_eq_true, if_false]
  try apply wpAny_bind (wpAny_pure ?_)
  try simp only [Bool.not_true, Bool.false_eq_true, if_false]
  show wpAny _ _ (seqItems? (.ref a) >>= _) _ _ s
  apply wpAny_bind
  apply wpAny_seqItems hg hdat
  dsimp only
  apply wpAny_bind
  show wpAny _ _ (forIn vs _ _) _ _ s
  rw [← Array.forIn_toList]
  refine wpAny_forIn_list _ (fun left r s1 => r.1 = none ∧ s1 = s ∧ ∀ v ∈ left, NoCls P w n s v) _ (fun v left r s1 hI => ?_) (fun r s1 hI => ?_) _ _ ⟨rfl, rfl, ih⟩
  · obtain ⟨h1, h2, h3⟩ := hI
    subst h2
    apply wpAny_bind
    apply h3 v List.mem_cons_self
    simp only [Bool.false_eq_true, if_false]
    exact wpAny_pure ⟨rfl, rfl, fun u hu => h3 u (List.mem_cons_of_mem _ hu)⟩
  · obtain ⟨r1, r2⟩ := r
    obtain ⟨h1, h2, _⟩ := hI
    simp only at h1
    subst h1
    subst h2
    exact wpAny_pure q
theorem tells_flat {n : Nat} {s : Shared} {v : Value} (e : ∀ m, ∃ b, hashByValue m v = pure b) : Tells P w n s v := fun A E Q q => by
  obtain ⟨b, e⟩ := e n
  rw [e]
  exact wpAny_pure (q b)
theorem tells_tup {n : Nat} {s : Shared} {a : Addr} {o : Obj} {vs : Array Value} {m : Nat} (hg : s.heap.get? a = some o) (hcl : o.cls = .type "tuple")
    (hdat : o.data = .seq vs m) (ih : ∀ v ∈ vs.toList, Tells P w n s v) : Tells P w (n + 1) s (.ref a) := fun A E Q q => by
  have ht : s.TypeIs (.ref a) "tuple" := ⟨o, hg, hcl⟩
  unfold hashByValue
  apply wpAny_bind
  apply wpAny_specialOf ht F.slot_tuple_hash.lookup
  show wpAny _ _ (seqItems? (.ref a) >>= _) _ _ s
  apply wpAny_bind
  apply wpAny_seqItems hg hdat
  apply wpAny_bind
  show wpAny _ _ (forIn vs _ _) _ _ s
  rw [← Array.forIn_toList]
  refine wpAny_forIn_list _ (fun left r s1 => r.1 = none ∧ s1 = s ∧ ∀ v ∈ left, Tells P w n s v) _ (fun v left r s1 hI => ?_) (fun r s1 hI => ?_) _ _ ⟨rfl, rfl, ih⟩
  · obtain ⟨h1, h2, h3⟩ := hI
    subst h2
    apply wpAny_bind
    refine h3 v List.mem_cons_self _ _ _ fun b => ?_
    cases b
    · simp only [Bool.not_false, if_true]
      apply wpAny_pure
      exact wpAny_pure (q _)
    · simp only [Bool.not_true, Bool.false_eq_true, if_false]
      exact wpAny_pure ⟨rfl, rfl, fun u hu => h3 u (List.mem_cons_of_mem _ hu)⟩
  · obtain ⟨r1, r2⟩ := r
    obtain ⟨h1, h2, _⟩ := hI
    simp only at h1
    subst h2
    subst h1
    exact wpAny_pure (q _)
mutual
theorem noCls_key : ∀ (k : NestedKey) (v : Value) (n : Nat) (s : Shared), NestedIs s.heap k v → k.depth ≤ n → NoCls P w n s v
  | .none, _, _, _, x, _ => by cases x; exact noCls_flat fun m => by cases m <;> rfl
  | .num _, _, _, _, x, _ => by cases x <;> exact noCls_flat fun m => by cases m <;> rfl
  | .text _, _, _, _, x, _ => by cases x; exact noCls_flat fun m => by cases m <;> rfl
  | .tup ks, _, n, s, x, hn => by
    cases x with
    | tup g c d k =>
      simp only [NestedKey.depth] at hn
      cases n with
      | zero => omega
      | succ n => exact noCls_tup g c d (noCls_keys ks _ n s k (by omega))
theorem noCls_keys : ∀ (ks : List NestedKey) (vs : List Value) (n : Nat) (s : Shared), NestedAll s.heap ks vs → NestedKey.depthAll ks ≤ n → ∀ v ∈ vs, NoCls P w n s v
  | [], _, _, _, x, _, _, hv => by cases x; cases hv
  | k :: ks, _, n, s, x, hn, v, hv => by
    cases x with
    | cons a b =>
      simp only [NestedKey.depthAll] at hn
      rcases List.mem_cons.mp hv with e | hv
      · subst e; exact noCls_key k _ n s a (by omega)
      · exact noCls_keys ks _ n s b (by omega) v hv
end
mutual
theorem tells_key : ∀ (k : NestedKey) (v : Value) (n : Nat) (s : Shared), NestedIs s.heap k v → k.depth ≤ n → Tells P w n s v
  | .none, _, _, _, x, _ => by cases x; exact tells_flat fun m => ⟨true, by cases m <;> rfl⟩
  | .num _, _, _, _, x, _ => by cases x <;> exact tells_flat fun m => ⟨true, by cases m <;> rfl⟩
  | .text _, _, _, _, x, _ => by cases x; exact tells_flat fun m => ⟨false, by cases m <;> rfl⟩
  | .tup ks, _, n, s, x, hn => by
    cases x with
    | tup g c d k =>
      simp only [NestedKey.depth] at hn
      cases n with
      | zero => omega
      | succ n => exact tells_tup g c d (tells_keys ks _ n s k (by omega))
theorem tells_keys : ∀ (ks : List NestedKey) (vs : List Value) (n : Nat) (s : Shared), NestedAll s.heap ks vs → NestedKey.depthAll ks ≤ n → ∀ v ∈ vs, Tells P w n s v
  | [], _, _, _, x, _, _, hv => by cases x; cases hv
  | k :: ks, _, n, s, x, hn, v, hv => by
    cases x with
    | cons a b =>
      simp only [NestedKey.depthAll] at hn
      rcases List.mem_cons.mp hv with e | hv
      · subst e; exact tells_key k _ n s a (by omega)
      · exact tells_keys ks _ n s b (by omega) v hv
end
end
/-- a key, by its address -/
def KAt (h : Heap) (k : NestedKey) (a : Addr) : Prop := NestedIs h k (.ref a) ∧ k.depth ≤ 8
theorem KAt.mono {h g : Heap} {k : NestedKey} {a : Addr} (x : KAt h k a) (hk : ∀ b o, h.get? b = some o → g.get? b = some o) : KAt g k a :=
  ⟨NestedIs.at (fun b o _ _ e _ => hk b o e) k _ x.1, x.2⟩
theorem KAt.inj {h : Heap} {k k' : NestedKey} {a : Addr} (x : KAt h k a) (y : KAt h k' a) : k = k' := NestedIs.inj _ _ _ x.1 y.1
/-- a key isn't the set that changes -/
theorem KAt.beside {h g : Heap} {k : NestedKey} {a b : Addr} {o : Obj} {es : Array (Int × Value)} {ep : Nat} {t : SetTable} (x : KAt h k b)
    (hob : h.get? a = some o) (hdat : o.data = .set es ep t) (hsb : Heap.SameBut a h g) : KAt g k b :=
  ⟨NestedIs.at (fun c oc vs n e ed => (hsb.2 c (fun z => by
    subst z
    rw [hob] at e
    cases e
    rw [hdat] at ed
    cases ed)).trans e) k _ x.1, x.2⟩
section
variable {P : Program} {w : World} {A : Around} {E : Value → Shared → Prop} {s : Shared}
/-- a search among such tuples shows nothing -/
theorem unseen {k : NestedKey} {b : Addr} {Q : Bool → Shared → Prop} (x : KAt s.heap k b) {ys : List Value} (hys : ∀ y ∈ ys, ∃ k' c, y = Value.ref c ∧ KAt s.heap k' c)
    (q : Q false s) : wpAny (model P w) A (searchCouldBeSeen (.ref b) ys) Q E s := by
  unfold searchCouldBeSeen
  apply wpAny_bind
  refine wpAny_forIn_list _ (fun left r s1 => r.1 = none ∧ s1 = s ∧ ∀ y ∈ left, ∃ k' c, y = Value.ref c ∧ KAt s.heap k' c) _ (fun v left r s1 hI => ?_) (fun r s1 hI => ?_) _ _ ⟨rfl, rfl, hys⟩
  · obtain ⟨h1, h2, h3⟩ := hI
    subst h2
    obtain ⟨k', c, e, xc⟩ := h3 v List.mem_cons_self
    subst e
    have more : ∀ y ∈ left, ∃ k' c, y = Value.ref c ∧ KAt s1.heap k' c := fun u hu => h3 u (List.mem_cons_of_mem _ hu)
    dsimp only
    by_cases hv : (b == c || (carriedByValue (.ref b) && carriedByValue (.ref c))) = true
    · apply wp_if_pos hv
      exact wpAny_pure ⟨rfl, rfl, more⟩
    · apply wp_if_neg hv
      apply wpAny_bind
      refine quiet_key k _ 8 s1 x.1 x.2 _ _ _ ?_
      simp only [Bool.not_true, Bool.false_eq_true, if_false]
      apply wpAny_bind
      refine quiet_key k' _ 8 s1 xc.1 xc.2 _ _ _ ?_
      simp only [Bool.not_true, Bool.false_eq_true, if_false]
      apply wpAny_bind
      refine noCls_key k _ 8 s1 x.1 x.2 _ _ _ ?_
      simp only [Bool.false_eq_true, if_false]
      apply wpAny_bind
      refine noCls_key k' _ 8 s1 xc.1 xc.2 _ _ _ ?_
      simp only [Bool.false_eq_true, if_false]
      exact wpAny_pure ⟨rfl, rfl, more⟩
  · obtain ⟨r1, r2⟩ := r
    obtain ⟨h1, h2, _⟩ := hI
    simp only at h1
    subst h1
    subst h2
    exact wpAny_pure q
/-- == of two such tuples -/
theorem eq_keys {k k' : NestedKey} {a b : Addr} {Q : Bool → Shared → Prop} (hu : A.units + 8 < cLine) (x : KAt s.heap k a) (y : KAt s.heap k' b) (q : Q (decide (k = k')) s) :
    wpAny (model P w) A (eqBool (.ref a) (.ref b)) Q E s := (nestedKind P w).eqBool hu x y q
end
end NSet
set_option maxRecDepth 100000
/-! the table of a set of nested tuples: search, laying anew, adding -/
namespace NSet
open PySem PySem.Spec PyProof.Rows L2
abbrev Row := Addr × NestedKey
def ents (w : World) (L : List Row) : List (Int × Value) := L.map fun r => (r.2.hash w, Value.ref r.1)
def hashL (w : World) (L : List Row) : List Int := L.map fun r => r.2.hash w
abbrev probe0 (m : Nat) (h : Int) : SetTable.Probe := runAt m (SetTable.bits h % (m + 1)) (SetTable.bits h)
theorem way_probe (m : Nat) (h : Int) (k : Nat) : way m h k = (nth m (probe0 m h) k).j := rfl
theorem nth_quiet (m : Nat) : ∀ (n : Nat) (p : SetTable.Probe), p.dummy = none → (nth m p n).dummy = none
  | 0, _, h => h
  | n + 1, p, h => nth_quiet m n (adv m p) (by unfold adv; split <;> exact h)
/-- the set at a has the rows L -/
structure STab (w : World) (h : Heap) (a : Addr) (L : List Row) (es : Array (Int × Value)) (ep : Nat) (t : SetTable) : Prop where
  obj : ∃ o, h.get? a = some o ∧ o.ExactSet ∧ o.data = .set es ep t
  ent : es.toList = ents w L
  tok : TabOk t (hashL w L)
  nodup : (L.map Prod.snd).Nodup
  keys : ∀ r ∈ L, KAt h r.2 r.1
  ledor : w.params.followText "set-order" = true ∨ t.led = true
  space : L.length * 5 < t.mask * 3
  small : L.length < 64
theorem ents_len (w : World) (L : List Row) : (ents w L).length = L.length := by unfold ents; rw [List.length_map]
theorem hashL_len (w : World) (L : List Row) : (hashL w L).length = L.length := by unfold hashL; rw [List.length_map]
theorem size_of_ents {w : World} {L : List Row} {es : Array (Int × Value)} (e : es.toList = ents w L) : es.size = L.length := by
  have q := congrArg List.length e
  rwa [Array.length_toList, ents_len] at q
theorem fits_of {t : SetTable} {n : Nat} (h1 : t.place.size = n) (h2 : t.dummies = #[]) (h3 : n ≤ t.mask) : t.fits n = true := by
  unfold SetTable.fits SetTable.fill
  rw [h2]
  simp only [Bool.and_eq_true, beq_iff_eq, decide_eq_true_eq]
  refine ⟨h1, ?_⟩
  show t.place.size + 0 ≤ t.mask
  omega
theorem ent_at {w : World} {L : List Row} {es : Array (Int × Value)} (e : es.toList = ents w L) {i : Nat} {r : Row} (h : L[i]? = some r) : es[i]? = some (r.2.hash w, Value.ref r.1) := by
  rw [← Array.getElem?_toList, e]
  unfold ents
  rw [List.getElem?_map, h]
  rfl
section
variable {P : Program} {w : World} {A : Around} {E : Value → Shared → Prop} {s : Shared}
variable {a : Addr} {L : List Row} {es : Array (Int × Value)} {ep : Nat} {t : SetTable}
theorem STab.sz (R : STab w s.heap a L es ep t) : es.size = L.length := size_of_ents R.ent
theorem STab.plsz (R : STab w s.heap a L es ep t) : t.place.size = L.length := by
  rw [R.tok.sz, hashL_len]
theorem STab.fit (R : STab w s.heap a L es ep t) : t.fits es.size = true :=
  fits_of (by rw [R.plsz, R.sz]) R.tok.dm (by have := R.sz; have := R.space; omega)
theorem STab.stays (R : STab w s.heap a L es ep t) : ¬ t.gaveWay = true := by
  unfold SetTable.gaveWay
  rw [mask_odd R.tok.mok]
  decide
/-- the search for k from the c-th place of its way on -/
theorem seek (R : STab w s.heap a L es ep t) {x : Addr} {k : NestedKey} (hx : KAt s.heap k x) (hu : A.units + 8 < cLine) {N : Nat} (hN : N < 10 * SetTable.turns t.mask)
    (free : way t.mask (k.hash w) N ∉ t.place.toList) (busy : ∀ c, c < N → way t.mask (k.hash w) c ∈ t.place.toList) {Q : SetFound → Shared → Prop}
    (q1 : k ∈ L.map Prod.snd → Q (.there none) s) (q2 : k ∉ L.map Prod.snd → Q (.free (way t.mask (k.hash w) N) false) s) :
    ∀ (f c : Nat) (from' : Option SetTable.Probe), from'.getD (t.probeStart (k.hash w)) = nth t.mask (probe0 t.mask (k.hash w)) c → c ≤ N → N - c < f →
      (∀ (i : Nat) (r : Row), L[i]? = some r → r.2 = k → ∃ d, c ≤ d ∧ d < N ∧ t.place.toList[i]? = some (way t.mask (k.hash w) d)) →
      wpAny (model P w) A (setSearchFrom a (.ref x) (k.hash w) true f from') Q E s := by
  intro f
  induction f with
  | zero => intro c _ _ _ hf _; exact absurd hf (Nat.not_lt_zero _)
  | succ f ih =>
    intro c from' hfrom hcN hf ahead
    obtain ⟨o, hob, hex, hdat⟩ := R.obj
    have hfit := R.fit
    generalize hhk : k.hash w = hk at *
    rw [setSearchFrom_succ]
    refine wpAny_bind (wpAny_setState_of hob hdat hfit ?_)
    dsimp only
    apply wp_if_neg R.stays
    try refine wpAny_bind (wpAny_pure ?_)
    have shift : ∀ q, nth t.mask (nth t.mask (probe0 t.mask hk) c) q = nth t.mask (probe0 t.mask hk) (c + q) := fun q => (nth_add t.mask c _ q).symm
    have shiftj : ∀ q, (nth t.mask (nth t.mask (probe0 t.mask hk) c) q).j = way t.mask hk (c + q) := fun q => by rw [shift]
    have hNc : c + (N - c) = N := by omega
    have hashAt : ∀ (i : Nat) (r : Row), L[i]? = some r → (fun i => (es[i]?.map (·.1)).getD 0) i = r.2.hash w := fun i r hr => by
      show (es[i]?.map (·.1)).getD 0 = _
      rw [ent_at R.ent hr]
      rfl
    have spec := go_spec t R.tok.ris R.tok.dm (fun i => (es[i]?.map (·.1)).getD 0) hk (10 * SetTable.turns t.mask) (N - c) _ (nth_quiet t.mask c (probe0 t.mask hk) rfl) (by omega)
      (fun q hq => by rw [shiftj]; exact busy (c + q) (by omega)) (by rw [shiftj, hNc]; exact free)
    rcases spec with ⟨q, i, hq, hi, _, hno, hpr⟩ | ⟨hno, hpr⟩
    · -- a stored hash that is the same
      rw [shiftj] at hi
      have met : t.probe (fun i => (es[i]?.map (·.1)).getD 0) hk (from'.getD (t.probeStart hk)) = some (.candidate (way t.mask hk (c + q)) i (nth t.mask (probe0 t.mask hk) (c + (q + 1)))) := by
        rw [hfrom, ← shiftj, ← shift]
        exact hpr
      rw [met]
      dsimp only
      have hil : i < L.length := by
        have z := (List.getElem?_eq_some_iff.mp hi).1
        have z2 := R.plsz
        rw [Array.length_toList] at z
        omega
      have hr : L[i]? = some L[i] := List.getElem?_eq_getElem hil
      generalize L[i] = r at hr
      have hrm : r ∈ L := List.mem_of_getElem? hr
      have hrk := R.keys r hrm
      have tail : wpAny (model P w) A (searchRest a (.ref x) hk true f es t (way t.mask hk (c + q)) i (nth t.mask (probe0 t.mask hk) (c + (q + 1)))) Q E s := by
        unfold searchRest
        rw [ent_at R.ent hr]
        dsimp only
        refine wpAny_bind ?_
        apply wpAny_holding
        apply eq_keys hu hrk hx
        refine wpAny_bind (wpAny_setState_of hob hdat hfit ?_)
        dsimp only
        by_cases same : r.2 = k
        · apply wp_if_pos (by simp [same])
          exact wpAny_pure (q1 (List.mem_map.mpr ⟨r, hrm, same⟩))
        · apply wp_if_neg (by simp [same])
          try refine wpAny_bind (wpAny_pure ?_)
          rw [sameMem]
          dsimp only
          have live := slot_live R.tok.ris hi
          simp only [if_true, live, ent_at R.ent hr]
          refine wpAny_bind ?_
          apply wpAny_isSame_ref_self
          refine wpAny_bind (wpAny_pure ?_)
          simp only [if_true]
          apply wp_if_neg (by simp [same])
          refine ih (c + (q + 1)) _ rfl (by omega) (by omega) fun i0 r0 h0 hk0 => ?_
          obtain ⟨d, d1, d2, d3⟩ := ahead i0 r0 h0 hk0
          refine ⟨d, ?_, d2, d3⟩
          rcases Nat.lt_trichotomy d (c + q) with z | z | z
          · refine absurd ((hashAt i0 r0 h0).trans (by rw [hk0, hhk])) (hno (d - c) i0 (by omega) ?_)
            rw [shiftj, show c + (d - c) = d by omega]
            exact d3
          · rw [z] at d3
            have live0 := slot_live R.tok.ris d3
            rw [live] at live0
            injection live0 with live0
            rw [← live0, hr] at h0
            cases h0
            exact absurd hk0 same
          · omega
      by_cases hl : t.led = true
      · apply wp_if_neg (by simp [hl])
        try refine wpAny_bind (wpAny_pure ?_)
        exact tail
      · apply wp_if_pos (by simp [hl])
        refine wpAny_bind ?_
        refine unseen hx (fun y hy => ?_) ?_
        · obtain ⟨e, he, ee⟩ := List.mem_map.mp hy
          have he1 : e ∈ es ∧ e.1 = hk := by simpa using he
          have he2 : e ∈ es.toList := by simpa using he1.1
          rw [R.ent] at he2
          obtain ⟨r2, hr2, e2⟩ := List.mem_map.mp he2
          exact ⟨r2.2, r2.1, by rw [← ee, ← e2], R.keys r2 hr2⟩
        · apply wp_if_neg (by decide)
          try refine wpAny_bind (wpAny_pure ?_)
          exact tail
    · -- the free place
      have met : t.probe (fun i => (es[i]?.map (·.1)).getD 0) hk (from'.getD (t.probeStart hk)) = some (.empty (way t.mask hk N) none) := by
        have z : way t.mask hk N = (nth t.mask (nth t.mask (probe0 t.mask hk) c) (N - c)).j := by rw [shiftj, hNc]
        rw [hfrom, z]
        exact hpr
      rw [met]
      dsimp only
      refine wpAny_pure (q2 fun hm => ?_)
      obtain ⟨r0, h0, hk0⟩ := List.mem_map.mp hm
      obtain ⟨i0, hi0, e0⟩ := List.getElem_of_mem h0
      have h00 : L[i0]? = some r0 := by rw [List.getElem?_eq_getElem hi0, e0]
      obtain ⟨d, d1, d2, d3⟩ := ahead i0 r0 h00 hk0
      refine hno (d - c) i0 (by omega) ?_ ((hashAt i0 r0 h00).trans (by rw [hk0, hhk]))
      rw [shiftj, show c + (d - c) = d by omega]
      exact d3
/-- the search that adding asks for -/
theorem seek_add (R : STab w s.heap a L es ep t) {x : Addr} {k : NestedKey} (hx : KAt s.heap k x) (hu : A.units + 8 < cLine) {Q : SetFound → Shared → Prop}
    (q1 : k ∈ L.map Prod.snd → Q (.there none) s)
    (q2 : ∀ N, k ∉ L.map Prod.snd → way t.mask (k.hash w) N ∉ t.place.toList → (∀ c, c < N → way t.mask (k.hash w) c ∈ t.place.toList) → Q (.free (way t.mask (k.hash w) N) false) s) :
    wpAny (model P w) A (setSearch a (.ref x) (k.hash w) true) Q E s := by
  have hsp := R.space
  obtain ⟨N, n1, n2, n3⟩ := R.tok.first (by rw [hashL_len]; omega) (k.hash w)
  have big : N < 100000 := by
    unfold SetTable.turns at n1
    rcases R.tok.mok with e | e | e <;> omega
  unfold setSearch
  refine seek R hx hu n1 n2 n3 q1 (fun hn => q2 N hn n2 n3) 100000 0 none rfl (Nat.zero_le _) (by omega) fun i r hr hk => ?_
  have hi : (hashL w L)[i]? = some (k.hash w) := by
    unfold hashL
    rw [List.getElem?_map, hr, ← hk]
    rfl
  have hil : i < t.place.toList.length := by
    have z := (List.getElem?_eq_some_iff.mp hr).1
    have z2 := R.plsz
    rw [Array.length_toList]
    omega
  have hj := List.getElem?_eq_getElem hil
  obtain ⟨c, hc, e⟩ := R.tok.before n2 hi hj
  exact ⟨c, Nat.zero_le _, hc, by rw [hj, e]⟩
/-- entries taken in another order -/
theorem ents_order (hr : es.toList = ents w L) {order : Array Nat} (hp : order.toList.Perm (List.range L.length)) :
    ∃ L2, (order.filterMap (es[·]?)).toList = ents w L2 ∧ L2.Perm L ∧ hashL w L2 = order.toList.map fun i => (es.map (·.1)).getD i 0 := by
  have hsz := size_of_ents hr
  have step : ∀ l : List Nat, (∀ i ∈ l, i < L.length) → l.filterMap (fun i => es[i]?) = ents w (l.filterMap fun i => L[i]?) ∧ hashL w (l.filterMap fun i => L[i]?) = l.map fun i => (es.map (·.1)).getD i 0 := by
    intro l
    induction l with
    | nil => intro _; exact ⟨rfl, rfl⟩
    | cons i l ih =>
      intro hl
      have hi := hl i List.mem_cons_self
      obtain ⟨e1, e2⟩ := ih fun j hj => hl j (List.mem_cons_of_mem _ hj)
      have hLi : L[i]? = some L[i] := List.getElem?_eq_getElem hi
      have hei := ent_at (w := w) hr hLi
      rw [List.filterMap_cons_some hei, List.filterMap_cons_some hLi, e1]
      refine ⟨rfl, ?_⟩
      have z : (es.map (·.1)).getD i 0 = (L[i]).2.hash w := by
        have z1 : (es.map (·.1))[i]? = some ((L[i]).2.hash w) := by rw [Array.getElem?_map, hei]; rfl
        simp [Array.getD_eq_getD_getElem?, z1]
      rw [List.map_cons, z, ← e2]
      rfl
  obtain ⟨e1, e2⟩ := step order.toList fun i hi => List.mem_range.mp (hp.mem_iff.mp hi)
  refine ⟨_, by first | (rw [Array.toList_filterMap]; exact e1) | simpa using e1, ?_, e2⟩
  have whole : ∀ M : List Row, (List.range M.length).filterMap (fun i => M[i]?) = M := by
    intro M
    induction M with
    | nil => rfl
    | cons m M ih =>
      rw [List.length_cons, List.range_succ_eq_map, List.filterMap_cons_some (f := fun i => (m :: M)[i]?) (a := 0) (b := m) rfl, List.filterMap_map]
      exact congrArg (m :: ·) ih
  have hperm := hp.filterMap fun i => L[i]?
  rw [whole L] at hperm
  exact hperm
/-- the table laid anew -/
theorem relay (hob : ∃ o, s.heap.get? a = some o ∧ o.ExactSet ∧ o.data = .set es ep t) (hent : es.toList = ents w L) (hps : t.place.size = L.length) (hdm : t.dummies = #[]) (hroom : L.length ≤ t.mask)
    (hnd : (L.map Prod.snd).Nodup) (hkeys : ∀ r ∈ L, KAt s.heap r.2 r.1) (hled : w.params.followText "set-order" = true ∨ t.led = true) (hsmall : L.length < 64) {wanted M : Nat}
    (hw : SetTable.sizeAbove wanted - 1 = M) (hM : MaskOk M) (hw2 : SetTable.sizeAbove wanted ≤ 128) (hsp : L.length * 5 < M * 3) {Q : Unit → Shared → Prop}
    (q : ∀ h' L' es' ep' t', Heap.SameBut a s.heap h' → STab w h' a L' es' ep' t' → L'.Perm L → Q () { s with heap := h' }) : wpAny (model P w) A (setRelay a wanted) Q E s := by
  obtain ⟨o, ho, hex, hdat⟩ := hob
  have hsz := size_of_ents hent
  obtain ⟨t', order, e, hp, T, em, el, _, ed⟩ := relaid_ok t (hs := es.map (·.1)) (wanted := wanted) hw hM (by rw [Array.size_map, hsz]; omega)
  rw [Array.size_map, hsz] at hp
  obtain ⟨L2, r1, r2, r3⟩ := ents_order hent hp
  rw [← r3] at T
  have hs2 := size_of_ents r1
  have hl2 := r2.length_eq
  rw [setRelay_eq]
  refine wpAny_bind (wpAny_setState_of ho hdat (fits_of (by rw [hps, hsz]) hdm (by omega)) ?_)
  dsimp only
  apply wp_if_neg (by rw [sizeLine_eq]; omega)
  try refine wpAny_bind (wpAny_pure ?_)
  rw [e]
  dsimp only
  refine wpAny_bind ?_
  apply wp_if_neg (by rw [hs2, hsz, hl2]; simp)
  try refine wpAny_bind (wpAny_pure ?_)
  apply wpAny_pure
  dsimp only
  refine wpAny_storeSet_of ho hdat ?_ (by rw [hs2, sizeLine_eq]; omega)
  have sb : Heap.SameBut a s.heap (s.heap.update a (Obj.putSet (order.filterMap (es[·]?)) t')) := Heap.SameBut.update ..
  refine q _ L2 _ (ep + 1) t' sb ⟨⟨_, store_at ho hdat, ⟨hex.1, hex.2.1, hex.2.2⟩, rfl⟩, r1, T, (r2.map Prod.snd).nodup_iff.mpr hnd, fun r hr => ?_, by rw [el]; exact hled, by rw [hl2, em]; exact hsp, by rw [hl2]; exact hsmall⟩ r2
  exact (hkeys r (r2.mem_iff.mp hr)).beside ho hdat sb
theorem ents_ins (w : World) (L : List Row) (p : Nat) (r : Row) : ents w (L.take p ++ r :: L.drop p) = (ents w L).take p ++ (r.2.hash w, Value.ref r.1) :: (ents w L).drop p := by
  simp [ents, List.map_take, List.map_drop]
theorem hashL_ins (w : World) (L : List Row) (p : Nat) (r : Row) : hashL w (L.take p ++ r :: L.drop p) = (hashL w L).take p ++ r.2.hash w :: (hashL w L).drop p := by
  simp [hashL, List.map_take, List.map_drop]
/-- adding a key -/
theorem put_key (R : STab w s.heap a L es ep t) {x : Addr} {k : NestedKey} (hx : KAt s.heap k x) (hu : A.units + 8 < cLine) (hfew : L.length + 1 < 64) {Q : Bool → Shared → Prop}
    (q : ∀ b h' L' es' ep' t', Heap.SameBut a s.heap h' → STab w h' a L' es' ep' t' → (k ∈ L.map Prod.snd → L' = L) → (k ∉ L.map Prod.snd → L'.Perm ((x, k) :: L)) → Q b { s with heap := h' }) :
    wpAny (model P w) A (setAddHashed a (.ref x) (k.hash w)) Q E s := by
  obtain ⟨o, ho, hex, hdat⟩ := R.obj
  have hsz := R.sz
  have hsp := R.space
  have hfit := R.fit
  unfold setAddHashed
  apply wpAny_holding
  rw [show (100000 : Nat) = 99999 + 1 from rfl, setAddHashedIn_succ]
  refine wpAny_bind (wpAny_setState_of ho hdat hfit ?_)
  dsimp only
  apply wp_if_neg (by simp [byScan, Value.scannable])
  try refine wpAny_bind (wpAny_pure ?_)
  refine wpAny_bind ?_
  refine seek_add R hx hu (fun hm => ?_) fun N hm n2 n3 => ?_
  · dsimp only
    exact wpAny_pure (q false s.heap L es ep t (Heap.SameBut.refl a s.heap) R (fun _ => rfl) fun z => absurd hm z)
  dsimp only
  refine wpAny_bind (wpAny_setState_of ho hdat hfit ?_)
  dsimp only
  obtain ⟨c1, _, c3, c4, c5, _, _, _, c9⟩ := R.tok.put n2 n3
  generalize hgp : t.put (way t.mask (k.hash w) N) = pt at c1 c3 c4 c5 c9 ⊢
  obtain ⟨t1, p⟩ := pt
  dsimp only at c1 c3 c4 c5 c9 ⊢
  subst c1
  have hin : (SetTable.insertAt es (SetTable.below t.place (way t.mask (k.hash w) N)) (k.hash w, Value.ref x)).toList = ents w (L.take (SetTable.below t.place (way t.mask (k.hash w) N)) ++ (x, k) :: L.drop (SetTable.below t.place (way t.mask (k.hash w) N))) := by
    rw [SetTable.toList_insertAt, ents_ins, R.ent]
  generalize SetTable.below t.place (way t.mask (k.hash w) N) = p at c3 hin ⊢
  have pm := put_perm L p (x, k)
  have hlen := pm.length_eq
  rw [List.length_cons] at hlen
  rw [← hashL_ins w L p (x, k)] at c3
  have nd1 : ((L.take p ++ (x, k) :: L.drop p).map Prod.snd).Nodup := by
    refine (pm.map Prod.snd).nodup_iff.mpr ?_
    rw [List.map_cons]
    exact List.nodup_cons.mpr ⟨hm, R.nodup⟩
  generalize SetTable.insertAt es p (k.hash w, Value.ref x) = es1 at hin ⊢
  have hes := size_of_ents hin
  generalize L.take p ++ (x, k) :: L.drop p = L1 at pm hlen c3 nd1 hin hes
  -- whatever hashByValue says
  have after : ∀ t2 : SetTable, t2.place = t1.place → t2.mask = t1.mask → t2.dummies = t1.dummies → t2.led = t1.led → t2.tooFull = t1.tooFull → TabOk t2 (hashL w L1) →
      wpAny (model P w) A (do
        storeSet a es1 t2
        if (!false && t2.tooFull) = true then do setRelay a (SetTable.grown (es.size + 1)); return true
        else return true) Q E s := by
    intro t2 e1 e2 e3 e4 e5 T2
    refine wpAny_bind ?_
    refine wpAny_storeSet_of ho hdat ?_ (by rw [hes, hlen, sizeLine_eq]; omega)
    have sb : Heap.SameBut a s.heap (s.heap.update a (Obj.putSet es1 t2)) := Heap.SameBut.update ..
    have ho1 := store_at (es' := es1) (t' := t2) ho hdat
    generalize s.heap.update a (Obj.putSet es1 t2) = h1 at sb ho1 ⊢
    have keys1 : ∀ r ∈ L1, KAt h1 r.2 r.1 := fun r hr => by
      rcases List.mem_cons.mp (pm.mem_iff.mp hr) with e | hr
      · rw [e]; exact hx.beside ho hdat sb
      · exact (R.keys r hr).beside ho hdat sb
    have led1 : w.params.followText "set-order" = true ∨ t2.led = true := by rw [e4, c5]; exact R.ledor
    have full : t2.tooFull = decide (t1.mask * 3 ≤ (L.length + 1) * 5) := by
      rw [e5]
      unfold SetTable.tooFull
      rw [c9, hashL_len]
    by_cases hf : t2.tooFull = true
    · apply wp_if_pos (by simp [hf])
      refine wpAny_bind ?_
      rw [full, decide_eq_true_eq, c4] at hf
      rw [hsz]
      have grow : ∀ M, SetTable.sizeAbove (SetTable.grown (L.length + 1)) - 1 = M → MaskOk M → SetTable.sizeAbove (SetTable.grown (L.length + 1)) ≤ 128 → (L.length + 1) * 5 < M * 3 → L.length + 1 ≤ t.mask →
          wpAny (model P w) A (setRelay a (SetTable.grown (L.length + 1))) (fun _ s' => wpAny (model P w) A (pure true) Q E s') E { s with heap := h1 } := fun M m1 m2 m3 m4 m5 => by
        refine relay (s := { s with heap := h1 }) ⟨_, ho1, ⟨hex.1, hex.2.1, hex.2.2⟩, rfl⟩ hin (by rw [T2.sz, hashL_len]) T2.dm (by rw [hlen, e2, c4]; exact m5) nd1 keys1 led1 (by rw [hlen]; exact hfew) m1 m2 m3 (by rw [hlen]; exact m4) ?_
        intro h2 L2 es2 ep2 t3 sb2 R2 pm2
        exact wpAny_pure (q true h2 L2 es2 ep2 t3 (sb.trans sb2) R2 (fun z => absurd z hm) fun _ => pm2.trans pm)
      rcases R.tok.mok with e | e | e
      · have l4 : L.length = 4 := by rw [e] at hf hsp; omega
        exact grow 31 (by rw [l4, size_20]) (.inr (.inl rfl)) (by rw [l4, size_20]; decide) (by omega) (by omega)
      · have l18 : L.length = 18 := by rw [e] at hf hsp; omega
        exact grow 127 (by rw [l18, size_76]) (.inr (.inr rfl)) (by rw [l18, size_76]; decide) (by omega) (by omega)
      · rw [e] at hf; omega
    · apply wp_if_neg (by simp [hf])
      refine wpAny_pure (q true h1 L1 es1 (ep + 1) t2 sb ⟨⟨_, ho1, ⟨hex.1, hex.2.1, hex.2.2⟩, rfl⟩, hin, T2, nd1, keys1, led1, ?_, by rw [hlen]; exact hfew⟩ (fun z => absurd z hm) fun _ => pm)
      rw [full, decide_eq_true_eq] at hf
      rw [hlen, e2]
      omega
  have tp : ∀ b : Bool, TabOk (if b = true then t1 else { t1 with plain := false }) (hashL w L1) := fun b => by
    cases b
    · exact ⟨c3.ris, c3.dm, c3.sz, c3.mok, c3.bd, c3.reach⟩
    · exact c3
  have last : ∀ b : Bool, wpAny (model P w) A (do
        storeSet a es1 (if b = true then t1 else { t1 with plain := false })
        if (!false && (if b = true then t1 else { t1 with plain := false }).tooFull) = true then do setRelay a (SetTable.grown (es.size + 1)); return true
        else return true) Q E s := fun b => after _ (by cases b <;> rfl) (by cases b <;> rfl) (by cases b <;> rfl) (by cases b <;> rfl) (by cases b <;> rfl) (tp b)
  by_cases hp : t1.plain = true
  · first
      | (apply wpAny_bind; apply wp_if_pos hp; exact tells_key k _ 8 s hx.1 hx.2 _ _ _ last)
      | (apply wp_if_pos hp; apply wpAny_bind; exact tells_key k _ 8 s hx.1 hx.2 _ _ _ last)
  · first
      | (apply wpAny_bind; apply wp_if_neg hp; exact wpAny_pure (last true))
      | (apply wp_if_neg hp; exact last true)
      | (apply wp_if_neg hp; apply wpAny_bind; exact wpAny_pure (last true))
end
end NSet
set_option maxRecDepth 100000
/-! sorting tuples, the empty one among them -/
namespace NSet
open PySem PySem.Spec PyProof.Rows L2 PySem.SeqAt PySem.W SrtO
mutual
/-- a key stays while the tuples stay -/
theorem nestedKeep {h g : Heap} (hk : ∀ b o, h.get? b = some o → o.cls = .type "tuple" → g.get? b = some o) : ∀ (k : NestedKey) (v : Value), NestedIs h k v → NestedIs g k v
  | .none, _, x => by cases x; exact .none
  | .num _, _, x => by
    cases x with
    | bool e => exact .bool e
    | int _ t => exact .int _ t
  | .text _, _, x => by cases x; exact .text _ _
  | .tup ks, _, x => by
    cases x with
    | tup a b c d => exact .tup (hk _ _ a b) b c (nestedKeepAll hk ks _ d)
theorem nestedKeepAll {h g : Heap} (hk : ∀ b o, h.get? b = some o → o.cls = .type "tuple" → g.get? b = some o) : ∀ (ks : List NestedKey) (vs : List Value), NestedAll h ks vs → NestedAll g ks vs
  | [], _, x => by cases x; exact .nil
  | k :: ks, _, x => by
    cases x with
    | cons a b => exact .cons (nestedKeep hk k _ a) (nestedKeepAll hk ks _ b)
end
mutual
/-- no truth value in it -/
inductive Pure' (h : Heap) : NestedKey → Value → Prop
  | none : Pure' h .none .none
  | int (i t) : Pure' h (.num i) (.int i t)
  | text (x t) : Pure' h (.text x) (.str x t)
  | tup {a o vs n ks} : h.get? a = some o → o.cls = .type "tuple" → o.data = .seq vs n → PureAll h ks vs.toList → Pure' h (.tup ks) (.ref a)
inductive PureAll (h : Heap) : List NestedKey → List Value → Prop
  | nil : PureAll h [] []
  | cons {k v ks vs} : Pure' h k v → PureAll h ks vs → PureAll h (k :: ks) (v :: vs)
end
mutual
theorem Pure'.key {h : Heap} : ∀ {k : NestedKey} {v : Value}, Pure' h k v → NestedIs h k v
  | _, _, .none => .none
  | _, _, .int i t => .int i t
  | _, _, .text x t => .text x t
  | _, _, .tup a b c d => .tup a b c (PureAll.keys d)
theorem PureAll.keys {h : Heap} : ∀ {ks : List NestedKey} {vs : List Value}, PureAll h ks vs → NestedAll h ks vs
  | _, _, .nil => .nil
  | _, _, .cons a b => .cons a.key (PureAll.keys b)
end
mutual
theorem Pure'.reads {h : Heap} : ∀ {k : NestedKey} {v : Value}, Pure' h k v → ∃ as, Reads h v k.data as
  | _, _, .none => ⟨_, .none⟩
  | _, _, .int i t => ⟨_, .int i t⟩
  | _, _, .text x t => ⟨_, .str x t⟩
  | _, _, .tup a b c d => let ⟨_, e⟩ := PureAll.reads d; ⟨_, .tuple a b c e⟩
theorem PureAll.reads {h : Heap} : ∀ {ks : List NestedKey} {vs : List Value}, PureAll h ks vs → ∃ as, ReadsAll h vs (NestedKey.datas ks) as
  | _, _, .nil => ⟨_, .nil⟩
  | _, _, .cons a b => let ⟨_, e⟩ := Pure'.reads a; let ⟨_, f⟩ := PureAll.reads b; ⟨_, .cons e f⟩
end
mutual
theorem Pure'.keep {h g : Heap} (hk : ∀ b o, h.get? b = some o → o.cls = .type "tuple" → g.get? b = some o) : ∀ {k : NestedKey} {v : Value}, Pure' h k v → Pure' g k v
  | _, _, .none => .none
  | _, _, .int i t => .int i t
  | _, _, .text x t => .text x t
  | _, _, .tup a b c d => .tup (hk _ _ a b) b c (PureAll.keep hk d)
theorem PureAll.keep {h g : Heap} (hk : ∀ b o, h.get? b = some o → o.cls = .type "tuple" → g.get? b = some o) : ∀ {ks : List NestedKey} {vs : List Value}, PureAll h ks vs → PureAll g ks vs
  | _, _, .nil => .nil
  | _, _, .cons a b => .cons (a.keep hk) (PureAll.keep hk b)
end
section
variable {prog : Program} {w : World} {A : Around} {E : Value → Shared → Prop} {s : Shared}
/-- the firsts of tuples -/
theorem firsts_any : ∀ (vs : List Value), (∀ v ∈ vs, ∃ k, Pure' s.heap (.tup k) v) → ∃ fs : List (Option Value), fs.length = vs.length ∧
    (∀ (E : Value → Shared → Prop) (Q : List (Option Value) → Shared → Prop), Q fs s → wpAny (model prog w) A (vs.mapM firstOfTuple') Q E s) ∧
    (fs.all (·.isSome) = true → ∀ v ∈ vs, ∃ k ks, Pure' s.heap (.tup (k :: ks)) v)
  | [], _ => ⟨[], rfl, fun E Q q => by rw [List.mapM_nil]; exact wpAny_pure q, fun _ v hv => by cases hv⟩
  | v :: vs, hv => by
    obtain ⟨fs, e1, e2, e3⟩ := firsts_any vs fun u hu => hv u (List.mem_cons_of_mem _ hu)
    obtain ⟨k, hp⟩ := hv v List.mem_cons_self
    cases hp with
    | @tup a o xs n _ hg hc hd hk =>
      refine ⟨xs[0]? :: fs, by rw [List.length_cons, List.length_cons, e1], fun E Q q => ?_, fun hall u hu => ?_⟩
      · rw [List.mapM_cons]
        refine wpAny_bind ?_
        rw [kas_first_eq]
        refine wpAny_bind (wpAny_typeOf (T := "tuple") ⟨o, hg, hc⟩ ?_)
        rw [if_neg (by first | decide | simp)]
        refine wpAny_bind (listItems_at hg hd (wpAny_pure ?_))
        exact wpAny_bind (e2 _ _ (wpAny_pure q))
      · rw [List.all_cons, Bool.and_eq_true] at hall
        rcases List.mem_cons.mp hu with rfl | hu
        · cases k with
          | nil =>
            cases z : xs.toList with
            | nil =>
              have : xs[0]? = none := by rw [← Array.getElem?_toList, z]; rfl
              rw [this] at hall
              cases hall.1
            | cons y ys =>
              rw [z] at hk
              cases hk
          | cons k ks => exact ⟨k, ks, .tup hg hc hd hk⟩
        · exact e3 hall.2 u hu
/-- two tuples, as keys of one type -/
theorem one_lt_tups {ks ls : List NestedKey} {a b : Value} {Q : Bool → Shared → Prop} (x : Pure' s.heap (.tup ks) a) (y : Pure' s.heap (.tup ls) b)
    (hal : alike (NestedKey.tup ks).data (NestedKey.tup ls).data = true) (hu : A.units + (NestedKey.tup ks).data.depth < cLine)
    (q : Q (dataLt (NestedKey.tup ks).data (NestedKey.tup ls).data) s) : wpAny (model prog w) A (oneLt' true a b) Q E s := by
  have hal2 : alikeAll (NestedKey.datas ks) (NestedKey.datas ls) = true := by simpa [NestedKey.data, alike] using hal
  have hroom : A.units + min (PyData.tuple (NestedKey.datas ks)).depth (PyData.tuple (NestedKey.datas ls)).depth < cLine := Nat.lt_of_le_of_lt (Nat.add_le_add_left (Nat.min_le_left _ _) _) hu
  cases x with
  | @tup l o vs n _ h1 h2 h3 h4 =>
    cases y with
    | @tup m o' us n' _ g1 g2 g3 g4 =>
      obtain ⟨as, r1⟩ := h4.reads
      obtain ⟨bs, r2⟩ := g4.reads
      have n1 : vs.size = (NestedKey.datas ks).length := by simpa using SeqAt.ReadsAll.length _ _ _ r1
      have n2 : us.size = (NestedKey.datas ls).length := by simpa using SeqAt.ReadsAll.length _ _ _ r2
      have hq : Q (dataLt (.tuple (NestedKey.datas ks)) (.tuple (NestedKey.datas ls))) s := q
      rw [dataLt_tuple, ← firstLt_toks _ _ hal2, ← n1, ← n2] at hq
      rw [oneLt'_eq]
      simp only [if_true]
      refine wpAny_bind (wpAny_cRoomFor (room_here hroom) ?_)
      refine wpAny_bind (wpAny_callSpecialIfBound?_slot (T := "tuple") ⟨_, h1, h2⟩ F.slot_tuple_lt ?_)
      obtain ⟨cl1, d1, dt1, sl1⟩ := o
      obtain ⟨cl2, d2, dt2, sl2⟩ := o'
      simp only at h2 h3 g2 g3
      subst h2 h3 g2 g3
      refine call_meets F.slot_tuple_lt ⟨_, h1, rfl⟩ F.entry_tuple_lt (F.args_tuple_lt_2 _ _) (tuple_ltAt l m vs us n n' d1 d2 sl1 sl2 (pairEq (NestedKey.datas ks) (NestedKey.datas ls)) (fun j => dataLt ((NestedKey.datas ks).getD j .none) ((NestedKey.datas ls).getD j .none)))
        ⟨h1, g1, fun j j1 j2 => ?_, fun j j1 j2 hj => ?_, wpAny_truthy_bool hq⟩
      · have z := eqAt_alikeAll (NestedKey.datas ks) (NestedKey.datas ls) A.in1 s vs.toList us.toList _ _ r1 r2 hal2 (room_in hroom) j (by simpa using j1) (by simpa using j2)
        simpa using z
      · have z := rcLt_alikeAll (NestedKey.datas ks) (NestedKey.datas ls) A.in1 s vs.toList us.toList _ _ r1 r2 hal2 (room_in hroom) j (by simpa using j1) (by simpa using j2) hj
        simpa using z
/-- tuples that read as alike data, ranked -/
structure Ranked (A : Around) (h : Heap) (vs : List Value) (rk : Value → Nat) : Prop where
  key : ∀ v ∈ vs, ∃ ks, Pure' h (.tup ks) v ∧ A.units + (NestedKey.tup ks).data.depth < cLine
  alk : ∀ v ∈ vs, ∀ u ∈ vs, ∀ k l, Pure' h (.tup k) v → Pure' h (.tup l) u → alike (NestedKey.tup k).data (NestedKey.tup l).data = true ∧ dataLt (NestedKey.tup k).data (NestedKey.tup l).data = decide (rk v < rk u)
theorem swo_rank (rk : Value → Nat) : Swo fun v u => decide (rk v < rk u) :=
  ⟨fun x y h => by simp only [decide_eq_true_eq, decide_eq_false_iff_not] at *; omega, fun x y z h1 h2 => by simp only [decide_eq_true_eq, decide_eq_false_iff_not] at *; omega⟩
theorem Pure'.one {h : Heap} {k l : NestedKey} {v : Value} (a : Pure' h k v) (b : Pure' h l v) : k = l := NestedIs.inj _ _ _ a.key b.key
theorem ranked_kind {vs : List Value} {rk : Value → Nat} (h2 : 2 ≤ vs.length) (R : Ranked A s.heap vs rk) : ∃ κ,
    (∀ (Q : SortKind → Shared → Prop) (E : Value → Shared → Prop), Q κ s → wpAny (model prog w) A (keyKind' vs.toArray) Q E s) ∧
    SrtO.Cmp prog w A s κ (fun p => p.1 ∈ vs) (SrtO.lt2 fun v u => decide (rk v < rk u)) := by
  obtain ⟨fs, e1, e2, e3⟩ := firsts_any (prog := prog) (w := w) (A := A) (s := s) vs fun v hv => let ⟨ks, h, _⟩ := R.key v hv; ⟨ks, h⟩
  by_cases hall : fs.all (·.isSome) = true
  · -- no empty one
    have hne := e3 hall
    have dOf : ∀ vs : List Value, (∀ v ∈ vs, ∃ k ks, Pure' s.heap (.tup (k :: ks)) v) → ∃ ds, EachIs (fun v d => ∃ as, Reads s.heap v d as) vs ds ∧ ∀ d ∈ ds, ∃ v ∈ vs, ∃ k ks, Pure' s.heap (.tup (k :: ks)) v ∧ d = (NestedKey.tup (k :: ks)).data := by
      intro vs
      induction vs with
      | nil => intro _; exact ⟨[], .nil, fun d hd => by cases hd⟩
      | cons v vs ih =>
        intro hv
        obtain ⟨ds, d1, d2⟩ := ih fun u hu => hv u (List.mem_cons_of_mem _ hu)
        obtain ⟨k, ks, hp⟩ := hv v List.mem_cons_self
        refine ⟨_ :: ds, .cons hp.reads d1, fun d hd => ?_⟩
        rcases List.mem_cons.mp hd with rfl | hd
        · exact ⟨v, List.mem_cons_self, k, ks, hp, rfl⟩
        · obtain ⟨u, hu, r⟩ := d2 d hd
          exact ⟨u, List.mem_cons_of_mem _ hu, r⟩
    obtain ⟨ds, d1, d2⟩ := dOf vs hne
    have hal : AllAlike ds := fun d hd d' hd' => by
      obtain ⟨v, hv, k, ks, p1, rfl⟩ := d2 d hd
      obtain ⟨u, hu, l, ls, p2, rfl⟩ := d2 d' hd'
      exact (R.alk v hv u hu _ _ p1 p2).1
    have S := SortsAt.data (prog := prog) (w := w) (A := A) d1 hal (.inl fun d hd => by
      obtain ⟨v, hv, k, ks, p1, rfl⟩ := d2 d hd
      exact ⟨_, _, rfl⟩) fun d hd => by
      obtain ⟨v, hv, k, ks, p1, rfl⟩ := d2 d hd
      obtain ⟨ks', p2, hu⟩ := R.key v hv
      rw [p1.one p2]
      exact hu
    obtain ⟨κ, hlt, hkind⟩ := S.kind
    refine ⟨κ, fun Q E q => hkind h2 E q, fun p q hp hq => ?_⟩
    obtain ⟨k, ks, p1⟩ := hne _ hp
    obtain ⟨l, ls, p2⟩ := hne _ hq
    obtain ⟨_, r1⟩ := p1.reads
    obtain ⟨_, r2⟩ := p2.reads
    obtain ⟨d, hd, as, f1⟩ := d1.left _ hp
    obtain ⟨d', hd', bs, f2⟩ := d1.left _ hq
    obtain ⟨v, hv, k', ks', p1', rfl⟩ := d2 d hd
    obtain ⟨u, hu, l', ls', p2', rfl⟩ := d2 d' hd'
    refine hlt _ _ _ _ _ (dataKind_some hal hd f1) (dataKind_some hal hd' f2) ⟨rfl, ?_⟩
    have ed : (NestedKey.tup (k' :: ks')).data = (NestedKey.tup (k :: ks)).data := alike_unique _ _ _ _ _ (by
      have := hal _ hd _ hd
      have z := R.alk v hv _ hp _ _ p1' p1
      exact z.1) f1 r1
    have ed' : (NestedKey.tup (l' :: ls')).data = (NestedKey.tup (l :: ls)).data := alike_unique _ _ _ _ _ (by
      have z := R.alk u hu _ hq _ _ p2' p2
      exact z.1) f2 r2
    rw [ed, ed']
    exact (R.alk _ hp _ hq _ _ p1 p2).2
  · have cmpG : ∀ f : Bool, ∀ p q : Keyed, p.1 ∈ vs → q.1 ∈ vs → wpAny (model prog w) A (oneLt' f p.1 q.1) (fun r s' => s' = s ∧ r = SrtO.lt2 (fun v u => decide (rk v < rk u)) p q) (fun _ _ => False) s := by
      intro f p q hp hq
      obtain ⟨ks, p1, hu⟩ := R.key _ hp
      obtain ⟨ls, p2, _⟩ := R.key _ hq
      obtain ⟨ha, hl⟩ := R.alk _ hp _ hq _ _ p1 p2
      cases f with
      | true => exact one_lt_tups p1 p2 ha hu ⟨rfl, hl⟩
      | false =>
        obtain ⟨_, r1⟩ := p1.reads
        obtain ⟨_, r2⟩ := p2.reads
        exact oneLt_alike (f := false) (fun z => by cases z) r1 r2 ha (by simp [NestedKey.data]) (Nat.lt_of_le_of_lt (Nat.add_le_add_left (Nat.min_le_left _ _) _) hu) ⟨rfl, hl⟩
    by_cases hf : (fs.toArray[0]?.bind id).isSome = true
    · refine ⟨general', fun Q E q => ?_, fun p q hp hq => cmpG false p q hp hq⟩
      rw [kat_kind_eq, List.mapM_toArray, map_eq_pure_bind]
      refine wpAny_bind (wpAny_bind (e2 _ _ (wpAny_pure ?_)))
      rw [if_neg (by simpa using hall), if_pos hf]
      exact wpAny_pure q
    · refine ⟨oneType', fun Q E q => ?_, fun p q hp hq => cmpG true p q hp hq⟩
      rw [kat_kind_eq, List.mapM_toArray, map_eq_pure_bind]
      refine wpAny_bind (wpAny_bind (e2 _ _ (wpAny_pure ?_)))
      rw [if_neg (by simpa using hall), if_neg hf]
      rw [oneTypeOnly'_eq, List.mapM_toArray, map_eq_pure_bind]
      refine wpAny_bind (wpAny_bind (wpAny_bind (kas_mapM (r := Value.type "tuple") _ (fun v hv Q' hq => ?_) (wpAny_pure ?_))))
      · obtain ⟨ks, p1, _⟩ := R.key v hv
        cases p1 with
        | tup hg hc hd hk => exact wpAny_typeOf (T := "tuple") ⟨_, hg, hc⟩ hq
      · obtain ⟨v, vr, rfl⟩ : ∃ v vr, vs = v :: vr := by
          match vs, h2 with
          | v :: vr, _ => exact ⟨v, vr, rfl⟩
        have h0 : (List.map (fun _ => Value.type "tuple") (v :: vr)).toArray[0]? = some (Value.type "tuple") := by simp
        have hall2 : ((List.map (fun _ => Value.type "tuple") (v :: vr)).toArray.all fun x => x == Value.type "tuple") = true := by
          simp only [List.all_toArray, List.all_map, List.all_eq_true]
          intro _ _
          rfl
        rw [h0]
        simp only [hall2, if_true]
        exact wpAny_pure (wpAny_pure q)
end
end NSet
set_option maxRecDepth 100000
/-! set.add, set(list), sorted(set): sets of nested tuples -/
namespace NSet
open PySem PySem.Spec PyProof.Rows L2 PySem.SeqAt PySem.W
abbrev freshSet (w : World) : Obj := { cls := .type "set", dict := none, data := .set #[] 0 (.fresh 0 0 (!w.params.followText "set-order")) }
/-- keys of a finite lot -/
def Within (C : List NestedKey) (L : List Row) : Prop := C.length < 60 ∧ ∀ r ∈ L, r.2 ∈ C
theorem nodup_le {α : Type} [DecidableEq α] : ∀ (l m : List α), l.Nodup → (∀ x ∈ l, x ∈ m) → l.length ≤ m.length
  | [], _, _, _ => Nat.zero_le _
  | x :: l, m, hn, hs => by
    have hx := hs x List.mem_cons_self
    have z := nodup_le l (m.erase x) (List.nodup_cons.mp hn).2 fun y hy => (List.mem_erase_of_ne (fun e => (List.nodup_cons.mp hn).1 (by rw [← e]; exact hy))).2 (hs y (List.mem_cons_of_mem _ hy))
    rw [List.length_erase_of_mem hx] at z
    have := List.length_pos_of_mem hx
    rw [List.length_cons]
    omega
section
variable {P : Program} {w : World} {A : Around} {E : Value → Shared → Prop} {s : Shared}
variable {a : Addr} {L : List Row} {es : Array (Int × Value)} {ep : Nat} {t : SetTable} {C : List NestedKey}
theorem STab.bound (R : STab w s.heap a L es ep t) (hC : Within C L) : L.length < 60 := by
  have z := nodup_le (L.map Prod.snd) C R.nodup fun k hk => by
    obtain ⟨r, hr, e⟩ := List.mem_map.mp hk
    rw [← e]; exact hC.2 r hr
  rw [List.length_map] at z
  exact Nat.lt_of_le_of_lt z hC.1
theorem STab.after {h g : Heap} (R : STab w h a L es ep t) (h1 : ∀ o, h.get? a = some o → g.get? a = some o) (h2 : ∀ r ∈ L, KAt g r.2 r.1) : STab w g a L es ep t := by
  obtain ⟨o, ho, r⟩ := R.obj
  exact ⟨⟨o, h1 o ho, r⟩, R.ent, R.tok, R.nodup, h2, R.ledor, R.space, R.small⟩
theorem stab_new {h : Heap} (ho : h.get? a = some (freshSet w)) : STab w h a [] #[] 0 (.fresh 0 0 (!w.params.followText "set-order")) := by
  refine ⟨⟨_, ho, ⟨rfl, rfl, rfl⟩, rfl⟩, rfl, ⟨List.Pairwise.nil, rfl, rfl, .inl rfl, fun x hx => (by cases hx), fun i h j hi => (by simp [hashL] at hi)⟩, List.nodup_nil, fun r hr => (by cases hr), ?_, ?_, ?_⟩
  · cases hf : w.params.followText "set-order"
    · exact .inr rfl
    · exact .inl rfl
  · show 0 * 5 < 7 * 3
    decide
  · show 0 < 64
    decide
/-- adding with the hash asked -/
theorem set_add_at (R : STab w s.heap a L es ep t) {x : Addr} {k : NestedKey} (hx : KAt s.heap k x) (hu : A.units + 9 < cLine) (hfew : L.length + 1 < 64) {Q : Bool → Shared → Prop}
    (q : ∀ b h' tk L' es' ep' t', Heap.SameBut a s.heap h' → STab w h' a L' es' ep' t' → (k ∈ L.map Prod.snd → L' = L) → (k ∉ L.map Prod.snd → L'.Perm ((x, k) :: L)) → Q b { s with heap := h', toks := s.toks + tk }) :
    wpAny (model P w) A (setAdd a (.ref x)) Q E s := by
  have hd := hx.2
  unfold setAdd
  refine wpAny_holding (wpAny_bind (pyHash_key k _ A s _ hx.1 (by omega) ?_))
  exact put_key (s := { s with toks := s.toks + k.draws }) R hx (by omega) hfew fun b h' L' es' ep' t' h1 h2 h3 h4 => q b h' k.draws L' es' ep' t' h1 h2 h3 h4
/-- found.add(x) -/
theorem call_add (R : STab w s.heap a L es ep t) {x : Addr} {k : NestedKey} (hx : KAt s.heap k x) (hu : A.units + 12 < cLine) (hfew : L.length + 1 < 64) {Q : Value → Shared → Prop}
    (q : ∀ h' tk L' es' ep' t', Heap.SameBut a s.heap h' → STab w h' a L' es' ep' t' → (k ∈ L.map Prod.snd → L' = L) → (k ∉ L.map Prod.snd → L'.Perm ((x, k) :: L)) → Q .none { s with heap := h', toks := s.toks + tk }) :
    wpAny (model P w) A (call (.builtin "set.add") [.ref a, .ref x]) Q E s := by
  obtain ⟨o, ho, hex, _⟩ := R.obj
  refine wpAny_call_entry F.slot_set_add (T := "set") ⟨o, ho, hex.1⟩ F.entry_set_add ?_ (F.args_set_add_2 _ _)
  unfold Builtin.«set.add» Builtin.Frozenset.oneOther
  simp only [List.isEmpty_nil, bind_assoc]
  unfold Builtin.Frozenset.addrOf
  refine wpAny_bind (wpAny_pure ?_)
  try dsimp only
  refine wpAny_bind (wpAny_pure ?_)
  try dsimp only
  refine wpAny_bind (set_add_at R hx (by simp only [Around.in1_units]; omega) hfew fun b h' tk L' es' ep' t' h1 h2 h3 h4 => ?_)
  show wpAny _ _ (ret Value.none) _ _ _
  exact wpAny_pure ⟨_, rfl, q h' tk L' es' ep' t' h1 h2 h3 h4⟩
/-- what the set has of the first i of ks -/
structure Has (ks : List Row) (i : Nat) (L : List Row) : Prop where
  from_ : ∀ r ∈ L, r ∈ ks.take i
  got : ∀ r ∈ ks.take i, r.2 ∈ L.map Prod.snd
theorem Has.nil (ks : List Row) : Has ks 0 [] := ⟨fun r h => (by cases h), fun r h => (by simp at h)⟩
theorem Has.next {ks L L' : List Row} {i : Nat} {x : Row} (g : Has ks i L) (h : ks[i]? = some x) (h1 : x.2 ∈ L.map Prod.snd → L' = L) (h2 : x.2 ∉ L.map Prod.snd → L'.Perm (x :: L)) : Has ks (i + 1) L' := by
  have e : ks.take (i + 1) = ks.take i ++ [x] := by rw [List.take_succ, h]; rfl
  by_cases c : x.2 ∈ L.map Prod.snd
  · rw [h1 c, ]
    refine ⟨fun r hr => by rw [e]; exact List.mem_append_left _ (g.from_ r hr), fun r hr => ?_⟩
    rw [e] at hr
    rcases List.mem_append.mp hr with hr | hr
    · exact g.got r hr
    · rw [List.mem_singleton.mp hr]; exact c
  · have pm := h2 c
    refine ⟨fun r hr => ?_, fun r hr => ?_⟩
    · rw [e]
      rcases List.mem_cons.mp (pm.mem_iff.mp hr) with z | hr
      · rw [z]; exact List.mem_append_right _ (List.mem_singleton.mpr rfl)
      · exact List.mem_append_left _ (g.from_ r hr)
    · rw [e] at hr
      refine (pm.map Prod.snd).mem_iff.mpr ?_
      rw [List.map_cons]
      rcases List.mem_append.mp hr with hr | hr
      · exact List.mem_cons_of_mem _ (g.got r hr)
      · rw [List.mem_singleton.mp hr]; exact List.mem_cons_self
/-- the loop of set.update -/
theorem update_loop {I : Addr} {fp wr : List Addr} {G : Array GenState → Array GenState → Prop} {n : Nat} {Pv : Nat → Value → Prop} {St : Nat → Shared → Prop} {R : Result → Shared → Prop}
    (W : WalksS P w A.in1 I fp wr G n Pv St) (S : Addr) (hS : S ∉ fp) (ks : List Row) (hn : n = ks.length) (hC : Within C ks) (hval : ∀ i v, Pv i v → ∃ r, ks[i]? = some r ∧ v = .ref r.1)
    (h0 : Heap) (hk : ∀ r ∈ ks, KAt h0 r.2 r.1) (hS0 : h0.get? S = none) (hw0 : ∀ b ∈ wr, h0.get? b = none) (hu : A.in1.units + 9 < cLine) :
    ∀ (k i : Nat) (s : Shared), n - i = k → i ≤ n → St i s → (∀ b o, h0.get? b = some o → s.heap.get? b = some o) → (∃ L es ep t, STab w s.heap S L es ep t ∧ Has ks i L) →
      (∀ s' L es ep t, Moved (S :: wr) G s s' → STab w s'.heap S L es ep t → Has ks n L → (∀ b o, h0.get? b = some o → s'.heap.get? b = some o) → R (.ok (.ret .none)) s') →
      codeAny (model P w) A (.builtin "set.update.loop" ⟨[.ref S, .ref I], []⟩) R s := by
  have hSw : S ∉ wr := fun h => hS (W.sub _ h)
  have big : ∀ b ∈ wr, b ∈ S :: wr := fun b hb => List.mem_cons_of_mem _ hb
  have kept : ∀ {s s' : Shared}, Moved wr G s s' → (∀ b o, h0.get? b = some o → s.heap.get? b = some o) → ∀ b o, h0.get? b = some o → s'.heap.get? b = some o := fun hm kp b o e =>
    hm.heap b o (fun hb => by rw [hw0 b hb] at e; cases e) (kp b o e)
  have keysIn : ∀ {i : Nat} {L : List Row}, Has ks i L → ∀ r ∈ L, r ∈ ks := fun g r hr => List.mem_of_mem_take (g.from_ r hr)
  intro k
  induction k with
  | zero =>
    intro i s hki hi st kp ⟨L, es, ep, t, T, g⟩ fin
    obtain rfl : i = n := by omega
    refine codeAny_builtin F.entry_set_update_loop ?_
    rw [Around.under_plainId F.plain_set_update_loop _]
    show wpAny _ A.in1 (pyNext (.ref I) >>= _) _ _ s
    refine wpAny_bind (W.done s _ _ st fun s' hm => ?_)
    show wpAny _ A.in1 (ret Value.none) _ _ s'
    have kp' := kept hm kp
    exact wpAny_pure (fin s' L es ep t (hm.mono big) (T.after (fun o e => hm.heap S o hSw e) fun r hr => (hk r (keysIn g r hr)).mono kp') g kp')
  | succ k ih =>
    intro i s hki hi st kp ⟨L, es, ep, t, T, g⟩ fin
    have hlt : i < n := by omega
    refine codeAny_builtin F.entry_set_update_loop ?_
    rw [Around.under_plainId F.plain_set_update_loop _]
    show wpAny _ A.in1 (pyNext (.ref I) >>= _) _ _ s
    refine wpAny_bind (W.item i s _ _ hlt st fun v s' hP st' hm => ?_)
    obtain ⟨r, hr, e⟩ := hval i v hP
    subst e
    have kp' := kept hm kp
    have T' : STab w s'.heap S L es ep t := T.after (fun o e => hm.heap S o hSw e) fun q hq => (hk q (keysIn g q hq)).mono kp'
    have hx : KAt s'.heap r.2 r.1 := (hk r (List.mem_of_getElem? hr)).mono kp'
    have hb : L.length < 60 := T'.bound ⟨hC.1, fun q hq => hC.2 q (keysIn g q hq)⟩
    show wpAny _ A.in1 (holding [Value.ref r.1] (setAdd S (.ref r.1)) >>= _) _ _ s'
    refine wpAny_bind (wpAny_holding (set_add_at T' hx hu (by omega) fun b h' tk L' es' ep' t' sb T2 c1 c2 => ?_))
    have g' : Has ks (i + 1) L' := g.next hr c1 c2
    have kp2 : ∀ b o, h0.get? b = some o → h'.get? b = some o := fun b o e => (sb.2 b (fun z => by rw [z, hS0] at e; cases e)).trans (kp' b o e)
    refine wpAny_pure ⟨plainId_quiet F.plain_set_update_loop _, ih (i + 1) _ (by omega) hlt (W.frame _ s' _ _ st' (Nat.le_add_right _ _) fun b hb o e => ?_) kp2 ⟨L', es', ep', t', T2, g'⟩ fun s'' L2 es2 ep2 t2 hm2 T3 g3 kp3 => ?_⟩
    · exact (sb.2 b (fun z : b = S => hS (by rw [← z]; exact hb))).trans e
    · refine fin s'' L2 es2 ep2 t2 (Moved.trans W.gtrans ((hm.mono big).then_heap (Nat.le_add_right _ _) fun b o hb e => ?_) hm2) T3 g3 kp3
      exact (sb.2 b (fun z : b = S => hb (by rw [z]; exact List.mem_cons_self))).trans e
set_option maxHeartbeats 3200000 in
/-- set(xs), xs a list of such tuples -/
theorem call_set_of {l : Addr} {items : Array Value} (ks : List Row) {Q : Value → Shared → Prop} (hh : A.handled = none) (hl : s.heap.IsList l items) (hit : items.toList = ks.map fun r => Value.ref r.1)
    (hk : ∀ r ∈ ks, KAt s.heap r.2 r.1) (hC : Within C ks) (hu : A.units + 20 < cLine)
    (q : ∀ (h' : Heap) (tk : Nat) L es ep t, STab w h' s.heap.objs.size L es ep t → Has ks ks.length L → (∀ b o, s.heap.get? b = some o → h'.get? b = some o) → Q (.ref s.heap.objs.size) { s with heap := h', toks := tk }) :
    wpAny (model P w) A (call (.type "set") [.ref l]) Q E s := by
  have hisz : items.size = ks.length := by
    have z := congrArg List.length hit
    rwa [Array.length_toList, List.length_map] at z
  have hz0 : ∀ b, s.heap.objs.size ≤ b → s.heap.get? b = none := fun b hb => by
    cases z : s.heap.get? b with
    | none => rfl
    | some o => exact absurd (Nat.lt_of_lt_of_le (Heap.lt_size z) hb) (Nat.lt_irrefl _)
  obtain ⟨c, tl, hmro⟩ := F.called_set.mro
  have hmade := F.called_set.made
  have hsub := F.called_set.sub
  refine wpAny_call (codeAny_of_tree ?_)
  show wpAny _ _ (callAny (.type "set") _) _ _ _
  refine wpAny_pure ⟨Code.quiet_builtin _ (by decide +kernel), codeAny_builtin F.entry_type_call ?_⟩
  rw [Around.under_plain (weight_type_call_type "set" [.ref l] []) rfl]
  have p1 := F.called_set.notType
  have p2 := F.called_set.canCreate
  have p3 := F.typeCall_set_1 (.ref l)
  repeat (any_goals (first | assumption | wp_step))
  refine codeAny_mono (code_set_led1 (.ref l) (E := E) (Q₁ := fun v s1 => v = .ref s.heap.objs.size ∧ s1 = { s with heap := s.heap.push (freshSet w) }) ⟨rfl, rfl⟩) fun r s1 hr => ?_
  cases r with
  | error e => exact hr
  | ok fl =>
    cases fl with
    | ret obj =>
      obtain ⟨e1, e2⟩ := hr
      subst e1
      subst e2
      have hSn : (s.heap.push (freshSet w)).get? s.heap.objs.size = some (freshSet w) := Heap.get?_push_size _ rfl
      have hT : Shared.TypeIs { s with heap := s.heap.push (freshSet w) } (.ref s.heap.objs.size) "set" := ⟨_, hSn, rfl⟩
      have p4 := F.called_set.init.lookup
      have p5 := F.called_set.init.bind (.ref s.heap.objs.size)
      repeat (any_goals (first | assumption | wp_step))
      refine codeAny_mono (codeAny_call_builtin (R := wants (fun r s2 => r = .none ∧ ∃ h' tk L es ep t, s2 = { s with heap := h', toks := tk } ∧ STab w h' s.heap.objs.size L es ep t ∧ Has ks ks.length L ∧
          (∀ b o, s.heap.get? b = some o → h'.get? b = some o)) E) F.called_set.init.plain F.entry_set_init (check_set_init_1 hT ?_)) fun r2 s2 hr2 => ?_
      · obtain ⟨ol, hol, hcl, nl, hdl⟩ := hl
        obtain ⟨ocls, odict, odata, oslots⟩ := ol
        simp only at hcl hdl
        subst hcl
        subst hdl
        have hol1 : (s.heap.push (freshSet w)).get? l = some { cls := .type "list", dict := odict, data := .seq items nl, slots := oslots } := Heap.get?_push_of_some _ hol
        have p6 := F.sub_list_set
        have p7 := F.sub_list_frozenset
        have p8 : (Value.type "list" == Value.type "dict") = false := by decide
        have hl1 : (s.heap.push (freshSet w)).IsList l items := ⟨_, hol1, rfl, nl, rfl⟩
        unfold Builtin.«set.__init__» noKeywords Builtin.Frozenset.updateFrom
        generalize hPI : pyIter = PI
        wp_walk
        subst hPI
        refine wpAny_pyIter_list hl1 (wpAny_bind (wpAny_runValue ?_))
        have hlS : l < s.heap.objs.size := Heap.lt_size hol
        have hh3 : A.in1.in1.in1.handled = none := by simp [hh]
        have hz1 : (s.heap.push (freshSet w)).objs.size = s.heap.objs.size + 1 := Heap.size_push ..
        have hI : l ≠ (s.heap.push (freshSet w)).objs.size := by rw [hz1]; exact Nat.ne_of_lt (Nat.lt_succ_of_lt hlS)
        have hSf : s.heap.objs.size ∉ [(s.heap.push (freshSet w)).objs.size, l] := by
          rw [hz1]
          simp only [List.mem_cons, List.not_mem_nil, or_false, not_or]
          exact ⟨Nat.ne_of_lt (Nat.lt_succ_self _), Nat.ne_of_gt hlS⟩
        refine update_loop (C := C) ((Walks.list hh3 _ l hI items).toS) s.heap.objs.size hSf ks hisz hC (fun i v hv => ?_) s.heap hk (hz0 _ (Nat.le_refl _)) (fun b hb => hz0 b (by
            rw [List.mem_singleton.mp hb, hz1]
            exact Nat.le_succ _)) (by simp only [Around.in1_units]; omega) (items.size - 0) 0 _ (by omega) (Nat.zero_le _)
          ⟨⟨_, Heap.get?_push_size _ rfl, rfl, rfl⟩, (hl1.push _)⟩ (fun b o e => Heap.get?_push_of_some _ (Heap.get?_push_of_some _ e)) ?start ?end_
        · have z : items.toList[i]? = some v := by rw [Array.getElem?_toList]; exact hv
          rw [hit, List.getElem?_map] at z
          cases hq : ks[i]? with
          | none => rw [hq] at z; cases z
          | some r =>
            rw [hq] at z
            exact ⟨r, rfl, (Option.some.inj z).symm⟩
        case start => exact ⟨[], #[], 0, _, stab_new (Heap.get?_push_of_some _ hSn), Has.nil ks⟩
        case end_ =>
          intro s' L es ep t hm T g kp
          obtain ⟨h', g2, d', tk', os'⟩ := s'
          have eg : g2 = s.gens := hm.gens
          have ed : d' = s.drawn := hm.drawn
          have eo : os' = s.os := hm.os
          subst eg
          subst ed
          subst eo
          show wpAny _ _ _ _ _ _
          refine wpAny_pure ?_
          show wpAny _ _ (ret Value.none) _ _ _
          rw [hisz] at g
          exact wpAny_pure ⟨rfl, h', tk', L, es, ep, t, rfl, T, g, kp⟩
      · cases r2 with
        | error e => exact hr2
        | ok fl2 =>
          cases fl2 with
          | ret r =>
            obtain ⟨e1, h', tk, L, es, ep, t, e2, T, g, kp⟩ := hr2
            subst e1
            subst e2
            repeat (any_goals (first | assumption | wp_step))
            exact q _ _ _ _ _ _ T g kp
          | _ => exact hr2.elim
    | _ => exact hr.elim
/-- sorted(set): the rows by their ranks -/
theorem call_sorted_of {Q : Value → Shared → Prop} (R : STab w s.heap a L es ep t) (hh : A.handled = none) (rk : NestedKey → Nat)
    (hp : ∀ r ∈ L, ∃ ks, r.2 = .tup ks ∧ Pure' s.heap (.tup ks) (.ref r.1)) (hd : ∀ r ∈ L, A.units + 2 + r.2.data.depth < cLine)
    (hal : ∀ r ∈ L, ∀ r' ∈ L, alike r.2.data r'.2.data = true ∧ dataLt r.2.data r'.2.data = decide (rk r.2 < rk r'.2))
    (q : ∀ s' p (out : Array Value) (c : Nat) (L' : List Row), (∀ b o, s.heap.get? b = some o → s'.heap.get? b = some o) → s'.gens = s.gens → s'.os = s.os → s.heap.objs.size ≤ p →
      s'.heap.get? p = some (seqObj "list" out c) → out.toList = L'.map (fun r => Value.ref r.1) → L'.Perm L → L'.Pairwise (fun x y => ¬ rk y.2 < rk x.2) → Q (.ref p) s') :
    wpAny (model P w) A (call (.builtin "sorted") [.ref a]) Q E s := by
  classical
  obtain ⟨o, ho, hex, hdat⟩ := R.obj
  have hsz := R.sz
  have hsm := R.small
  refine Calls.call_function_entry kind_sorted plain_sorted entry_sorted (args_sorted1 _) ?_
  unfold Builtin.«sorted»
  refine wpAny_bind (m := checkCount "sorted" 1 1 _) (wpAny_pure ?_)
  refine wpAny_bind (collect_set (A := A.in1) hh ⟨o, ho, hex.1, hdat⟩ R.fit (by unfold scanBound; omega) R.tok.ris R.ledor fun s1 vs k1 hz g1 o1 pm => ?_)
  have hes : es.toList.map (·.2) = L.map fun r => Value.ref r.1 := by
    rw [R.ent]
    unfold ents
    rw [List.map_map]
    rfl
  rw [hes] at pm
  -- a value's row
  have uniq : ∀ r ∈ L, ∀ r' ∈ L, r.1 = r'.1 → r = r' := fun r hr r' hr' e => Prod.ext e ((R.keys r hr).inj (by rw [e]; exact R.keys r' hr'))
  have rowOf : ∀ v ∈ vs, ∃ r ∈ L, v = Value.ref r.1 := fun v hv => by
    obtain ⟨r, hr, e⟩ := List.mem_map.mp (pm.mem_iff.mp hv)
    exact ⟨r, hr, e.symm⟩
  have hvl : vs.length < 64 := by rw [pm.length_eq, List.length_map]; exact hsm
  let rkv : Value → Nat := fun v => if z : ∃ r ∈ L, v = Value.ref r.1 then rk z.choose.2 else 0
  have rkv_eq : ∀ r ∈ L, rkv (Value.ref r.1) = rk r.2 := fun r hr => by
    have z : ∃ r' ∈ L, Value.ref r.1 = Value.ref r'.1 := ⟨r, hr, rfl⟩
    have e : rkv (Value.ref r.1) = rk z.choose.2 := dif_pos z
    obtain ⟨h1, h2⟩ := z.choose_spec
    rw [e, ← uniq r hr _ h1 (by injection h2)]
  refine wpAny_bind (wpAny_newList ?_ (by rw [sizeLine_eq]; omega))
  have hoL : (s1.heap.push (seqObj "list" vs.toArray 0)).get? s1.heap.objs.size = some (seqObj "list" vs.toArray 0) := Heap.get?_push_size _ rfl
  have keep1 : ∀ b u, s.heap.get? b = some u → (s1.heap.push (seqObj "list" vs.toArray 0)).get? b = some u := fun b u e => Heap.get?_push_of_some _ (k1 b u e)
  have hsort : SrtO.SortableO P w A.in1.in1 { s1 with heap := s1.heap.push (seqObj "list" vs.toArray 0) } s1.heap.objs.size vs (fun v u => decide (rkv v < rkv u)) ∨ vs.length < 2 := by
    by_cases h2 : vs.length < 2
    · exact .inr h2
    refine .inl fun h' keep => ?_
    have pk : ∀ b u, s.heap.get? b = some u → u.cls = .type "tuple" → h'.get? b = some u := fun b u e c => by
      refine keep b u (fun z => ?_) (keep1 b u e)
      have z1 := keep1 b u e
      rw [z, hoL] at z1
      cases z1
      exact absurd (Value.type.inj c) (by decide)
    refine ranked_kind (A := A.in1.in1) (s := { s1 with heap := h' }) (by omega) ⟨fun v hv => ?_, fun v hv u hu k l p1 p2 => ?_⟩
    · obtain ⟨r, hr, e⟩ := rowOf v hv
      obtain ⟨ks, e2, p⟩ := hp r hr
      have z := hd r hr
      rw [e2] at z
      refine ⟨ks, by rw [e]; exact p.keep pk, ?_⟩
      simp only [Around.in1_units] at *
      omega
    · obtain ⟨r, hr, e⟩ := rowOf v hv
      obtain ⟨r', hr', e'⟩ := rowOf u hu
      obtain ⟨ks, e2, p⟩ := hp r hr
      obtain ⟨ks', e2', p'⟩ := hp r' hr'
      subst e
      subst e'
      rw [← (p.keep pk).one p1, ← (p'.keep pk).one p2, rkv_eq r hr, rkv_eq r' hr', ← e2, ← e2']
      exact hal r hr r' hr'
  refine wpAny_bind (wpAny_holding (wpAny_call_entry slot_list_sort ⟨_, hoL, rfl⟩ entry_list_sort (SrtO.list_sort_ord (ltv := fun v u => decide (rkv v < rkv u)) (swo_rank rkv) hoL (by rw [sizeLine_eq]; omega) (fun h2 => hsort.elim id fun z => absurd z (by omega)) fun out a1 a2 => ⟨_, rfl, ?_⟩) (args_list_sort _)))
  obtain ⟨c, hc⟩ := sortedHeap_at (vs := vs) (out := out.toArray) hoL
  have pmo := a2.perm
  have back : ∀ l : List Value, (∀ v ∈ l, ∃ r ∈ L, v = Value.ref r.1) → ∃ L1 : List Row, l = L1.map (fun r => Value.ref r.1) ∧ ∀ r ∈ L1, r ∈ L := by
    intro l
    induction l with
    | nil => intro _; exact ⟨[], rfl, fun r hr => (by cases hr)⟩
    | cons v l ih =>
      intro hv
      obtain ⟨r, hr, e⟩ := hv v List.mem_cons_self
      obtain ⟨L1, e1, e2⟩ := ih fun u hu => hv u (List.mem_cons_of_mem _ hu)
      exact ⟨r :: L1, by rw [List.map_cons, e, e1], fun x hx => (List.mem_cons.mp hx).elim (fun z => by rw [z]; exact hr) (e2 x)⟩
  obtain ⟨L', e', hs'⟩ := back out fun v hv => rowOf v (pmo.mem_iff.mp hv)
  have pref : (L'.map fun r => Value.ref r.1).Perm (L.map fun r => Value.ref r.1) := by rw [← e']; exact pmo.trans pm
  have nL : L.Nodup := List.Pairwise.of_map Prod.snd (fun _ _ hne e => hne (congrArg Prod.snd e)) R.nodup
  have nref : (L.map fun r => Value.ref r.1).Nodup := List.pairwise_map.mpr (List.Pairwise.imp_of_mem (fun {x y} hx hy hne e => by
    injection e with e
    exact hne (uniq x hx y hy e)) nL)
  have n1 : L'.Nodup := List.Pairwise.of_map (fun r : Row => Value.ref r.1) (fun _ _ hne e => hne (congrArg (fun r : Row => Value.ref r.1) e)) (pref.nodup_iff.mpr nref)
  have pL : L'.Perm L := (List.perm_ext_iff_of_nodup n1 nL).mpr fun x => ⟨hs' x, fun hx => by
    obtain ⟨y, hy, e⟩ := List.mem_map.mp (pref.mem_iff.mpr (List.mem_map.mpr ⟨x, hx, rfl⟩))
    injection e with e
    rw [← uniq y (hs' y hy) x hx e]
    exact hy⟩
  refine wpAny_pure ⟨_, rfl, q _ s1.heap.objs.size out.toArray c L' (fun b u e => ?_) g1 o1 hz hc (by rw [List.toList_toArray]; exact e') pL ?_⟩
  · have z := k1 b u e
    have hlt := Heap.lt_size z
    show (sortedHeap (s1.heap.push (seqObj "list" vs.toArray 0)) s1.heap.objs.size vs out.toArray).get? b = some u
    rw [sortedHeap_old (Nat.ne_of_lt hlt) (by rw [size_push']; exact Nat.lt_succ_of_lt hlt)]
    exact Heap.get?_push_of_some _ z
  · have z := a1
    rw [e'] at z
    refine List.Pairwise.imp_of_mem (fun {x y} hx hy hle => ?_) (List.pairwise_map.mp z)
    have hle : decide (rkv (Value.ref y.1) < rkv (Value.ref x.1)) = false := hle
    rw [rkv_eq x (hs' x hx), rkv_eq y (hs' y hy)] at hle
    exact of_decide_eq_false hle
end
end NSet
set_option maxRecDepth 100000
set_option maxHeartbeats 4000000
/-! sets of nested tuples in the abstract heap: set(xs), {e for x in xs}, sorted(set) -/
namespace NSet
open PySem PySem.Spec PyProof.Rows L2 PySem.SeqAt
/-- the set at a, its keys left to the abstract heap -/
def SObj (w : World) (h : Heap) (a : Addr) (L : List Row) : Prop := ∃ (es : Array (Int × Value)) (ep : Nat) (t : SetTable),
  (∃ o, h.get? a = some o ∧ o.ExactSet ∧ o.data = .set es ep t) ∧ es.toList = ents w L ∧ TabOk t (hashL w L) ∧ (L.map Prod.snd).Nodup ∧
    (w.params.followText "set-order" = true ∨ t.led = true) ∧ L.length * 5 < t.mask * 3 ∧ L.length < 64
def setO (w : World) (a : Addr) (L : List Row) : HO := .ext fun h => SObj w h a L
theorem STab.sobj {w : World} {h : Heap} {a : Addr} {L : List Row} {es : Array (Int × Value)} {ep : Nat} {t : SetTable} (R : STab w h a L es ep t) : SObj w h a L :=
  ⟨es, ep, t, R.obj, R.ent, R.tok, R.nodup, R.ledor, R.space, R.small⟩
theorem SObj.tab {w : World} {h : Heap} {a : Addr} {L : List Row} (R : SObj w h a L) (hk : ∀ r ∈ L, KAt h r.2 r.1) : ∃ es ep t, STab w h a L es ep t := by
  obtain ⟨es, ep, t, h1, h2, h3, h4, h5, h6, h7⟩ := R
  exact ⟨es, ep, t, ⟨h1, h2, h3, h4, hk, h5, h6, h7⟩⟩
theorem setO_ok {P : Program} {w : World} {H : Hp} {h : Heap} {a : Addr} {L : List Row} (R : SObj w h a L) : ObjOk P w H h a (setO w a L) := by
  have ⟨es, ep, t, ⟨o, ho, r⟩, q⟩ := R
  refine ⟨R, ⟨o, ho⟩, fun h1 h2 p k => ?_⟩
  have ⟨es', ep', t', ⟨o', ho', r'⟩, q'⟩ : SObj w h1 a L := p
  exact (⟨es', ep', t', ⟨o', k o' ho', r'⟩, q'⟩ : SObj w h2 a L)
mutual
/-- the abstract value is the key -/
inductive VKey (K : PySem.W.Frag) (H : Hp) : V → NestedKey → Prop
  | none : VKey K H .non .none
  | int (i) : VKey K H (.int i) (.num i)
  | text (x) : VKey K H (.str x) (.text x)
  | tup {p vs ks} : SqT K H p vs → VKeys K H vs ks → VKey K H (.ref p) (.tup ks)
inductive VKeys (K : PySem.W.Frag) (H : Hp) : List V → List NestedKey → Prop
  | nil : VKeys K H [] []
  | cons {v vs k ks} : VKey K H v k → VKeys K H vs ks → VKeys K H (v :: vs) (k :: ks)
end
section
variable {X : Cx} {pins : List (Addr × Obj)} {σ : L2.St} {H : Hp} {s : Shared}
mutual
theorem VKey.pure (I : Inv X pins σ H s) : ∀ {v : V} {k : NestedKey} {u : Value}, VKey X.K H v k → RelV v u → Pure' s.heap k u
  | _, _, _, .none, r => by cases r; exact .none
  | _, _, _, .int i, r => by obtain ⟨t, rfl⟩ := r; exact .int i t
  | _, _, _, .text x, r => by obtain ⟨t, rfl⟩ := r; exact .text x t
  | _, _, _, .tup h hs, r => by
    cases r
    obtain ⟨its, rv, ⟨o, ho, hc, n, hd⟩, _⟩ := I.tuple h
    exact .tup ho hc hd (by simpa using VKeys.pure I hs rv)
theorem VKeys.pure (I : Inv X pins σ H s) : ∀ {vs : List V} {ks : List NestedKey} {us : List Value}, VKeys X.K H vs ks → Vals vs us → PureAll s.heap ks us
  | _, _, _, .nil, r => by cases r; exact .nil
  | _, _, _, .cons h hs, r => by
    cases r with
    | cons r1 r2 => exact .cons (VKey.pure I h r1) (VKeys.pure I hs r2)
end
theorem VKey.at_ (I : Inv X pins σ H s) {p : Addr} {k : NestedKey} (h : VKey X.K H (.ref p) k) (hd : k.depth ≤ 8) : KAt s.heap k p := ⟨(h.pure I rfl).key, hd⟩
/-- rows that are keys of the abstract heap -/
def RowsOk (K : PySem.W.Frag) (H : Hp) (C : List NestedKey) (L : List Row) : Prop := ∀ r ∈ L, VKey K H (.ref r.1) r.2 ∧ r.2.depth ≤ 8 ∧ r.2 ∈ C
theorem RowsOk.kats {K : PySem.W.Frag} {C : List NestedKey} {L : List Row} (R : RowsOk X.K H C L) (I : Inv X pins σ H s) : ∀ r ∈ L, KAt s.heap r.2 r.1 := fun r hr => (R r hr).1.at_ I (R r hr).2.1
/-- a key goes into the set at D -/
theorem add_row {E : Value → Shared → Prop} {D p : Addr} {k : NestedKey} {L : List Row} {C : List NestedKey} {Q : Value → Shared → Prop} (I : Inv X pins σ H s) (hu : X.A.units + 12 < cLine) (hD : H D = some (setO X.w D L))
    (hL : RowsOk X.K H C L) (hC : C.length < 60) (hk : VKey X.K H (.ref p) k) (hd : k.depth ≤ 8)
    (q : ∀ s' L', (k ∈ L.map Prod.snd → L' = L) → (k ∉ L.map Prod.snd → L'.Perm ((p, k) :: L)) → Inv X pins σ (upd H D (setO X.w D L')) s' → Q .none s') : wpAny (model X.prog X.w) X.A (call (.builtin "set.add") [.ref D, .ref p]) Q E s := by
  have S0 : SObj X.w s.heap D L := (I.hok D _ hD).1
  obtain ⟨es, ep, t, R⟩ := S0.tab (hL.kats (K := X.K) I)
  have hb := R.bound ⟨hC, fun r hr => (hL r hr).2.2⟩
  refine call_add R (hk.at_ I hd) hu (by omega) fun h' tk L' es' ep' t' sb R' c1 c2 => ?_
  have there : ∃ u, h'.get? D = some u := let ⟨o, ho, _⟩ := R'.obj; ⟨o, ho⟩
  exact q _ L' c1 c2 (I.write (x := D) (e := D) (t' := s.toks + tk) (by rw [hD]; trivial) (.inl rfl) (fun b u hb hu => (sb.2 b hb).trans hu) there (setO_ok R'.sobj))
/-! ### {e for x in xs if ..} -/
def tScN (w : World) (K : PySem.W.Frag) (wi : TI) (g : TG) (tt : TT) (te : TE) (vs : List Nat) : TE := fun σ H Q => wi σ H fun J H1 => ∀ D, H1 D = none → ∃ T : Nat → Nat → Hp → Prop, (∃ m, T 0 m (upd H1 D (setO w D []))) ∧ ∀ i m H, T i m H →
  (J.stop i H ∧ Q (.ref D) H) ∨ (J.go i H ∧ ∃ Nx : Hp → Prop, (∀ H', Nx H' → ∃ m', m' < m ∧ T (i + 1) m' H') ∧ ∀ x H', J.yld i H x H' → g x (wipe σ vs) H' fun σ2 H2 => wipe σ2 vs = wipe σ vs ∧ tt σ2 H2 fun b H3 =>
    if b = true then te σ2 H3 fun y H4 => ∃ (p : Addr) (k : NestedKey) (L : List Row) (C : List NestedKey), y = .ref p ∧ H4 D = some (setO w D L) ∧ RowsOk K H4 C L ∧ C.length < 60 ∧ VKey K H4 (.ref p) k ∧ k.depth ≤ 8 ∧
      ∀ L', (k ∈ L.map Prod.snd → L' = L) → (k ∉ L.map Prod.snd → L'.Perm ((p, k) :: L)) → Nx (upd H4 D (setO w D L')) else Nx H3)
theorem scn_core {Q : VK} {elt tg iter : Expr} {ifs : List Expr} {scope : Scope} {own : List (PySem.Str × Nat)} {pos pos' : Pos} {wi : TI} {g : TG} {tt : TT} {te : TE} {use : Option (Value → Sem Unit)} {Qf : Value → Shared → Prop}
    (calm : X.calm = true) (room : X.A.units + 12 < cLine) (nod : X.N.Nodup) (I : Inv X pins σ H s) (pi : PI X tg iter wi) (blk : BlkOk X.N X.env.scope scope own)
    (pgs : ∀ (s : Shared) (H : Hp) (C : Addr) (cl : List (PySem.Str × Addr)) (fp : List Addr), PG (X.blk s H scope (compEnvC scope cl C X.env) fp) tg g)
    (pts : ∀ (s : Shared) (H : Hp) (C : Addr) (cl : List (PySem.Str × Addr)) (fp : List Addr), PTs (X.blk s H scope (compEnvC scope cl C X.env) fp) ifs tt)
    (pes : ∀ (s : Shared) (H : Hp) (C : Addr) (cl : List (PySem.Str × Addr)) (fp : List Addr), PE (X.blk s H scope (compEnvC scope cl C X.env) fp) elt te) (fold : ∀ x, foldedSetIterable iter X.env x = pure x)
    (h : tScN X.w X.K wi g tt te (own.map (·.2)) σ H Q)
    (post : ∀ D C s' m H', Inv X pins σ H' s' → Q (.ref D) H' → s'.heap.Ns C m → FpOk X pins H' C → compPost (model X.prog X.w) X.A X.xe use Qf (.ref D) C (.ok .next) s') :
    wpAny (model X.prog X.w) X.A (comprehension (.SetComp elt [⟨tg, iter, ifs, 0⟩] scope pos) scope X.env pos' (newSet (.type "set")) false (eval iter X.env) use) Qf X.xe s := by
  have cells : ∀ y ∈ scope.names, y.2 = .free → ∃ c, X.env.cells.lookup y.1 = some c := fun y hy e => (blk.free y hy e).elim (fun k => I.ok.has _ (.inl k)) fun k => I.ok.has _ (.inr k)
  refine wpAny_comprehension_free (use := use) rfl fold (closure_ok cells) blk.kind (fun y hy e => by rw [blk.uniq y hy, e]) (thn (pi.run pins s σ H _ I h) fun xv s1 hx => thn hx fun itv s2 h2 => ?_)
  obtain ⟨it, fp, tn, J, H2, e, I2, T, st2, f2, q⟩ := h2
  subst e
  refine PpSet.newSet_ok (newEnv_comp ?_)
  generalize hD : s2.heap.objs.size = D
  have freeD : H2 D = none := I2.hok.fresh (Nat.le_of_eq hD)
  obtain ⟨Z, ⟨m0, z0⟩, turn⟩ := q D freeD
  generalize hs3 : ({ s2 with heap := s2.heap.push (freshSet X.w) } : Shared) = s3
  have h3 : s3.heap = s2.heap.push (freshSet X.w) := by rw [← hs3]
  have I3 : Inv X pins σ (upd H2 D (setO X.w D [])) s3 := by
    rw [← hs3]
    refine I2.laid (t' := s2.toks) (fun b o e => Heap.get?_push_of_some _ e) (Nat.le_of_eq hD) (setO_ok (STab.sobj (stab_new ?_)))
    rw [← hD]
    exact Heap.get?_push_size _ rfl
  generalize hH3 : upd H2 D (setO X.w D []) = H3 at I3 z0
  have below : ∀ b ∈ fp, b < s2.heap.objs.size := fun b hb => let ⟨o, e, _⟩ := T.obj _ _ st2 b hb; Heap.lt_size e
  have f3 : ∀ b ∈ fp, FpOk X pins H3 b ∧ b < s3.heap.objs.size := fun b hb => by
    have lt := below b hb
    refine ⟨⟨?_, (f2 b hb).2⟩, by rw [h3, Heap.size_push]; exact Nat.lt_succ_of_lt lt⟩
    rw [← hH3, upd_ne (by rw [← hD]; exact Nat.ne_of_lt lt)]
    exact (f2 b hb).1
  have st3 : tn 0 s3.heap := T.keep _ _ _ st2 fun b _ o e => by rw [h3]; exact Heap.get?_push_of_some _ e
  have I4 := block_start I3 blk nod f3
  have pg := pgs s3 H3 s3.heap.objs.size (cellsFrom (s3.heap.objs.size + 1) scope.names (cloFrom X.env.cells scope.names [])) fp
  have pt := pts s3 H3 s3.heap.objs.size (cellsFrom (s3.heap.objs.size + 1) scope.names (cloFrom X.env.cells scope.names [])) fp
  have pe := pes s3 H3 s3.heap.objs.size (cellsFrom (s3.heap.objs.size + 1) scope.names (cloFrom X.env.cells scope.names [])) fp
  show codeAny _ _ (.compStart (.SetComp elt [⟨tg, iter, ifs, 0⟩] scope pos) 0 (.ref it) (.ref D) (compEnvC scope (cellsFrom (s3.heap.objs.size + 1) scope.names (cloFrom X.env.cells scope.names [])) s3.heap.objs.size X.env))
    (compPost (model X.prog X.w) X.A X.xe use Qf (.ref D) s3.heap.objs.size) { s3 with heap := pushCells (s3.heap.push { cls := .type "dict", data := .dict #[] }) scope.names }
  have off : ∀ b ∈ fp, H3 b = none := fun b hb => (f3 b hb).1.1
  generalize hce : compEnvC scope (cellsFrom (s3.heap.objs.size + 1) scope.names (cloFrom X.env.cells scope.names [])) s3.heap.objs.size X.env = ce at I4 pg pt pe ⊢
  have place : ce.locals = s3.heap.objs.size := by subst hce; rfl
  generalize hs4 : ({ s3 with heap := pushCells (s3.heap.push { cls := .type "dict", data := .dict #[] }) scope.names } : Shared) = s4 at I4 ⊢
  have st4 : tn 0 s4.heap := T.keep _ _ _ st3 fun b _ o e => by rw [← hs4]; exact pushCells_keeps _ _ _ _ (Heap.get?_push_of_some _ e)
  have fps : ∀ {τ : L2.St} {G : Hp} {u : Shared}, Inv (X.blk s3 H3 scope ce fp) [] τ G u → (∀ b ∈ fp, G b = none) → ∀ b ∈ fp, FpOk (X.blk s3 H3 scope ce fp) [] G b := fun {τ G u} K hn b hb =>
    ⟨hn b hb, (K.ok.exf b hb).1, K.ok.exfs b hb, .inl hb, fun x c e => (K.ok.exf b hb).2 x c e, fun p hp => absurd (show p ∈ ([] : List (Addr × Obj)) ++ [] from hp) (by simp)⟩
  have loop : codeAny (model X.prog X.w) X.A (.compLoop (.SetComp elt [⟨tg, iter, ifs, 0⟩] scope pos) 0 (.ref it) (.ref D) ce) (compPost (model X.prog X.w) X.A X.xe use Qf (.ref D) s3.heap.objs.size) s4 := by
    refine PpSet.compLoopS_any (fun n u => ∃ i G, Inv (X.blk s3 H3 scope ce fp) [] (wipe σ (own.map (·.2))) G u ∧ tn i u.heap ∧ (∀ b ∈ fp, G b = none) ∧ Z i n G) ?_ m0 ⟨0, H3, I4, st4, off, z0⟩
    rintro n s5 ⟨i, H5, I5, st5, n5, z5⟩
    rcases turn i n H5 z5 with ⟨stop, fin⟩ | ⟨go, Nx, hNx, step⟩
    · refine thnF (T.done (X.blk s3 H3 scope ce fp) rfl rfl rfl calm i [] s5 _ H5 (fun _ _ => False) I5 (fps I5 n5) st5 stop) fun r s6 ⟨hr, I6⟩ => ?_
      subst hr
      have I7 : Inv X pins σ H5 s6 := I3.call' (ch := fp) I6.os I6.base I6.hok I6.bare fun b hb => ⟨(f3 b hb).1.2.2.2.1, (f3 b hb).1.2.1, (f3 b hb).1.2.2.2.2.1, (f3 b hb).1.2.2.2.2.2⟩
      have fr : H5 ce.locals = none := I6.free
      obtain ⟨m, hm, _⟩ := I6.loc
      have hm : s6.heap.Ns ce.locals m := hm
      rw [place] at fr hm
      exact post D s3.heap.objs.size s6 m H5 I7 fin hm (I3.fpOk (Nat.le_refl _) fr)
    · refine thnF (T.item (X.blk s3 H3 scope ce fp) rfl rfl rfl calm i [] s5 _ H5 (fun _ _ => False) I5 (fps I5 n5) st5 go) fun r s6 ⟨u, hr, h6⟩ => ?_
      subst hr
      refine thnF h6 fun _ s7 ⟨x, H7, I7, r7, y7, st7, n7⟩ => ?_
      have P7 := I7.pinned (fps I7 n7) (T.obj _ _ st7)
      refine thnF (pg.run _ s7 _ H7 x u _ P7 r7 (step x H7 y7)) fun _ s8 ⟨σ8, H8, I8, w8, q8⟩ => ?_
      refine thnF (pt.run _ s8 σ8 H8 _ I8 q8) fun b s9 ⟨H9, I9, q9⟩ => ?_
      have again' : ∀ {u : Shared} {G : Hp}, Inv (X.blk s3 H3 scope ce fp) ([] ++ pinsAt fp s7.heap) σ8 G u → Nx G → ∃ m, m < n ∧ ∃ i G, Inv (X.blk s3 H3 scope ce fp) [] (wipe σ (own.map (·.2))) G u ∧ tn i u.heap ∧ (∀ b ∈ fp, G b = none) ∧ Z i m G := fun {u G} K nx => by
        obtain ⟨m', hm, z'⟩ := hNx G nx
        have pinned' : ∀ b ∈ fp, ∀ o, s7.heap.get? b = some o → u.heap.get? b = some o ∧ G b = none := fun b hb o e =>
          let z := K.pin (b, o) (List.mem_append_right _ (List.mem_append_right _ (mem_pinsAt hb e)))
          ⟨z.1, z.2.1⟩
        refine ⟨m', hm, i + 1, G, (K.unpinned (pins := [])).weak (by rw [← w8, wipe_length]) (fun j v e => ?_), T.keep _ _ _ st7 fun b hb o e => (pinned' b hb o e).1, fun b hb => ?_, z'⟩
        · rw [← w8] at e
          exact (wipe_some e).1
        · obtain ⟨o, e, _⟩ := T.obj _ _ st7 b hb
          exact (pinned' b hb o e).2
      cases b with
      | false =>
        simp only [Bool.false_eq_true, if_false] at q9 ⊢
        exact again' I9 q9
      | true =>
        simp only [if_true] at q9 ⊢
        refine thnF (pe.run _ s9 σ8 H9 _ I9 q9) fun z s10 ⟨y, H10, I10, r10, p, k, L, C, ey, hD10, hL10, hC10, hk10, hd10, nx⟩ => ?_
        subst ey
        cases r10
        exact add_row (X := X.blk s3 H3 scope ce fp) (C := C) I10 room hD10 hL10 hC10 hk10 hd10 fun s11 L' c1 c2 I11 => again' I11 (nx L' c1 c2)
  exact PpSet.codeAny_compStart_set loop (T.self X.A 0 _ _ _ st4 loop)
theorem pe_scn {elt tg iter : Expr} {ifs : List Expr} {scope : Scope} {own : List (PySem.Str × Nat)} {pos : Pos} {wi : TI} {g : TG} {tt : TT} {te : TE} (calm : X.calm = true) (room : X.A.units + 12 < cLine) (nod : X.N.Nodup) (pi : PI X tg iter wi) (blk : BlkOk X.N X.env.scope scope own)
    (pgs : ∀ (s : Shared) (H : Hp) (C : Addr) (cl : List (PySem.Str × Addr)) (fp : List Addr), PG (X.blk s H scope (compEnvC scope cl C X.env) fp) tg g)
    (pts : ∀ (s : Shared) (H : Hp) (C : Addr) (cl : List (PySem.Str × Addr)) (fp : List Addr), PTs (X.blk s H scope (compEnvC scope cl C X.env) fp) ifs tt)
    (pes : ∀ (s : Shared) (H : Hp) (C : Addr) (cl : List (PySem.Str × Addr)) (fp : List Addr), PE (X.blk s H scope (compEnvC scope cl C X.env) fp) elt te) (fold : ∀ x, foldedSetIterable iter X.env x = pure x := by intro _; rfl) :
    PE X (.SetComp elt [⟨tg, iter, ifs, 0⟩] scope pos) (tScN X.w X.K wi g tt te (own.map (·.2))) := by
  refine ⟨fun pins s σ H Q I h => ?_⟩
  rw [PpSet.eval_SetComp]
  refine scn_core calm room nod I pi blk pgs pts pes fold h fun D C s' m H' I' q hm f => ⟨m, hm, fun h'' sb => ?_⟩
  obtain ⟨f0, f1, f2, f3, f4, f5⟩ := f
  exact ⟨.ref D, H', I'.turned (t' := s'.toks) (fun b o hb e => (sb.2 b hb).trans e) f0 f1 f3 f4 f5, rfl, q⟩
/-! ### set(xs), sorted(set) -/
theorem refs_rows : ∀ {ks : List Row} {us : List Value}, Vals (ks.map fun r => V.ref r.1) us → us = ks.map fun r => Value.ref r.1
  | [], _, .nil => rfl
  | _ :: _, _, .cons r t => by cases r; rw [refs_rows t]; rfl
theorem rows_refs : ∀ (ks : List Row), Vals (ks.map fun r => V.ref r.1) (ks.map fun r => Value.ref r.1)
  | [] => .nil
  | _ :: ks => .cons rfl (rows_refs ks)
def rSetN (K : PySem.W.Frag) (w : World) : List V → Hp → VK → Prop := fun xs H Q => ∃ (l : Addr) (ks : List Row) (C : List NestedKey), xs = [V.ref l] ∧ SqL K H l (ks.map fun r => V.ref r.1) ∧ RowsOk K H C ks ∧ C.length < 60 ∧
  ∀ a L, H a = none → Has ks ks.length L → Q (.ref a) (upd H a (setO w a L))
theorem cr_setN (calm : X.calm = true) (room : X.A.units + 20 < cLine) : CallR X (.type "set") (rSetN X.K X.w) := by
  intro pins s σ H xs us Q I r h
  obtain ⟨l, ks, C, e, hl, hk, hC, q⟩ := h
  subst e
  rw [Vals.ref1 r]
  obtain ⟨its, rv, pl, hz⟩ := I.list hl
  have hn : H s.heap.objs.size = none := I.hok.fresh (Nat.le_refl _)
  refine call_set_of (P := X.prog) (w := X.w) (C := C) ks (I.ok.hd calm) pl.isList (by simpa using refs_rows rv) (hk.kats (K := X.K) I) ⟨hC, fun r hr => (hk r hr).2.2⟩ room fun h' tk L es ep t R g kp => ?_
  exact ⟨.ref s.heap.objs.size, upd H s.heap.objs.size (setO X.w s.heap.objs.size L), I.laid (t' := tk) kp (Nat.le_refl _) (setO_ok R.sobj), rfl, q _ L hn g⟩
def rSortedN (K : PySem.W.Frag) (w : World) : List V → Hp → VK → Prop := fun xs H Q => ∃ (a : Addr) (L : List Row) (C : List NestedKey) (rk : NestedKey → Nat), xs = [V.ref a] ∧ H a = some (setO w a L) ∧ RowsOk K H C L ∧
  (∀ k ∈ C, (∃ ks, k = .tup ks) ∧ k.data.depth ≤ 10) ∧ (∀ k ∈ C, ∀ k' ∈ C, PySem.W.alike k.data k'.data = true ∧ PySem.W.dataLt k.data k'.data = decide (rk k < rk k')) ∧
  ∀ (L' : List Row) (p : Addr), L'.Perm L → (L'.map Prod.snd).Nodup → L'.Pairwise (fun x y => ¬ rk y.2 < rk x.2) → H p = none → Q (.ref p) (upd H p (.lst (L'.map fun r => V.ref r.1)))
theorem cr_sortedN (calm : X.calm = true) (room : X.A.units + 20 < cLine) : CallR X (.builtin "sorted") (rSortedN X.K X.w) := by
  intro pins s σ H xs us Q I r h
  obtain ⟨a, L, C, rk, e, ha, hL, hC, hrk, q⟩ := h
  subst e
  have S0 : SObj X.w s.heap a L := (I.hok a _ ha).1
  obtain ⟨es, ep, t, R⟩ := S0.tab (hL.kats (K := X.K) I)
  rw [Vals.ref1 r]
  refine call_sorted_of R (I.ok.hd calm) rk (fun r hr => ?_) (fun r hr => ?_) (fun r hr r' hr' => hrk _ (hL r hr).2.2 _ (hL r' hr').2.2) fun s' p out c L' kp g o hp hg hout pm pw => ?_
  · obtain ⟨ks, e⟩ := (hC _ (hL r hr).2.2).1
    refine ⟨ks, e, ?_⟩
    have z := (hL r hr).1.pure I (u := .ref r.1) rfl
    rw [e] at z
    exact z
  · have z := (hC _ (hL r hr).2.2).2
    omega
  · have hn : H p = none := I.hok.fresh hp
    have hv : Vals (L'.map fun r => V.ref r.1) out.toList := by rw [hout]; exact rows_refs L'
    have hlen : (L'.map fun r => V.ref r.1).length ≤ sizeLine := by
      have z := R.small
      rw [List.length_map, pm.length_eq, sizeLine_eq]
      omega
    have J : Inv X pins σ (upd H p (.lst (L'.map fun r => V.ref r.1))) { s with heap := s'.heap, gens := s'.gens, drawn := s'.drawn, toks := s'.toks } :=
      I.call (ch := []) (Un.laid kp hp hn) (I.hok.laid kp hp ⟨hlen, out.toList, c, hv, hg⟩) (by rw [g]; exact I.bare) (fun _ z => nomatch z)
    have e : s' = { s with heap := s'.heap, gens := s'.gens, drawn := s'.drawn, toks := s'.toks } := by
      cases s'
      cases s
      cases o
      rfl
    rw [e]
    exact ⟨.ref p, _, J, rfl, q L' p pm ((pm.map Prod.snd).nodup_iff.mpr R.nodup) pw hn⟩
end
end NSet
set_option maxRecDepth 100000
/-! sets of ints: set(list), {a, b} -/
namespace NSet
open PySem PySem.Spec PyProof.Rows L2
theorem ints_at {us : List Value} {ns : List Int} (h : IntsAre us ns) : ∀ {i : Nat} {v : Value}, us[i]? = some v → ∃ k t, ns[i]? = some k ∧ v = .int k t := by
  induction h with
  | nil => intro i v h; simp at h
  | cons n t r ih =>
    intro i v h
    cases i with
    | zero => cases h; exact ⟨n, t, rfl, rfl⟩
    | succ i => exact ih (by simpa using h)
section
variable {P : Program} {w : World} {A : Around} {E : Value → Shared → Prop} {s : Shared}
set_option maxHeartbeats 3200000 in
/-- set(xs), xs a list of ints -/
theorem call_set_ints {l : Addr} {items : Array Value} (ns : List Int) {Q : Value → Shared → Prop} (hh : A.handled = none) (hl : s.heap.IsList l items) (hit : IntsAre items.toList ns)
    (hb : ns.length + 1 < scanBound)
    (q : ∀ (h' : Heap) (tk : Nat) c, SetR w h' s.heap.objs.size (fun j => decide (j ∈ ns)) c → c ≤ ns.length → (∀ b o, s.heap.get? b = some o → h'.get? b = some o) → Q (.ref s.heap.objs.size) { s with heap := h', toks := tk }) :
    wpAny (model P w) A (call (.type "set") [.ref l]) Q E s := by
  have hisz : items.size = ns.length := by
    have z := hit.length
    rwa [Array.length_toList] at z
  have hz0 : ∀ b, s.heap.objs.size ≤ b → s.heap.get? b = none := fun b hb => by
    cases z : s.heap.get? b with
    | none => rfl
    | some o => exact absurd (Nat.lt_of_lt_of_le (Heap.lt_size z) hb) (Nat.lt_irrefl _)
  obtain ⟨c, tl, hmro⟩ := F.called_set.mro
  have hmade := F.called_set.made
  have hsub := F.called_set.sub
  refine wpAny_call (codeAny_of_tree ?_)
  show wpAny _ _ (callAny (.type "set") _) _ _ _
  refine wpAny_pure ⟨Code.quiet_builtin _ (by decide +kernel), codeAny_builtin F.entry_type_call ?_⟩
  rw [Around.under_plain (weight_type_call_type "set" [.ref l] []) rfl]
  have p1 := F.called_set.notType
  have p2 := F.called_set.canCreate
  have p3 := F.typeCall_set_1 (.ref l)
  repeat (any_goals (first | assumption | wp_step))
  refine codeAny_mono (code_set_led1 (.ref l) (E := E) (Q₁ := fun v s1 => v = .ref s.heap.objs.size ∧ s1 = { s with heap := s.heap.push (freshSet w) }) ⟨rfl, rfl⟩) fun r s1 hr => ?_
  cases r with
  | error e => exact hr
  | ok fl =>
    cases fl with
    | ret obj =>
      obtain ⟨e1, e2⟩ := hr
      subst e1
      subst e2
      have hSn : (s.heap.push (freshSet w)).get? s.heap.objs.size = some (freshSet w) := Heap.get?_push_size _ rfl
      have hT : Shared.TypeIs { s with heap := s.heap.push (freshSet w) } (.ref s.heap.objs.size) "set" := ⟨_, hSn, rfl⟩
      have p4 := F.called_set.init.lookup
      have p5 := F.called_set.init.bind (.ref s.heap.objs.size)
      repeat (any_goals (first | assumption | wp_step))
      refine codeAny_mono (codeAny_call_builtin (R := wants (fun r s2 => r = .none ∧ ∃ h' tk c, s2 = { s with heap := h', toks := tk } ∧ SetR w h' s.heap.objs.size (fun j => decide (j ∈ ns)) c ∧ c ≤ ns.length ∧
          (∀ b o, s.heap.get? b = some o → h'.get? b = some o)) E) F.called_set.init.plain F.entry_set_init (check_set_init_1 hT ?_)) fun r2 s2 hr2 => ?_
      · obtain ⟨ol, hol, hcl, nl, hdl⟩ := hl
        obtain ⟨ocls, odict, odata, oslots⟩ := ol
        simp only at hcl hdl
        subst hcl
        subst hdl
        have hol1 : (s.heap.push (freshSet w)).get? l = some { cls := .type "list", dict := odict, data := .seq items nl, slots := oslots } := Heap.get?_push_of_some _ hol
        have p6 := F.sub_list_set
        have p7 := F.sub_list_frozenset
        have p8 : (Value.type "list" == Value.type "dict") = false := by decide
        have hl1 : (s.heap.push (freshSet w)).IsList l items := ⟨_, hol1, rfl, nl, rfl⟩
        unfold Builtin.«set.__init__» noKeywords Builtin.Frozenset.updateFrom
        generalize hPI : pyIter = PI
        wp_walk
        subst hPI
        refine wpAny_pyIter_list hl1 (wpAny_bind (wpAny_runValue ?_))
        have hlS : l < s.heap.objs.size := Heap.lt_size hol
        have hh3 : A.in1.in1.in1.handled = none := by simp [hh]
        have hz1 : (s.heap.push (freshSet w)).objs.size = s.heap.objs.size + 1 := Heap.size_push ..
        have hI : l ≠ (s.heap.push (freshSet w)).objs.size := by rw [hz1]; exact Nat.ne_of_lt (Nat.lt_succ_of_lt hlS)
        have hSf : s.heap.objs.size ∉ [(s.heap.push (freshSet w)).objs.size, l] := by
          rw [hz1]
          simp only [List.mem_cons, List.not_mem_nil, or_false, not_or]
          exact ⟨Nat.ne_of_lt (Nat.lt_succ_self _), Nat.ne_of_gt hlS⟩
        refine set_update_ints ((Walks.list hh3 _ l hI items).toS) s.heap.objs.size hSf ns hisz hb (fun i v hv => ?_) (items.size - 0) 0 _ (by omega) (Nat.zero_le _)
          ⟨⟨_, Heap.get?_push_size _ rfl, rfl, rfl⟩, (hl1.push _)⟩ ?start ?end_
        · have z : items.toList[i]? = some v := by rw [Array.getElem?_toList]; exact hv
          exact ints_at hit z
        case start => exact ⟨0, Nat.le_refl _, setR_new_at (Heap.get?_push_of_some _ hSn)⟩
        case end_ =>
          intro s' c hm hc T
          obtain ⟨h', g2, d', tk', os'⟩ := s'
          have eg : g2 = s.gens := hm.gens
          have ed : d' = s.drawn := hm.drawn
          have eo : os' = s.os := hm.os
          subst eg
          subst ed
          subst eo
          show wpAny _ _ _ _ _ _
          refine wpAny_pure ?_
          show wpAny _ _ (ret Value.none) _ _ _
          refine wpAny_pure ⟨rfl, h', tk', c, rfl, T, by rw [← hisz]; exact hc, fun b o e => hm.heap b o (fun hb => ?_) (Heap.get?_push_of_some _ (Heap.get?_push_of_some _ e))⟩
          have hlt := Heap.lt_size e
          rcases List.mem_cons.mp hb with z | z
          · rw [z] at hlt; exact Nat.lt_irrefl _ hlt
          · rw [List.mem_singleton.mp z, hz1] at hlt; exact absurd (Nat.lt_of_lt_of_le hlt (Nat.le_succ _)) (Nat.lt_irrefl _)
      · cases r2 with
        | error e => exact hr2
        | ok fl2 =>
          cases fl2 with
          | ret r =>
            obtain ⟨e1, h', tk, c, e2, T, hc, kp⟩ := hr2
            subst e1
            subst e2
            repeat (any_goals (first | assumption | wp_step))
            exact q _ _ _ T hc kp
          | _ => exact hr2.elim
    | _ => exact hr.elim
end
section
variable {X : Cx}
def rSetI (K : PySem.W.Frag) (w : World) : List V → Hp → VK → Prop := fun xs H Q => ∃ (l : Addr) (ns : List Int), xs = [V.ref l] ∧ SqL K H l (ns.map V.int) ∧ ns.length < 64 ∧
  ∀ a n, H a = none → n ≤ ns.length → Q (.ref a) (upd H a (L2.SetO w a (fun j => decide (j ∈ ns)) n))
theorem cr_setI (calm : X.calm = true) : CallR X (.type "set") (rSetI X.K X.w) := by
  intro pins s σ H xs us Q I r h
  obtain ⟨l, ns, e, hl, hz, q⟩ := h
  subst e
  rw [Vals.ref1 r]
  obtain ⟨its, rv, pl, _⟩ := I.list hl
  have hn : H s.heap.objs.size = none := I.hok.fresh (Nat.le_refl _)
  refine call_set_ints (P := X.prog) (w := X.w) ns (I.ok.hd calm) pl.isList (by simpa using rv.ints) (by unfold scanBound; omega) fun h' tk c R hc kp => ?_
  exact ⟨.ref s.heap.objs.size, upd H s.heap.objs.size (L2.SetO X.w s.heap.objs.size _ c), I.laid (t' := tk) kp (Nat.le_refl _) (setO_new R), rfl, q _ c hn hc⟩
/-- {a, b}, ints -/
def tSet2X (X : Cx) (ta tb : TE) : TE := fun σ H Q => ∀ D, H D = none → ta σ (upd H D (L2.SetO X.w D (fun _ => false) 0)) fun x H1 => tb σ H1 fun y H2 => ∃ i j : Int, x = .int i ∧ y = .int j ∧ H2 D = some (L2.SetO X.w D (fun _ => false) 0) ∧
  ∀ (S : Int → Bool) (n : Nat), (∀ k, S k = decide (k ∈ [i, j])) → n ≤ 2 → Q (.ref D) (upd H2 D (L2.SetO X.w D S n))
/-- a display whose items are put in one by one -/
theorem shown {A : Around} {E : Value → Shared → Prop} {s : Shared} {P : Program} {w : World} {rd : DisplayRoad} {m : Bool} {el : List (Bool × Sem Value)} {js : List (Sem Value)} {Q : Value → Shared → Prop} (r1 : (rd == .constants) = false) (r2 : (rd == .unsure) = false)
    (none' : el.findIdx? (·.1) = none) (few : el.length ≤ 30) (same : el.map (·.2) = js)
    (h : wpAny (model P w) A (evalAll js) (fun vs s' => PySem.W.KdsFill (model P w) A E false s.heap.objs.size Q vs s') E { s with heap := s.heap.push (freshSet w) }) : wpAny (model P w) A (setDisplay rd m el) Q E s := by
  have first : (if el.length > 30 then 0 else (el.findIdx? (·.1)).getD el.length) = el.length := by
    rw [if_neg (by omega), none']
    rfl
  unfold setDisplay
  try dsimp only
  rw [if_neg (by rw [r1]; exact Bool.false_ne_true)]
  refine wpAny_bind (PpSet.newSet_ok ?_)
  dsimp only
  rw [first, List.take_length, List.drop_length, same]
  refine wpAny_bind (wpAny_holding (wpAny_bind (wpAny_mono h (fun vs s1 h1 => ?_) fun _ _ z => z)))
  refine wpAny_bind (wpAny_holding (wpAny_bind (wpAny_mono (PySem.W.kds_for (fun x R s2 hx => ?_) vs s1 h1) (fun _ s2 h2 => ?_) fun _ _ z => z)))
  · refine wpAny_bind (wpAny_mono hx (fun _ s3 h3 => ?_) fun _ _ z => z)
    first | exact wpAny_pure ⟨rfl, h3⟩ | exact wpAny_bind (wpAny_pure (wpAny_pure ⟨rfl, h3⟩))
  · have h3 : Q (.ref s.heap.objs.size) s2 := by simpa [PySem.W.KdsFill] using h2
    rw [r2, if_neg Bool.false_ne_true]
    refine wpAny_pure ?_
    rw [List.forIn_nil]
    exact wpAny_pure (wpAny_pure h3)
theorem pe_set2 {a b : Expr} {ta tb : TE} {pos : Pos} (code : PySem.W.kdsCode X.K X.env.code = true) (ha : PE X a ta) (hb : PE X b tb) (h1 : PySem.W.kdsPlain a = true := by rfl) (h2 : PySem.W.kdsPlain b = true := by rfl) :
    PE X (.Set [a, b] 0 pos) (tSet2X X ta tb) := by
  refine ⟨fun pins s σ H Q I h => ?_⟩
  rw [arm_eval_Set]
  refine wpAny_bind (wpAny_standAt (wpAny_bind (PySem.W.kds_main I.kIn code fun bm => ?_)))
  rw [PySem.W.kds_star [a, b] (by rw [List.all_cons, h1, List.all_cons, h2]; rfl), List.map_map]
  have hn : H s.heap.objs.size = none := I.hok.fresh (Nat.le_refl _)
  have I1 : Inv X pins σ (upd H s.heap.objs.size (L2.SetO X.w s.heap.objs.size (fun _ => false) 0)) { s with heap := s.heap.push (freshSet X.w) } :=
    I.laid (t' := s.toks) (fun b u e => Heap.get?_push_of_some _ e) (Nat.le_refl _) (setO_new (setR_fresh X.w))
  have q1 := h s.heap.objs.size hn
  generalize hp : s.heap.objs.size = D at hn I1 q1 ⊢
  refine shown (js := (evalEach [a, b] X.env).map fun t => do let v ← t; standAt pos; pure v) (by rfl) (by rfl) ?_ (by rw [List.length_map, PySem.W.kds_len]; exact (by decide : (2 : Nat) ≤ 30)) (by rw [List.map_map]; rfl) ?_
  · refine List.findIdx?_eq_none_iff.mpr fun x hx => ?_
    obtain ⟨t, _, e⟩ := List.mem_map.mp hx
    rw [← e]
    rfl
  · rw [hp]
    refine PySem.W.kds_all pos [a, b] _ _ ?_
    refine thn (ha.run pins _ σ _ _ I1 q1) fun v s1 ⟨x, H1, I2, r2, q2⟩ => ?_
    refine thn (hb.run pins _ σ _ _ I2 q2) fun u s2 ⟨y, H2, I3, r3, i, j, ex, ey, hD, q3⟩ => ?_
    subst ex
    subst ey
    obtain ⟨t1, e1⟩ := r2
    obtain ⟨t2, e2⟩ := r3
    subst e1
    subst e2
    have put : ∀ (s3 : Shared) (G : Hp) (S : Int → Bool) (n : Nat) (k : Int) (t : Tok) (Z : Shared → Prop), Inv X pins σ G s3 → G D = some (L2.SetO X.w D S n) → n + 1 < scanBound →
        (∀ s4, Inv X pins σ (upd G D (L2.SetO X.w D (fun z => S z || decide (z = k)) (if S k = true then n else n + 1))) s4 → Z s4) → wpAny (model X.prog X.w) X.A (setAdd D (.int k t)) (fun _ s' => Z s') X.xe s3 := by
      intro s3 G S n k t Z I4 hG hb' hz
      unfold setAdd
      refine wpAny_holding (wpAny_bind ((intKind X.prog X.w).pyHash (k := k) (intKind_is _ _ _ _) ?_))
      have R3 := setO_get I4 hG
      have R4 : SetR X.w ({ s3 with toks := s3.toks + 1 } : Shared).heap D S n := R3
      refine setR_add_hashed (s := { s3 with toks := s3.toks + 1 }) R4 hb' fun h' sb R' => hz _ ?_
      have there : ∃ u, h'.get? D = some u := let ⟨o, _, _, _, ho, _⟩ := R'; ⟨o, ho⟩
      exact I4.write (x := D) (e := D) (t' := s3.toks + 1) (by rw [hG]; trivial) (.inl rfl) (fun b u hb hu => (sb.2 b hb).trans hu) there (setO_new R')
    refine PySem.W.kds_fill_cons (put _ _ _ _ _ _ _ I3 hD (by decide) fun s3 I4 => ?_)
    refine PySem.W.kds_fill_cons (put _ _ _ _ _ _ _ I4 upd_same (by simp; decide) fun s4 I5 => ?_)
    rw [upd_upd] at I5
    exact PySem.W.kds_fill_nil rfl ⟨.ref D, _, I5, rfl, q3 _ _ (fun z => by simp) (by simp only [Bool.false_eq_true, if_false, Bool.false_or]; split <;> omega)⟩
end
end NSet
set_option maxRecDepth 100000
set_option maxHeartbeats 4000000
/-! MirSet: sets (of outcomes, of ints) that are made to be sorted. -/
namespace MR
open PySem L2 PyProof.Rows NSet
mutual
def kOf : IV → Option NestedKey
  | .int i => some (.num i)
  | .str s => some (.text s)
  | .tup xs => (kOfs xs).map .tup
  | _ => none
def kOfs : List IV → Option (List NestedKey)
  | [] => some []
  | d :: ds => match kOf d, kOfs ds with
    | some k, some ks => some (k :: ks)
    | _, _ => none
end
mutual
theorem kOf_inj : ∀ (d e : IV) (k : NestedKey), kOf d = some k → kOf e = some k → d = e
  | .int i, e, k, h1, h2 => by
    simp only [kOf, Option.some.injEq] at h1
    subst h1
    cases e <;> simp [kOf] at h2
    rw [h2]
  | .str i, e, k, h1, h2 => by
    simp only [kOf, Option.some.injEq] at h1
    subst h1
    cases e <;> simp [kOf] at h2
    rw [h2]
  | .tup xs, e, k, h1, h2 => by
    simp only [kOf, Option.map_eq_some_iff] at h1
    obtain ⟨ks, h1, z⟩ := h1
    subst z
    cases e <;> simp [kOf] at h2
    rename_i ys
    rw [kOfs_inj xs ys ks h1 h2]
  | .non, e, k, h1, h2 => by simp [kOf] at h1
  | .bl b, e, k, h1, h2 => by simp [kOf] at h1
  | .ty b, e, k, h1, h2 => by simp [kOf] at h1
  | .cl b, e, k, h1, h2 => by simp [kOf] at h1
  | .lst b, e, k, h1, h2 => by simp [kOf] at h1
  | .scr b, e, k, h1, h2 => by simp [kOf] at h1
  | .dic b, e, k, h1, h2 => by simp [kOf] at h1
  | .ins b c, e, k, h1, h2 => by simp [kOf] at h1
  | .drw a b c d, e, k, h1, h2 => by simp [kOf] at h1
  | .prs a, e, k, h1, h2 => by simp [kOf] at h1
theorem kOfs_inj : ∀ (xs ys : List IV) (ks : List NestedKey), kOfs xs = some ks → kOfs ys = some ks → xs = ys
  | [], ys, ks, h1, h2 => by
    simp only [kOfs, Option.some.injEq] at h1
    subst h1
    cases ys with
    | nil => rfl
    | cons y ys =>
      simp only [kOfs] at h2
      split at h2 <;> simp at h2
  | x :: xs, ys, ks, h1, h2 => by
    simp only [kOfs] at h1
    split at h1
    · rename_i k1 k2 e1 e2
      simp only [Option.some.injEq] at h1
      subst h1
      cases ys with
      | nil => simp [kOfs] at h2
      | cons y ys =>
        simp only [kOfs] at h2
        split at h2
        · rename_i m1 m2 f1 f2
          simp only [Option.some.injEq, List.cons.injEq] at h2
          obtain ⟨z1, z2⟩ := h2
          subst z1
          subst z2
          rw [kOf_inj x y _ e1 f1, kOfs_inj xs ys _ e2 f2]
        · simp at h2
    · simp at h1
end
section
variable {G : Gx} {F : AP1} {H : Hp}
mutual
theorem Fz.vkey : ∀ {v : V} {d : IV} {k : NestedKey}, Fz G F H v d → kOf d = some k → VKey G.K H v k
  | _, _, _, .int i, h => by simp only [kOf, Option.some.injEq] at h; subst h; exact .int i
  | _, _, _, .str i, h => by simp only [kOf, Option.some.injEq] at h; subst h; exact .text i
  | _, _, _, .tup hq ha _, h => by
    simp only [kOf, Option.map_eq_some_iff] at h
    obtain ⟨ks, h, z⟩ := h
    subst z
    exact .tup hq (FzA.vkeys ha h)
  | _, _, _, .non, h => by simp [kOf] at h
  | _, _, _, .bl _, h => by simp [kOf] at h
  | _, _, _, .ty _, h => by simp [kOf] at h
  | _, _, _, .cl _, h => by simp [kOf] at h
  | _, _, _, .lst _ _ _ _, h => by simp [kOf] at h
  | _, _, _, .scr _ _, h => by simp [kOf] at h
  | _, _, _, .dic _ _ _ _, h => by simp [kOf] at h
  | _, _, _, .ins _ _ _, h => by simp [kOf] at h
theorem FzA.vkeys : ∀ {vs : List V} {ds : List IV} {ks : List NestedKey}, FzA G F H vs ds → kOfs ds = some ks → VKeys G.K H vs ks
  | _, _, _, .nil, h => by simp only [kOfs, Option.some.injEq] at h; subst h; exact .nil
  | _, _, _, .cons a b, h => by
    simp only [kOfs] at h
    split at h
    · rename_i k1 k2 e1 e2
      simp only [Option.some.injEq] at h
      subst h
      exact .cons (a.vkey e1) (FzA.vkeys b e2)
    · simp at h
end
end
/-! ### the outcomes, ascending -/
def oI (ws : List Str) (v : Int) : IV := .tup [.tup (ws.map .str), .int v]
def outI : List IV := [.tup [], oI ["mark"] 0, oI ["mark"] 1, oI ["settle"] 0, oI ["settle"] 1, oI ["settle", "value"] 0, oI ["settle", "value"] 1, oI ["value"] 0, oI ["value"] 1]
def oK (ws : List Str) (v : Int) : NestedKey := .tup [.tup (ws.map .text), .num v]
def outK : List NestedKey := [.tup [], oK ["mark"] 0, oK ["mark"] 1, oK ["settle"] 0, oK ["settle"] 1, oK ["settle", "value"] 0, oK ["settle", "value"] 1, oK ["value"] 0, oK ["value"] 1]
def rkO : NestedKey → List NestedKey → Nat
  | _, [] => 0
  | k, l :: ls => if NestedKey.beq k l = true then 0 else rkO k ls + 1
theorem out_keys : outI.map kOf = outK.map some := by rfl
theorem out_lt : (outK.all fun k => outK.all fun l => PySem.W.alike k.data l.data && (PySem.W.dataLt k.data l.data == decide (rkO k outK < rkO l outK))) = true := by decide +kernel
theorem out_tup : (outK.all fun k => decide (k.depth ≤ 8) && (decide (k.data.depth ≤ 10) && (match k with | .tup _ => true | _ => false))) = true := by decide +kernel
def okO (d : IV) : Bool := match kOf d with
  | some k => outK.any fun l => NestedKey.beq k l
  | none => false
def sameK (d e : IV) : Bool := match kOf d, kOf e with
  | some k, some l => NestedKey.beq k l
  | _, _ => false
def srtO (ds : List IV) : List IV := outI.filter fun o => ds.any fun d => sameK d o
theorem okO_key {d : IV} (h : okO d = true) : ∃ k, kOf d = some k ∧ k ∈ outK := by
  unfold okO at h
  split at h
  · rename_i k e
    obtain ⟨l, h1, h2⟩ := List.any_eq_true.mp h
    exact ⟨k, e, by rw [NestedKey.eq_of_beq k l h2]; exact h1⟩
  · cases h
theorem outK_mem {k : NestedKey} (h : k ∈ outK) : k.depth ≤ 8 ∧ k.data.depth ≤ 10 ∧ ∃ ks, k = .tup ks := by
  have z := List.all_eq_true.mp out_tup k h
  simp only [Bool.and_eq_true, decide_eq_true_eq] at z
  obtain ⟨z1, z2, z3⟩ := z
  refine ⟨z1, z2, ?_⟩
  cases k with
  | tup ks => exact ⟨ks, rfl⟩
  | _ => cases z3
theorem outK_lt {k l : NestedKey} (h1 : k ∈ outK) (h2 : l ∈ outK) : PySem.W.alike k.data l.data = true ∧ PySem.W.dataLt k.data l.data = decide (rkO k outK < rkO l outK) := by
  have z := List.all_eq_true.mp (List.all_eq_true.mp out_lt k h1) l h2
  simp only [Bool.and_eq_true, beq_iff_eq] at z
  exact z
/-! ### ints, ascending -/
def insI (k : Int) : List Int → List Int
  | [] => [k]
  | n :: ns => if k < n then k :: n :: ns else if k = n then n :: ns else n :: insI k ns
def srtI (ns : List Int) : List Int := ns.foldl (fun acc k => insI k acc) []
theorem insI_mem (k x : Int) : ∀ ns : List Int, x ∈ insI k ns ↔ x = k ∨ x ∈ ns
  | [] => by simp [insI]
  | n :: ns => by
    unfold insI
    split
    · simp
    · split
      · rename_i e
        rw [List.mem_cons, e]
        exact ⟨fun h => .inr h, fun h => h.elim (fun z => .inl z) id⟩
      · rw [List.mem_cons, insI_mem k x ns, List.mem_cons]
        exact ⟨fun h => by rcases h with h | h | h <;> simp [h], fun h => by rcases h with h | h | h <;> simp [h]⟩
theorem insI_up (k : Int) : ∀ ns : List Int, ns.Pairwise (· < ·) → (insI k ns).Pairwise (· < ·)
  | [], _ => by simp [insI]
  | n :: ns, h => by
    unfold insI
    obtain ⟨h1, h2⟩ := List.pairwise_cons.mp h
    split
    · rename_i c
      refine List.pairwise_cons.mpr ⟨fun y hy => ?_, h⟩
      rcases List.mem_cons.mp hy with z | z
      · omega
      · have := h1 y z; omega
    · split
      · exact h
      · refine List.pairwise_cons.mpr ⟨fun y hy => ?_, insI_up k ns h2⟩
        rcases (insI_mem k y ns).mp hy with z | z
        · omega
        · exact h1 y z
theorem srtI_spec (ns : List Int) : (srtI ns).Pairwise (· < ·) ∧ ∀ x, x ∈ srtI ns ↔ x ∈ ns := by
  have key : ∀ (ns acc : List Int), acc.Pairwise (· < ·) → (ns.foldl (fun acc k => insI k acc) acc).Pairwise (· < ·) ∧ ∀ x, x ∈ ns.foldl (fun acc k => insI k acc) acc ↔ x ∈ ns ∨ x ∈ acc := by
    intro ns
    induction ns with
    | nil => intro acc h; exact ⟨h, fun x => by simp⟩
    | cons n ns ih =>
      intro acc h
      obtain ⟨h1, h2⟩ := ih (insI n acc) (insI_up n acc h)
      refine ⟨h1, fun x => ?_⟩
      rw [List.foldl_cons, h2, insI_mem, List.mem_cons]
      exact ⟨fun z => by rcases z with z | z | z <;> simp [z], fun z => by rcases z with (z | z) | z <;> simp [z]⟩
  obtain ⟨h1, h2⟩ := key ns [] List.Pairwise.nil
  exact ⟨h1, fun x => by unfold srtI; rw [h2]; simp⟩
/-- two strictly ascending lists with the same members are one -/
theorem up_unique {α : Type} {r : α → α → Prop} (as : ∀ x y, r x y → ¬ r y x) : ∀ (l m : List α), l.Pairwise r → m.Pairwise r → (∀ x, x ∈ l ↔ x ∈ m) → l = m
  | [], [], _, _, _ => rfl
  | [], y :: m, _, _, h => by have := (h y).mpr List.mem_cons_self; cases this
  | x :: l, [], _, _, h => by have := (h x).mp List.mem_cons_self; cases this
  | x :: l, y :: m, h1, h2, h => by
    obtain ⟨a1, a2⟩ := List.pairwise_cons.mp h1
    obtain ⟨b1, b2⟩ := List.pairwise_cons.mp h2
    have irr : ∀ z, ¬ r z z := fun z q => as z z q q
    have e : x = y := by
      rcases List.mem_cons.mp ((h x).mp List.mem_cons_self) with z | z
      · exact z
      · rcases List.mem_cons.mp ((h y).mpr List.mem_cons_self) with w | w
        · exact w.symm
        · exact absurd (a1 y w) (as _ _ (b1 x z))
    subst e
    have ne : ∀ z, z ∈ l → z ∈ m := fun z hz => by
      rcases List.mem_cons.mp ((h z).mp (List.mem_cons_of_mem _ hz)) with q | q
      · rw [q] at hz; exact absurd (a1 _ hz) (irr _)
      · exact q
    have ne2 : ∀ z, z ∈ m → z ∈ l := fun z hz => by
      rcases List.mem_cons.mp ((h z).mpr (List.mem_cons_of_mem _ hz)) with q | q
      · rw [q] at hz; exact absurd (b1 _ hz) (irr _)
      · exact q
    rw [up_unique as l m a2 b2 fun z => ⟨ne z, ne2 z⟩]
def srtS (ds : List IV) : Option (List IV) := match intsOf ds with
  | some ns => if ns.length < 64 then some ((srtI ns).map .int) else none
  | none => if ds.all okO then some (srtO ds) else none
section
variable {X : Cx} {G : Gx} {W : WX}
/-! ### a value that is a set of these items -/
def RSN (w : World) (G : Gx) (F : AP1) (H : Hp) (v : V) (ds : List IV) : Prop := ∃ a L, v = V.ref a ∧ H a = some (NSet.setO w a L) ∧ ds.all okO = true ∧
  (∀ r ∈ L, ∃ d ∈ ds, Fz G F H (.ref r.1) d ∧ kOf d = some r.2) ∧ ∀ d ∈ ds, ∃ k, kOf d = some k ∧ k ∈ L.map Prod.snd
def RSI (w : World) (H : Hp) (v : V) (ds : List IV) : Prop := ∃ (a : Addr) (S : Int → Bool) (n : Nat) (ns : List Int), v = V.ref a ∧ H a = some (L2.SetO w a S n) ∧ intsOf ds = some ns ∧ ns.length < 64 ∧ n ≤ ns.length ∧ ∀ k, S k = true ↔ k ∈ ns
def RS (w : World) (G : Gx) (_ : L2.St) (F : AP1) (H : Hp) (v : V) (ds : List IV) : Prop := RSN w G F H v ds ∨ RSI w H v ds
abbrev tsetOf (w : World) (G : Gx) (W : WX) (m : EL) : TE := tOf (RS w) G W m
theorem intsOf_len : ∀ {ds : List IV} {ns : List Int}, intsOf ds = some ns → ds = ns.map .int
  | [], ns, h => by cases h; rfl
  | d :: ds, ns, h => by
    cases d with
    | int i =>
      simp only [intsOf, Option.map_eq_some_iff] at h
      obtain ⟨m, h1, z⟩ := h
      subst z
      rw [intsOf_len h1]
      rfl
    | _ => simp [intsOf] at h
theorem intsOf_okO {ds : List IV} {ns : List Int} (h : intsOf ds = some ns) (h2 : ds.all okO = true) : ds = [] := by
  cases ds with
  | nil => rfl
  | cons d ds =>
    cases d with
    | int i => simp [okO, kOf, outK, oK, NestedKey.beq] at h2
    | _ => simp [intsOf] at h
def iSort (M : EL) : E := fun ρ => (M ρ).bind fun ds ρ1 => match srtS ds with
  | some xs => .ok (.lst xs) ρ1
  | none => .no
theorem iSort_fz (M : EL) : ∀ ρ d ρ', iSort M ρ = .ok d ρ' → canFz d = true := by
  intro ρ d ρ' h
  obtain ⟨xs, ρ1, _, h1⟩ := Rz.bind_ok h
  split at h1
  · cases h1; rfl
  · cases h1
/-- the rows, sorted, read as the sorted items -/
theorem srt_rows {F : AP1} {H : Hp} {ds : List IV} {L L' : List Row} (ok : ds.all okO = true) (h1 : ∀ r ∈ L, ∃ d ∈ ds, Fz G F H (.ref r.1) d ∧ kOf d = some r.2) (h2 : ∀ d ∈ ds, ∃ k, kOf d = some k ∧ k ∈ L.map Prod.snd)
    (pm : L'.Perm L) (nd : (L'.map Prod.snd).Nodup) (up : L'.Pairwise fun x y => ¬ rkO y.2 outK < rkO x.2 outK) : FzA G F H (L'.map fun r => V.ref r.1) (srtO ds) := by
  have each : ∀ M : List Row, (∀ r ∈ M, r ∈ L) → ∃ es : List IV, FzA G F H (M.map fun r => V.ref r.1) es ∧ es.map kOf = M.map (fun r => some r.2) ∧ ∀ e ∈ es, e ∈ ds := by
    intro M
    induction M with
    | nil => intro _; exact ⟨[], .nil, rfl, fun e he => by cases he⟩
    | cons r M ih =>
      intro hM
      obtain ⟨es, e1, e2, e3⟩ := ih fun x hx => hM x (List.mem_cons_of_mem _ hx)
      obtain ⟨d, d1, d2, d3⟩ := h1 r (hM r List.mem_cons_self)
      refine ⟨d :: es, .cons d2 e1, by rw [List.map_cons, List.map_cons, d3, e2], fun e he => ?_⟩
      rcases List.mem_cons.mp he with z | z
      · rw [z]; exact d1
      · exact e3 e z
  obtain ⟨es, e1, e2, e3⟩ := each L' fun r hr => pm.mem_iff.mp hr
  have rkOf : IV → Nat := fun d => 0
  -- both stand strictly ascending
  let lt : IV → IV → Prop := fun x y => ∃ k l, kOf x = some k ∧ kOf y = some l ∧ rkO k outK < rkO l outK
  have asym : ∀ x y, lt x y → ¬ lt y x := by
    rintro x y ⟨k, l, a1, a2, a3⟩ ⟨k', l', b1, b2, b3⟩
    rw [a1] at b2
    rw [a2] at b1
    cases b1
    cases b2
    omega
  have outUp : outI.Pairwise lt := by
    have : ∀ (xs : List IV) (ks : List NestedKey), xs.map kOf = ks.map some → ks.Pairwise (fun k l => rkO k outK < rkO l outK) → xs.Pairwise lt := by
      intro xs
      induction xs with
      | nil => intro ks _ _; exact List.Pairwise.nil
      | cons x xs ih =>
        intro ks h hp
        cases ks with
        | nil => cases h
        | cons k ks =>
          rw [List.map_cons, List.map_cons] at h
          injection h with h3 h4
          obtain ⟨p1, p2⟩ := List.pairwise_cons.mp hp
          refine List.pairwise_cons.mpr ⟨fun y hy => ?_, ih ks h4 p2⟩
          have hy' : kOf y ∈ xs.map kOf := List.mem_map_of_mem hy
          rw [h4] at hy'
          obtain ⟨l, hl, e⟩ := List.mem_map.mp hy'
          exact ⟨k, l, h3, e.symm, p1 l hl⟩
    refine this outI outK out_keys ?_
    have dec : (outK.Pairwise fun k l => rkO k outK < rkO l outK) := by
      have : ([0, 1, 2, 3, 4, 5, 6, 7, 8] : List Nat).Pairwise (· < ·) := by decide
      have e : outK.map (fun k => rkO k outK) = [0, 1, 2, 3, 4, 5, 6, 7, 8] := by decide +kernel
      rw [← e] at this
      exact List.pairwise_map.mp this
    exact dec
  have mem_ok : ∀ d ∈ ds, ∃ k, kOf d = some k ∧ k ∈ outK := fun d hd => okO_key (List.all_eq_true.mp ok d hd)
  have esUp : es.Pairwise lt := by
    have gen : ∀ (xs : List IV) (M : List Row), xs.map kOf = M.map (fun r => some r.2) → (∀ x ∈ xs, x ∈ ds) → (M.map Prod.snd).Nodup → M.Pairwise (fun x y => ¬ rkO y.2 outK < rkO x.2 outK) → xs.Pairwise lt := by
      intro xs
      induction xs with
      | nil => intro M _ _ _ _; exact List.Pairwise.nil
      | cons x xs ih =>
        intro M h hx hn hp
        cases M with
        | nil => cases h
        | cons r M =>
          rw [List.map_cons, List.map_cons] at h
          injection h with h3 h4
          obtain ⟨p1, p2⟩ := List.pairwise_cons.mp hp
          rw [List.map_cons] at hn
          obtain ⟨n1, n2⟩ := List.nodup_cons.mp hn
          refine List.pairwise_cons.mpr ⟨fun y hy => ?_, ih M h4 (fun z hz => hx z (List.mem_cons_of_mem _ hz)) n2 p2⟩
          have hy' : kOf y ∈ xs.map kOf := List.mem_map_of_mem hy
          rw [h4] at hy'
          obtain ⟨q, hq, e⟩ := List.mem_map.mp hy'
          refine ⟨r.2, q.2, h3, e.symm, ?_⟩
          have ne : r.2 ≠ q.2 := fun z => n1 (by rw [z]; exact List.mem_map_of_mem hq)
          obtain ⟨k1, g1, g2⟩ := mem_ok x (hx x List.mem_cons_self)
          obtain ⟨k2, g3, g4⟩ := mem_ok y (hx y (List.mem_cons_of_mem _ hy))
          rw [h3] at g1
          rw [← e] at g3
          cases g1
          cases g3
          have inj : ∀ k ∈ outK, ∀ l ∈ outK, rkO k outK = rkO l outK → k = l := by
            have z : (outK.all fun k => outK.all fun l => (rkO k outK != rkO l outK) || NestedKey.beq k l) = true := by decide +kernel
            intro k hk l hl e
            have z2 := List.all_eq_true.mp (List.all_eq_true.mp z k hk) l hl
            rw [e] at z2
            simp only [bne_self_eq_false, Bool.false_or] at z2
            exact NestedKey.eq_of_beq k l z2
          have le := p1 q hq
          have ne2 : rkO r.2 outK ≠ rkO q.2 outK := fun z => ne (inj _ g2 _ g4 z)
          omega
    exact gen es L' e2 e3 nd up
  have srtUp : (srtO ds).Pairwise lt := outUp.sublist List.filter_sublist
  have e : es = srtO ds := by
    refine up_unique asym es (srtO ds) esUp srtUp fun x => ?_
    unfold srtO
    rw [List.mem_filter]
    constructor
    · intro hx
      have hd := e3 x hx
      obtain ⟨k, g1, g2⟩ := mem_ok x hd
      have hk : some k ∈ outI.map kOf := by rw [out_keys]; exact List.mem_map_of_mem g2
      obtain ⟨o, ho, eo⟩ := List.mem_map.mp hk
      have : x = o := kOf_inj x o k g1 eo
      refine ⟨by rw [this]; exact ho, List.any_eq_true.mpr ⟨x, hd, ?_⟩⟩
      unfold sameK
      rw [g1]
      exact NestedKey.beq_self k
    · rintro ⟨hx, hs⟩
      obtain ⟨d, hd, hs⟩ := List.any_eq_true.mp hs
      unfold sameK at hs
      split at hs
      · rename_i k l g1 g2
        have := NestedKey.eq_of_beq k l hs
        subst this
        have z : d = x := kOf_inj d x k g1 g2
        obtain ⟨k', g3, g4⟩ := h2 d hd
        rw [g1] at g3
        cases g3
        obtain ⟨r, hr, er⟩ := List.mem_map.mp ((pm.map Prod.snd).mem_iff.mpr g4)
        have hk : some k ∈ es.map kOf := by
          rw [e2, ← er]
          exact List.mem_map.mpr ⟨r, hr, rfl⟩
        obtain ⟨y, hy, ey⟩ := List.mem_map.mp hk
        rw [← z, kOf_inj d y k g1 ey]
        exact hy
      · cases hs
  rw [← e]
  exact e1
end
end MR
set_option maxRecDepth 100000
set_option maxHeartbeats 4000000
/-! MirSeu: set(xs), {e for x in xs}, {a, b}, sorted(set). -/
namespace MR
open PySem L2 PyProof.Rows NSet
section
variable {X : Cx} {G : Gx} {W : WX}
theorem srtS_ok {ds : List IV} (h : ds.all okO = true) : srtS ds = some (srtO ds) := by
  unfold srtS
  cases e : intsOf ds with
  | none => simp only [h, if_true]
  | some ns =>
    have z := intsOf_okO e h
    subst z
    simp only [intsOf] at e
    cases e
    rfl
theorem rows_ok {F : AP1} {H : Hp} {ds : List IV} {L : List Row} (h : ∀ r ∈ L, ∃ d ∈ ds, Fz G F H (.ref r.1) d ∧ kOf d = some r.2) (ok : ds.all okO = true) : RowsOk G.K H outK L := fun r hr => by
  obtain ⟨d, h1, h2, h3⟩ := h r hr
  obtain ⟨k, g1, g2⟩ := okO_key (List.all_eq_true.mp ok d h1)
  rw [h3] at g1
  cases g1
  exact ⟨h2.vkey h3, (outK_mem g2).1, g2⟩
theorem srtO_len (ds : List IV) : (srtO ds).length ≤ 9 := Nat.le_trans (List.length_filter_le _ _) (by decide)
theorem fz_intL {F : AP1} {H : Hp} : ∀ (ns : List Int), FzA G F H (ns.map V.int) (ns.map IV.int)
  | [] => .nil
  | n :: ns => .cons (.int n) (fz_intL ns)
/-! ### sorted(set) -/
def rSrt (K : Frag) (w : World) : List V → Hp → VK → Prop := fun xs H Q => rSortedN K w xs H Q ∨ L2.rSortedSet w xs H Q
theorem c_srt (o : Ok X G W) : CallR X (.builtin "sorted") (rSrt X.K X.w) := CallR.or (cr_sortedN o.calm (by have := o.hu; omega)) (L2.cr_sortedSet o.calm)
theorem q_sort {w : World} {M : EL} : ∀ σ H Q, toOf G W (iSort M) σ H Q → tCB (rSrt G.K w) (tCons (tsetOf w G W M) tNil) σ H Q := by
  rintro σ H Q ⟨ρ, F, fp, e, h⟩
  refine ocO_bind e h fun v ds ρ1 H1 F1 fp1 s1 e1 r1 h1 => ?_
  rcases r1 with ⟨a, L, ev, hD, ok, g1, g2⟩ | ⟨a, S, n, ns, ev, hD, hi, hz, hn, hS⟩
  · subst ev
    rw [srtS_ok ok] at h1
    refine Or.inl ⟨a, L, outK, fun k => rkO k outK, rfl, hD, rows_ok g1 ok, fun k hk => ⟨(outK_mem hk).2.2, (outK_mem hk).2.1⟩, fun k hk l hl => outK_lt hk hl, fun L' p pm nd up hp => ?_⟩
    have fz := srt_rows ok g1 g2 pm nd up
    exact ocO_new h1 e1 hp fz (by rw [fz.len]; exact Nat.le_trans (srtO_len ds) (by decide))
  · subst ev
    have e2 : srtS ds = some ((srtI ns).map .int) := by
      unfold srtS
      rw [hi]
      simp only [hz, if_true]
    rw [e2] at h1
    refine Or.inr ⟨a, S, n, rfl, hD, by omega, fun ms p up mem len hp => ?_⟩
    have em : ms = srtI ns := up_unique (fun x y (q : x < y) (q' : y < x) => by omega) ms (srtI ns) up (srtI_spec ns).1 fun x => by rw [mem, hS, (srtI_spec ns).2]
    rw [em]
    refine ocO_new h1 e1 hp (fz_intL _) ?_
    rw [List.length_map, ← em, len]
    exact Nat.le_trans hn (Nat.le_trans (Nat.le_of_lt hz) (by decide))
theorem o_sort (o : Ok X G W) {e : Expr} {p pos : Pos} {M : EL} (hg : Gl X "sorted") (hm : X.mg "sorted" = none) (he : PE X e (tsetOf X.w G W M)) (hs : starEach [e] X.env = [(false, eval e X.env)] := by rfl) :
    PE X (.Call (.Name "sorted" p) [e] [] pos) (toOf G W (iSort M)) := by
  have h := c_srt o
  rw [o.K] at h
  exact PE.imp (pe_callB h hg hm PyProof.Rows.boot_sorted (pa_cons he pa_nil hs) (by decide) (by decide) hs) q_sort
theorem m_sort (o : Ok X G W) {e : Expr} {p pos : Pos} {M : EL} (hg : Gl X "sorted") (hm : X.mg "sorted" = none) (he : PE X e (tsetOf X.w G W M)) (hs : starEach [e] X.env = [(false, eval e X.env)] := by rfl) :
    PE X (.Call (.Name "sorted" p) [e] [] pos) (teOf G W (iSort M)) := m_frz (o_sort o hg hm he hs) (iSort_fz M)
/-! ### set(xs) -/
def fSet : List IV → Option (List IV)
  | [.lst xs] => (match intsOf xs with
    | some ns => if ns.length < 64 then some xs else none
    | none => if xs.all okO then some xs else none)
  | _ => none
def iSetC (J : EAv) : EL := fun ρ => (J ρ).bind fun as ρ1 => ofO ((rsA as ρ1).bind fSet) ρ1
theorem rows_of {F : AP1} {H : Hp} : ∀ {vs : List V} {ds : List IV}, FzA G F H vs ds → ds.all okO = true → ∃ ks : List Row, vs = ks.map (fun r => V.ref r.1) ∧ (∀ r ∈ ks, ∃ d ∈ ds, Fz G F H (.ref r.1) d ∧ kOf d = some r.2) ∧ ∀ d ∈ ds, ∃ r ∈ ks, kOf d = some r.2
  | _, _, .nil, _ => ⟨[], rfl, fun r h => (by cases h), fun r h => (by cases h)⟩
  | _, _, @FzA.cons _ _ _ v vs d ds a b, ok => by
    rw [List.all_cons, Bool.and_eq_true] at ok
    obtain ⟨ks, e1, e2, e3⟩ := rows_of b ok.2
    obtain ⟨k, g1, g2⟩ := okO_key ok.1
    obtain ⟨p, hp⟩ : ∃ p, v = .ref p := by
      obtain ⟨_, _, l, el⟩ := outK_mem g2
      rw [el] at g1
      cases a with
      | tup => exact ⟨_, rfl⟩
      | _ => simp [kOf] at g1
    subst hp
    refine ⟨(p, k) :: ks, by rw [List.map_cons, ← e1], fun r hr => ?_, fun d' hd => ?_⟩
    · rcases List.mem_cons.mp hr with z | z
      · rw [z]; exact ⟨d, List.mem_cons_self, a, g1⟩
      · obtain ⟨d', h1, h2⟩ := e2 r z
        exact ⟨d', List.mem_cons_of_mem _ h1, h2⟩
    · rcases List.mem_cons.mp hd with z | z
      · rw [z]; exact ⟨(p, k), List.mem_cons_self, g1⟩
      · obtain ⟨r, h1, h2⟩ := e3 d' z
        exact ⟨r, List.mem_cons_of_mem _ h1, h2⟩
def rSet (K : Frag) (w : World) : List V → Hp → VK → Prop := fun xs H Q => rSetN K w xs H Q ∨ rSetI K w xs H Q
theorem c_set (o : Ok X G W) : CallR X (.type "set") (rSet X.K X.w) := CallR.or (cr_setN o.calm (by have := o.hu; omega)) (cr_setI o.calm)
theorem q_setC {w : World} {J : EAv} : ∀ σ H Q, tsetOf w G W (iSetC J) σ H Q → tCB (rSet G.K w) (tjOf G W J) σ H Q := by
  rintro σ H Q ⟨ρ, F, fp, e, h⟩
  refine oc_bind e h fun xs as ρ1 H1 F1 fp1 s1 e1 r1 h1 => ?_
  cases hf : (rsA as ρ1).bind fSet with
  | none => rw [hf] at h1; exact h1.elim
  | some d =>
    rw [hf] at h1
    have h1' : Oc (RS w) G W σ H1 F1 fp1 (.ok d ρ1) Q := h1
    obtain ⟨ds, g1, g2⟩ := Option.bind_eq_some_iff.mp hf
    have bz := RAs.bz e1 r1 g1
    unfold fSet at g2
    split at g2
    · rename_i ys
      obtain ⟨v, ev, b⟩ := bz.one
      subst ev
      obtain ⟨p, vs, ev, hp, fa, hz⟩ := b.seqL
      subst ev
      split at g2
      · rename_i ns hi
        split at g2
        · rename_i hl
          cases g2
          have ey := intsOf_len hi
          refine Or.inr ⟨p, ns, rfl, ?_, hl, fun a n ha hn => ?_⟩
          · have : vs = ns.map V.int := FzA.ints fa hi
            rw [← this]
            exact SqL.of hp
          · have fr : Fr H1 F1 (upd H1 a (L2.SetO w a (fun j => decide (j ∈ ns)) n)) F1 := Fr.new ha
            exact h1' _ _ F1 fp1 (fr.stp _) (e1.fr fr) (Or.inr ⟨a, _, n, ns, rfl, upd_same, hi, hl, hn, fun k => by simp⟩)
        · cases g2
      · split at g2
        · rename_i ok
          cases g2
          obtain ⟨ks, k1, k2, k3⟩ := rows_of fa ok
          refine Or.inl ⟨p, ks, outK, rfl, ?_, rows_ok k2 ok, by decide, fun a L ha hL => ?_⟩
          · rw [← k1]; exact SqL.of hp
          · have fr : Fr H1 F1 (upd H1 a (NSet.setO w a L)) F1 := Fr.new ha
            refine h1' _ _ F1 fp1 (fr.stp _) (e1.fr fr) (Or.inl ⟨a, L, rfl, upd_same, ok, fun r hr => ?_, fun d hd => ?_⟩)
            · obtain ⟨d, d1, d2, d3⟩ := k2 r (List.mem_of_mem_take (hL.from_ r hr))
              exact ⟨d, d1, d2.mono fr.stq, d3⟩
            · obtain ⟨r, r2, r3⟩ := k3 d hd
              exact ⟨r.2, r3, hL.got r (by rw [List.take_length]; exact r2)⟩
        · cases g2
    · cases g2
theorem s_setC (o : Ok X G W) {e : Expr} {p pos : Pos} {J : EAv} (hg : Gl X "set") (hm : X.mg "set" = none) (ha : PA X [e] (tjOf G W J)) (he : starEach [e] X.env = [(false, eval e X.env)] := by rfl) :
    PE X (.Call (.Name "set" p) [e] [] pos) (tsetOf X.w G W (iSetC J)) := by
  have h := c_set o
  rw [o.K] at h
  exact PE.imp (pe_callTy h hg hm PyProof.Rows.boot_set ha (by decide) (by decide) he) q_setC
/-! ### {a, b}, ints -/
def fSet2 (x y : IV) (ρ : Env) : Rz (List IV) := match x, y with
  | .int i, .int j => .ok [.int i, .int j] ρ
  | _, _ => .no
def iSet2 (A B : E) : EL := fun ρ => (A ρ).bind fun x ρ1 => (B ρ1).bind fun y ρ2 => fSet2 x y ρ2
theorem q_set2 {A B : E} : ∀ σ H Q, tsetOf X.w G W (iSet2 A B) σ H Q → tSet2X X (teOf G W A) (teOf G W B) σ H Q := by
  rintro σ H Q ⟨ρ, F, fp, e, h⟩ D hD
  have fr : Fr H F (upd H D (L2.SetO X.w D (fun _ => false) 0)) F := Fr.new hD
  have nF : ¬ F D := fun f => e.ft D f hD
  have nP : ¬ un fp D := fun ⟨i, z⟩ => e.tr i D z hD
  unfold iSet2 at h
  refine ⟨ρ, F, fp, e.fr fr, ?_⟩
  cases hA : A ρ with
  | no => rw [hA] at h; exact h.elim
  | ex c p ρ1 => rw [hA] at h; exact fun d H' F' fp' s' => h d H' F' fp' ((fr.stp (un fp)).trans s')
  | ok x ρ1 =>
    rw [hA] at h
    intro v H1 F1 fp1 s1 e1 r1
    have D1 := s1.keep D _ upd_same nP
    have t1 : Stp H F (un fp) H1 F1 (un fp1) := (fr.stp (un fp)).trans s1
    have nP1 : ¬ un fp1 D := fun z => by
      rcases s1.pnew D z with q | q
      · exact nP q
      · rw [upd_same] at q; cases q
    have nF1 : ¬ F1 D := fun z => by
      rcases s1.fnew D z with q | q | q
      · exact nF q
      · exact nP q
      · rw [upd_same] at q; cases q
    refine ⟨ρ1, F1, fp1, e1, ?_⟩
    have h : Oc (RS X.w) G W σ H F fp ((B ρ1).bind fun y ρ2 => fSet2 x y ρ2) Q := h
    cases hB : B ρ1 with
    | no => rw [hB] at h; exact h.elim
    | ex c p ρ2 => rw [hB] at h; exact fun d H' F' fp' s' => h d H' F' fp' (t1.trans s')
    | ok y ρ2 =>
      rw [hB] at h
      intro u H2 F2 fp2 s2 e2 r2
      have D2 := s2.keep D _ D1 nP1
      have t2 : Stp H F (un fp) H2 F2 (un fp2) := t1.trans s2
      have nF2 : ¬ F2 D := fun z => by
        rcases s2.fnew D z with q | q | q
        · exact nF1 q
        · exact nP1 q
        · rw [D1] at q; cases q
      have nP2 : ¬ un fp2 D := fun z => by
        rcases s2.pnew D z with q | q
        · exact nP1 q
        · rw [D1] at q; cases q
      cases x with
      | int i =>
        cases y with
        | int j =>
          refine ⟨i, j, r1.int_inv, r2.int_inv, D2, fun S n hS hn => ?_⟩
          have e3 : EnvR G F2 (upd H2 D (L2.SetO X.w D S n)) σ ρ2 fp2 := e2.upd nF2 nP2 fun u hu => by
            rw [D2] at hu
            cases hu
            exact fun z => z
          have st : Stp H F (un fp) (upd H2 D (L2.SetO X.w D S n)) F2 (un fp2) := by
            refine ⟨fun a o z n => ?_, t2.frm, t2.fnew, t2.pnew, fun a z => ?_⟩
            · rw [upd_ne (fun q => by rw [q, hD] at z; cases z)]
              exact t2.keep a o z n
            · by_cases ha : a = D
              · rw [ha]; exact hD
              · rw [upd_ne ha] at z; exact t2.dom a z
          have h3 : Oc (RS X.w) G W σ H F fp (.ok [.int i, .int j] ρ2) Q := h
          exact h3 _ _ F2 fp2 st e3 (Or.inr ⟨D, S, n, [i, j], rfl, upd_same, rfl, (by decide : 2 < 64), hn, fun k => by rw [hS]; simp⟩)
        | _ => exact h.elim
      | _ => exact h.elim
theorem s_set2 (code : PySem.W.kdsCode X.K X.env.code = true) {a b : Expr} {pos : Pos} {A B : E} (ha : PE X a (teOf G W A)) (hb : PE X b (teOf G W B)) (h1 : PySem.W.kdsPlain a = true := by rfl) (h2 : PySem.W.kdsPlain b = true := by rfl) :
    PE X (.Set [a, b] 0 pos) (tsetOf X.w G W (iSet2 A B)) := PE.imp (pe_set2 code ha hb h1 h2) q_set2
end
end MR
set_option maxRecDepth 100000
set_option maxHeartbeats 4000000
/-! MirSev: {e for x in xs if ..} of outcomes. -/
namespace MR
open PySem L2 PyProof.Rows NSet
section
variable {X : Cx} {G : Gx} {W : WX}
theorem lcLoop_noex {t : TM} {ts : EB} {el : E} {own : List Nat} : ∀ (ds : List IV) (ρ : Env) (c : String) (p : List (Str × IV)) (ρ' : Env), lcLoop t ts el own ds ρ = .ex c p ρ' → False
  | [], ρ, c, p, ρ', h => by cases h
  | d :: ds, ρ, c, p, ρ', h => by
    simp only [lcLoop] at h
    split at h
    · cases h
    · split at h
      · exact lcLoop_noex ds _ _ _ _ h
      · split at h
        · rename_i y ρc _
          cases e : lcLoop t ts el own ds (restE ρ ρc own) with
          | ok a b => rw [e] at h; cases h
          | ex c' p' b => exact lcLoop_noex ds _ _ _ _ e
          | no => rw [e] at h; cases h
        · cases h
      · cases h
theorem lcLoop_ok {t : TM} {ts : EB} {el : E} {own : List Nat} (ds : List IV) (ρ : Env) : (∃ xs ρ', lcLoop t ts el own ds ρ = .ok xs ρ') ∨ lcLoop t ts el own ds ρ = .no := by
  cases e : lcLoop t ts el own ds ρ with
  | ok a b => exact Or.inl ⟨a, b, rfl⟩
  | ex c p b => exact (lcLoop_noex ds ρ c p b e).elim
  | no => exact Or.inr rfl
def iSc (M : EL) (t : TM) (ts : EB) (el : E) (own : List Nat) : EL := fun ρ => (M ρ).bind fun ds ρ1 => (lcLoop t ts el own ds ρ1).bind fun xs ρ2 => if xs.all okO = true then .ok xs ρ2 else .no
/-- between the turns -/
structure ScW (w : World) (G : Gx) (σ : L2.St) (H1 : Hp) (F1 : AP1) (fp1 : FPt) (ds : List IV) (t : TM) (ts : EB) (el : E) (own : List Nat) (all : List IV) (ρe : Env) (D : Addr) (i : Nat) (H : Hp) (ρ : Env) (F : AP1) (fp : FPt) (L : List Row) (xs : List IV) : Prop where
  stp : Stp H1 F1 (un fp1) H F (un fp)
  env : EnvR G F H σ ρ fp
  at_ : H D = some (NSet.setO w D L)
  nf : ¬ F D
  np : ¬ un fp D
  rows : ∀ r ∈ L, ∃ d ∈ xs, Fz G F H (.ref r.1) d ∧ kOf d = some r.2
  got : ∀ d ∈ xs, ∃ k, kOf d = some k ∧ k ∈ L.map Prod.snd
  rest : ∃ ys, lcLoop t ts el own (ds.drop i) ρ = .ok ys ρe ∧ xs ++ ys = all
theorem q_sc {w : World} {M : EL} {t : TM} {ts : EB} {el : E} {own l : List Nat} (hl : ∀ i ∈ l, i ∈ own) : ∀ σ H Q, tsetOf w G W (iSc M t ts el own) σ H Q → tScN w G.K (tiOf G W M) (tgOf G l t) (ttOf G W0 ts) (teOf G W0 el) own σ H Q := by
  rintro σ H Q ⟨ρ, F, fp, e, h⟩
  refine oc_bind e h fun J ds ρ1 H1 F1 fp1 s1 e1 r1 h1 => ?_
  obtain ⟨feeds, hbig⟩ := r1
  rcases lcLoop_ok (t := t) (ts := ts) (el := el) (own := own) ds ρ1 with ⟨all, ρe, hall⟩ | hno
  rotate_left
  · rw [hno] at h1; exact h1.elim
  rw [hall] at h1
  have h1 : Oc (RS w) G W σ H1 F1 fp1 (if all.all okO = true then Rz.ok all ρe else Rz.no) Q := h1
  by_cases ok : all.all okO = true
  rotate_left
  · rw [if_neg ok] at h1; exact h1.elim
  rw [if_pos ok] at h1
  intro D hD
  refine ⟨fun i m H => m = ds.length - i ∧ i ≤ ds.length ∧ ∃ ρ F fp L xs, ScW w G σ H1 F1 fp1 ds t ts el own all ρe D i H ρ F fp L xs, ⟨ds.length, rfl, Nat.zero_le _, ρ1, F1, fp1, [], [], ?_⟩, ?_⟩
  · exact ⟨Stp.new hD, e1.fr (Fr.new hD), upd_same, fun f => e1.ft D f hD, fun ⟨i, q⟩ => e1.tr i D q hD, fun r hr => (by cases hr), fun d hd => (by cases hd), all, hall, rfl⟩
  rintro i m H' ⟨rfl, hi, ρ, F, fp, L, xs, w1⟩
  have fd := feeds F H' (e1.stq w1.stp)
  obtain ⟨ys, rest, hys⟩ := w1.rest
  have okx : xs.all okO = true := by
    rw [← hys, List.all_append, Bool.and_eq_true] at ok
    exact ok.1
  by_cases hlt : i < ds.length
  · obtain ⟨d, hd⟩ : ∃ d, ds[i]? = some d := ⟨ds[i], List.getElem?_eq_getElem hlt⟩
    obtain ⟨go, yl⟩ := fd.2 i d hd
    have hdrop : ds.drop i = d :: ds.drop (i + 1) := by
      rw [List.drop_eq_getElem_cons hlt]
      congr 1
      rw [List.getElem?_eq_getElem hlt] at hd
      exact Option.some.inj hd
    refine Or.inr ⟨go, fun H2 => i + 1 ≤ ds.length ∧ ∃ ρ F fp L xs, ScW w G σ H1 F1 fp1 ds t ts el own all ρe D (i + 1) H2 ρ F fp L xs, fun H2 q => ⟨ds.length - (i + 1), by omega, rfl, q⟩, ?_⟩
    intro x H2 y
    obtain ⟨F2, fr, fx⟩ := yl x H2 y
    rw [hdrop] at rest
    have e2 : EnvR G F2 H2 σ ρ fp := w1.env.fr fr
    have D2 := fr.keep _ _ w1.at_
    have nD2 : ¬ F2 D := fun f => by
      rcases fr.fnew D f with g | ⟨g, _⟩
      · exact w1.nf g
      · rw [w1.at_] at g; cases g
    have st2 : Stp H1 F1 (un fp1) H2 F2 (un fp) := w1.stp.trans (fr.stp _)
    simp only [lcLoop] at rest
    refine ⟨wipeE ρ own, F2, fp, d, e2.wipe own, fx, ?_⟩
    cases ht : t d (wipeE ρ own) with
    | none => rw [ht] at rest; cases rest
    | some ρa =>
      rw [ht] at rest
      intro σ2 fp2 e3 p3 so
      have hw := wipe_eq so hl
      refine ⟨hw, ρa, F2, fp2, e3, ?_⟩
      have st3 : Stp H1 F1 (un fp1) H2 F2 (un fp2) := ⟨st2.keep, st2.frm, st2.fnew, fun a z => st2.pnew a (p3 a z), st2.dom⟩
      cases hts : ts ρa with
      | no => simp only [hts] at rest; cases rest
      | ex c p ρb => simp only [hts] at rest; cases rest
      | ok b ρb =>
        simp only [hts] at rest
        intro b' H3 F3 fp3 s3 e4 rb
        obtain rfl : b' = b := rb
        have D3 := s3.keep _ _ D2 fun z => w1.np (p3 D z)
        have nD3 : ¬ F3 D := fun f => by
          rcases s3.fnew D f with g | g | g
          · exact nD2 g
          · exact w1.np (p3 D g)
          · rw [D2] at g; cases g
        have nP3 : ¬ un fp3 D := fun f => by
          rcases s3.pnew D f with g | g
          · exact w1.np (p3 D g)
          · rw [D2] at g; cases g
        have st4 : Stp H1 F1 (un fp1) H3 F3 (un fp3) := st3.trans s3
        have q3 : Stq H' F H3 F3 := fr.stq.trans (e3.stq s3)
        cases b' with
        | false =>
          simp only [Bool.false_eq_true, if_false]
          refine ⟨by omega, restE ρ ρb own, F3, fp3, L, xs, st4, e4.rest hw fun j dj z => ?_, D3, nD3, nP3, fun r hr => ?_, w1.got, ys, rest, hys⟩
          · obtain ⟨v, g1, g2⟩ := w1.env.fz j dj z
            exact ⟨v, g1, g2.mono q3⟩
          · obtain ⟨d', g1, g2, g3⟩ := w1.rows r hr
            exact ⟨d', g1, g2.mono q3, g3⟩
        | true =>
          simp only [if_true]
          refine ⟨ρb, F3, fp3, e4, ?_⟩
          cases hel : el ρb with
          | no => simp only [hel] at rest; cases rest
          | ex c p ρc => simp only [hel] at rest; cases rest
          | ok y ρc =>
            simp only [hel] at rest
            obtain ⟨zs, ρz, rest1, rest2⟩ := Rz.bind_ok rest
            cases rest2
            intro v H4 F4 fp4 s4 e5 fv
            have D4 := s4.keep _ _ D3 nP3
            have nD4 : ¬ F4 D := fun f => by
              rcases s4.fnew D f with g | g | g
              · exact nD3 g
              · exact nP3 g
              · rw [D3] at g; cases g
            have nP4 : ¬ un fp4 D := fun f => by
              rcases s4.pnew D f with g | g
              · exact nP3 g
              · rw [D3] at g; cases g
            have st5 : Stp H1 F1 (un fp1) H4 F4 (un fp4) := st4.trans s4
            have q4 : Stq H' F H4 F4 := q3.trans (e4.stq s4)
            have oky : okO y = true := by
              rw [← hys, List.all_append, List.all_cons, Bool.and_eq_true, Bool.and_eq_true] at ok
              exact ok.2.1
            obtain ⟨k, hk, hkO⟩ := okO_key oky
            obtain ⟨p, hp⟩ : ∃ p, v = .ref p := by
              obtain ⟨_, _, kl, el'⟩ := outK_mem hkO
              have fv : Fz G F4 H4 v y := fv
              rw [el'] at hk
              cases fv with
              | tup => exact ⟨_, rfl⟩
              | _ => simp [kOf] at hk
            subst hp
            have rows4 : ∀ r ∈ L, ∃ d ∈ xs, Fz G F4 H4 (.ref r.1) d ∧ kOf d = some r.2 := fun r hr => by
              obtain ⟨d', g1, g2, g3⟩ := w1.rows r hr
              exact ⟨d', g1, g2.mono q4, g3⟩
            have fv : Fz G F4 H4 (.ref p) y := fv
            refine ⟨p, k, L, outK, rfl, D4, rows_ok rows4 okx, by decide, fv.vkey hk, (outK_mem hkO).1, fun L' c1 c2 => ?_⟩
            have e6 : EnvR G F4 (upd H4 D (NSet.setO w D L')) σ (restE ρ ρc own) fp4 := by
              refine EnvR.upd (e5.rest hw fun j dj z => ?_) nD4 nP4 fun u z => ?_
              · obtain ⟨v, g1, g2⟩ := w1.env.fz j dj z
                exact ⟨v, g1, g2.mono q4⟩
              · rw [D4] at z; cases z; exact fun z => z
            have st6 : Stp H1 F1 (un fp1) (upd H4 D (NSet.setO w D L')) F4 (un fp4) := by
              refine ⟨fun a o z n => ?_, st5.frm, st5.fnew, st5.pnew, fun a z => ?_⟩
              · have : a ≠ D := fun q => by rw [q, hD] at z; cases z
                rw [upd_ne this]; exact st5.keep a o z n
              · by_cases hp : a = D
                · rw [hp, upd_same] at z; cases z
                · rw [upd_ne hp] at z; exact st5.dom a z
            have q5 : Stq H4 F4 (upd H4 D (NSet.setO w D L')) F4 := by
              refine ⟨fun a o z f => ?_, fun a o z mm => ?_, fun _ f => f⟩
              · rw [upd_ne (fun q => nD4 (by rw [← q]; exact f))]; exact z
              · rw [upd_ne (fun q => by rw [q, D4] at z; cases z; exact mm)]; exact z
            refine ⟨by omega, restE ρ ρc own, F4, fp4, L', xs ++ [y], st6, e6, upd_same, nD4, nP4, fun r hr => ?_, fun d' hd' => ?_, zs, rest1, by rw [List.append_assoc]; exact hys⟩
            · by_cases c : k ∈ L.map Prod.snd
              · rw [c1 c] at hr
                obtain ⟨d', g1, g2, g3⟩ := rows4 r hr
                exact ⟨d', List.mem_append_left _ g1, g2.mono q5, g3⟩
              · rcases List.mem_cons.mp ((c2 c).mem_iff.mp hr) with z | z
                · rw [z]
                  exact ⟨y, List.mem_append_right _ (List.mem_singleton.mpr rfl), fv.mono q5, hk⟩
                · obtain ⟨d', g1, g2, g3⟩ := rows4 r z
                  exact ⟨d', List.mem_append_left _ g1, g2.mono q5, g3⟩
            · rcases List.mem_append.mp hd' with z | z
              · obtain ⟨k', g1, g2⟩ := w1.got d' z
                refine ⟨k', g1, ?_⟩
                by_cases c : k ∈ L.map Prod.snd
                · rw [c1 c]; exact g2
                · refine ((c2 c).map Prod.snd).mem_iff.mpr ?_
                  rw [List.map_cons]
                  exact List.mem_cons_of_mem _ g2
              · rw [List.mem_singleton.mp z]
                refine ⟨k, hk, ?_⟩
                by_cases c : k ∈ L.map Prod.snd
                · rw [c1 c]; exact c
                · refine ((c2 c).map Prod.snd).mem_iff.mpr ?_
                  rw [List.map_cons]
                  exact List.mem_cons_self
  · refine Or.inl ⟨fd.1 i (by omega), ?_⟩
    have hn : ds.drop i = [] := List.drop_eq_nil_iff.mpr (by omega)
    rw [hn] at rest
    cases rest
    rw [List.append_nil] at hys
    subst hys
    exact h1 (.ref D) H' F fp w1.stp w1.env (Or.inl ⟨D, L, rfl, w1.at_, ok, w1.rows, w1.got⟩)
theorem s_sc (o : Ok X G W) {elt tg iter : Expr} {ifs : List Expr} {scope : Scope} {own : List (Str × Nat)} {pos : Pos} {M : EL} {t : TM} {l : List Nat} {ts : EB} {el : E} (hN : X.N.Nodup) (hi : PI X tg iter (tiOf G W M)) (ok : BlkOk X.N X.env.scope scope own)
    (hg : ∀ (s : Shared) (H : Hp) (C : Addr) (cl : List (Str × Addr)) (fp : List Addr), PG (X.blk s H scope (compEnvC scope cl C X.env) fp) tg (tgOf G l t)) (ht : ∀ (s : Shared) (H : Hp) (C : Addr) (cl : List (Str × Addr)) (fp : List Addr), PTs (X.blk s H scope (compEnvC scope cl C X.env) fp) ifs (ttOf G W0 ts))
    (he : ∀ (s : Shared) (H : Hp) (C : Addr) (cl : List (Str × Addr)) (fp : List Addr), PE (X.blk s H scope (compEnvC scope cl C X.env) fp) elt (teOf G W0 el)) (hl : ∀ i ∈ l, i ∈ own.map (·.2) := by decide) (hs : ∀ x, foldedSetIterable iter X.env x = pure x := by intro _; rfl) :
    PE X (.SetComp elt [⟨tg, iter, ifs, 0⟩] scope pos) (tsetOf X.w G W (iSc M t ts el (own.map (·.2)))) := by
  have h := pe_scn o.calm (by have := o.hu; omega) hN hi ok hg ht he hs (pos := pos)
  rw [o.K] at h
  exact PE.imp h (q_sc hl)
/-! ### a def whose code object is told -/
theorem fn_okC {P : Program} {w : World} {K : Frag} {mg : Str → Option Value} {base : Heap} {d : DefM} {fd : FuncData} {N ps : List Str} {k : Nat} {G : Gx} {ks : List Bool} {body : S} (F : FunM K d fd) (S : FnScope N ps (defScope d.st)) (hks : ks.length = ps.length) (hN : ks.length ≤ N.length)
    (hbody : ∀ (cdv : Value) (A : Around) (outer : List PySem.Env) (s : Shared) (H : Hp) (E : XK), PySem.W.kdsCode K cdv = true → Room k (A.deeper (envOfC d.qual (defScope d.st) s.heap.objs.size (d.adr K) cdv)) →
      PSs (cxOf (L2.CX P w) P w K mg base N d.qual (defScope d.st) (d.adr K) cdv A outer s H E) (defBody d.st) (tsOf G (fun cls d _ H => E cls d H) (pinOf ks 0) body)) : FnOk P w K mg base (L2.CX P w) (k + 1) (d.adr K) fd ps (spOf G ks (fnOf N.length ks body)) := by
  obtain ⟨oc, od, dV, kV, doc, pm, an, cdv, ct, osl, e, lk, hcd, _, _⟩ := F.ex
  subst e
  exact fn_of lk hcd S (fun vs H Q E h => by rw [← hks]; exact h.1) fun A outer s H vs Q E hr h => ⟨_, hbody cdv A outer s H E (kdsCode_of hcd) hr, fn_body hN h⟩
end
end MR
set_option maxRecDepth 100000
set_option maxHeartbeats 4000000
/-! sorted(d), d a dict whose keys are pairs of ints -/
namespace NSet
open PySem PySem.Spec PyProof.Rows L2
section
variable {P : Program} {w : World} {A : Around} {E : Value → Shared → Prop} {s : Shared}
/-- the keys of a dict, collected -/
theorem collect_src {T : String} {r d : Addr} {n : Nat} {Pv : Nat → Value → Prop} {OK : Heap → Prop} {R : List Value → Shared → Prop} (K : PySem.W.KdlSrc P w T r d n Pv OK) (hh : A.handled = none) (ok : OK s.heap) (hn : n ≤ sizeLine)
    (h : ∀ (h' : Heap) (tk : Nat) (acc : Array Value), (∀ b o, s.heap.get? b = some o → h'.get? b = some o) → s.heap.objs.size < h'.objs.size → ItemsOf Pv acc n → R acc.toList { s with heap := h', toks := tk }) :
    wpAny (model P w) A (collect (.ref r)) R E s := by
  obtain ⟨lr, ld⟩ := K.there _ ok
  unfold collect
  refine wpAny_bind (wpAny_runValue (codeAny_builtin entry_proto_collect' ?_))
  rw [Around.under_plainId PySem.F.plain_proto_collect _]
  show wpAny _ A.in1 (newList [] >>= fun l => again (.builtin "list.__iadd__" ⟨[l, .ref r], []⟩)) _ _ s
  refine wpAny_bind (wpAny_newObj_type (wpAny_pure ⟨plainId_quiet PySem.F.plain_list_iadd _, codeAny_builtin entry_list_iadd' ?_⟩))
  rw [Around.under_plainId PySem.F.plain_list_iadd _]
  have new : (s.heap.push { cls := .type "list", data := .seq ([] : List Value).toArray }).get? s.heap.objs.size = some { cls := .type "list", data := .seq #[] } := Heap.get?_push_size _ rfl
  have grown : ∀ b o, s.heap.get? b = some o → (s.heap.push { cls := .type "list", data := .seq ([] : List Value).toArray }).get? b = some o := fun b o e => Heap.get?_push_of_some _ e
  show wpAny _ A.in1 (Builtin.List.listExtendWith (.ref s.heap.objs.size) (.ref r) (.ref s.heap.objs.size)) _ _ _
  have key := PySem.W.kdl_extend (prog := P) (w := w) (A := A) (s := { s with heap := s.heap.push { cls := .type "list", data := .seq ([] : List Value).toArray } })
    (R := fun (q : Result) (s' : Shared) => ∃ (h' : Heap) (tk : Nat) (acc : Array Value) (c : Nat), q = .ok (.ret (.ref s.heap.objs.size)) ∧ s' = { s with heap := h', toks := tk } ∧
      (∀ b o, s.heap.get? b = some o → h'.get? b = some o) ∧ h'.get? s.heap.objs.size = some { cls := .type "list", dict := none, data := .seq acc c, slots := #[] } ∧ ItemsOf Pv acc n)
    K hh (K.keep _ _ ok fun b _ o e => grown b o e) s.heap.objs.size (Nat.ne_of_gt lr) (Nat.ne_of_gt ld) (.ref s.heap.objs.size) 0 new
    (fun h' tk acc c hk hS' hi => ⟨h', tk, acc, c, rfl, rfl, fun b o e => hk b o (Nat.ne_of_lt (Heap.lt_size e)) (grown b o e), hS', hi⟩) hn
  refine wpAny_mono key (fun fin s' x => ?_) fun e s' x => ?_
  · cases fin with
    | done f =>
      obtain ⟨h', tk, acc, c, e, es, hk, hS', hi⟩ := x
      subst es
      cases e
      show wpAny _ A (load s.heap.objs.size >>= _) _ _ _
      exact wpAny_bind (wpAny_load hS' (wpAny_pure (h h' tk acc hk (Heap.lt_size hS') hi)))
    | again c₁ =>
      refine ⟨x.1, codeAny_mono x.2 fun q s₂ y => ?_⟩
      obtain ⟨h', tk, acc, c, e, es, hk, hS', hi⟩ := y
      subst es
      subst e
      show wpAny _ A (load s.heap.objs.size >>= _) _ _ _
      exact wpAny_bind (wpAny_load hS' (wpAny_pure (h h' tk acc hk (Heap.lt_size hS') hi)))
  · obtain ⟨_, _, _, _, e', _⟩ := x
    cases e'
theorem pair_one {h : Heap} {v : Value} {x y x' y' : Int} (a : Srt.IsPair h v x y) (b : Srt.IsPair h v x' y') : (x, y) = (x', y') := by
  obtain ⟨p, o, t, u, n, e, ho, _, hd⟩ := a
  obtain ⟨p', o', t', u', n', e', ho', _, hd'⟩ := b
  rw [e] at e'
  cases e'
  rw [ho] at ho'
  cases ho'
  rw [hd] at hd'
  cases hd'
  rfl
end
/-- pairs in a dict's order, each by the address of its tuple -/
abbrev PRow := Addr × (Int × Int)
def pairK (q : Int × Int) : List Key × V := ([.inl q.1, .inl q.2], .bl true)
section
variable {X : Cx}
def rSortedD : List V → Hp → VK → Prop := fun xs H Q => ∃ (d : Addr) (ps : List (Int × Int)), xs = [V.ref d] ∧ H d = some (.dT (ps.map pairK)) ∧
  ∀ (p : Addr) (bs : List PRow), H p = none → (bs.map Prod.snd).Perm ps → ps.Nodup → (bs.map Prod.snd).Pairwise (fun x y => SrtO.lexB y x = false) → (∀ z ∈ bs, H z.1 = some (.tup [.int z.2.1, .int z.2.2])) →
    Q (.ref p) (upd H p (.lst (bs.map fun z => V.ref z.1)))
theorem cr_sortedD (calm : X.calm = true) : CallR X (.builtin "sorted") rSortedD := by
  classical
  intro pins s σ H xs us Q I r h
  obtain ⟨d, ps, e, hd, q⟩ := h
  subst e
  rw [Vals.ref1 r]
  obtain ⟨z, hs, ks, pr, o, es, ep, ho, hx, hdt, he, hn⟩ := (show ObjOk X.prog X.w H s.heap d (.dT (ps.map pairK)) from I.hok d _ hd)
  have l1 : es.size = ks.length := size_of_entries he
  have l2 := Paired.length pr
  rw [List.length_map] at z l2
  -- the keys' tuples
  have rows : ∀ {ps : List (Int × Int)} {ks : List (List Key × Addr × Value)}, KT H (ps.map pairK) ks → ∃ bs : List PRow, ks.map (fun x => x.2.1) = bs.map Prod.fst ∧ bs.map Prod.snd = ps ∧ ks.map (·.1) = ps.map (fun q => (pairK q).1) ∧ ∀ b ∈ bs, H b.1 = some (.tup [.int b.2.1, .int b.2.2]) := by
    intro ps
    induction ps with
    | nil => intro ks q; cases q; exact ⟨[], rfl, rfl, rfl, fun b hb => by cases hb⟩
    | cons p ps ih =>
      intro ks q
      rw [List.map_cons] at q
      cases q with
      | @cons _ x _ ks hq t =>
        obtain ⟨bs, b1, b2, b3, b4⟩ := ih t
        refine ⟨(x.2.1, p) :: bs, by rw [List.map_cons, List.map_cons, b1], by rw [List.map_cons, b2], by rw [List.map_cons, List.map_cons, b3, ← hq.1], fun b hb => ?_⟩
        rcases List.mem_cons.mp hb with e | hb
        · rw [e]; exact hq.2.1
        · exact b4 b hb
  obtain ⟨bs, b1, b2, b3, b4⟩ := rows pr
  have ndp : ps.Nodup := by
    rw [b3] at hn
    exact List.Pairwise.of_map (fun q => (pairK q).1) (fun _ _ hne e => hne (congrArg (fun q => (pairK q).1) e)) hn
  have isP : ∀ b ∈ bs, Srt.IsPair s.heap (.ref b.1) b.2.1 b.2.2 := fun b hb => by
    obtain ⟨its, rv, ⟨ob, hob, hc, n, hdb⟩, _⟩ := I.tuple (X := X) (a := b.1) (xs := [.int b.2.1, .int b.2.2]) (.inl (.inl (b4 b hb)))
    cases rv with
    | cons r1 rv =>
      cases rv with
      | cons r2 rv =>
        cases rv
        obtain ⟨t1, e1⟩ := r1
        obtain ⟨t2, e2⟩ := r2
        subst e1
        subst e2
        exact ⟨b.1, ob, t1, t2, n, rfl, hob, hc, hdb⟩
  refine Calls.call_function_entry kind_sorted plain_sorted entry_sorted (args_sorted1 _) ?_
  unfold Builtin.«sorted»
  refine wpAny_bind (m := checkCount "sorted" 1 1 _) (wpAny_pure ?_)
  refine wpAny_bind (collect_src (A := X.A.in1) (kdl_raw hs hx hdt) (I.ok.hd calm) ho (by omega) fun h' tk acc kp hz it => ?_)
  have ea : acc.toList = bs.map fun b => Value.ref b.1 := by
    have hl : acc.toList.length = ks.length := by rw [Array.length_toList, it.1]; exact l1
    have hb : bs.map (fun b => Value.ref b.1) = ks.map fun x => Value.ref x.2.1 := by
      have z := congrArg (List.map Value.ref) b1
      rw [List.map_map, List.map_map] at z
      exact z.symm
    rw [hb]
    apply List.ext_getElem?
    intro j
    rw [List.getElem?_map]
    cases hj : acc.toList[j]? with
    | none =>
      have h1 := List.getElem?_eq_none_iff.mp hj
      rw [List.getElem?_eq_none (by omega)]
      rfl
    | some v =>
      obtain ⟨en, hen, hv⟩ := it.2 j v (by rw [← Array.getElem?_toList]; exact hj)
      have qe := entry_at he j
      rw [hen] at qe
      cases hb : ks[j]? with
      | none =>
        rw [hb] at qe
        exact nomatch (show some en = none from qe)
      | some b =>
        rw [hb] at qe
        have e2 : en = entryOfKey (tupleKind (mixKind X.prog X.w)) b := Option.some.inj qe
        rw [hv, e2]
        rfl
  generalize acc.toList = vs at ea
  have lvs : vs.length = ps.length := by rw [ea, List.length_map, ← b2, List.length_map]
  refine wpAny_bind (wpAny_newList ?_ (by omega))
  have hoL : (h'.push (seqObj "list" vs.toArray 0)).get? h'.objs.size = some (seqObj "list" vs.toArray 0) := Heap.get?_push_size _ rfl
  have keep1 : ∀ b u, s.heap.get? b = some u → (h'.push (seqObj "list" vs.toArray 0)).get? b = some u := fun b u e => Heap.get?_push_of_some _ (kp b u e)
  let kv : Value → Int × Int := fun v => if y : ∃ x : Int × Int, Srt.IsPair s.heap v x.1 x.2 then y.choose else (0, 0)
  have kv_eq : ∀ b ∈ bs, kv (.ref b.1) = b.2 := fun b hb => by
    have y : ∃ x : Int × Int, Srt.IsPair s.heap (.ref b.1) x.1 x.2 := ⟨b.2, isP b hb⟩
    have e : kv (.ref b.1) = y.choose := dif_pos y
    rw [e]
    have := pair_one y.choose_spec (isP b hb)
    exact this
  have hvs : ∀ v ∈ vs, ∃ b ∈ bs, v = Value.ref b.1 := fun v hv => by
    rw [ea] at hv
    obtain ⟨b, hb, e⟩ := List.mem_map.mp hv
    exact ⟨b, hb, e.symm⟩
  have hp1 : ∀ v ∈ vs, Srt.IsPair (h'.push (seqObj "list" vs.toArray 0)) v (kv v).1 (kv v).2 := fun v hv => by
    obtain ⟨b, hb, e⟩ := hvs v hv
    subst e
    rw [kv_eq b hb]
    exact (isP b hb).keeps fun c u e _ => keep1 c u e
  refine wpAny_bind (wpAny_holding (wpAny_call_entry slot_list_sort ⟨_, hoL, rfl⟩ entry_list_sort (SrtO.list_sort_ord (ltv := fun v u => SrtO.lexB (kv v) (kv u)) (SrtO.swo_lex kv) hoL (by omega) (fun h2 => SrtO.pairs_sortableO (s := { s with heap := h'.push (seqObj "list" vs.toArray 0), toks := tk }) (by omega) hp1 fun ob e c => ?_) fun out a1 a2 => ⟨_, rfl, ?_⟩) (args_list_sort _)))
  · have e' : some ob = some (seqObj "list" vs.toArray 0) := e.symm.trans hoL
    cases e'
    exact absurd (Value.type.inj c) (by decide)
  obtain ⟨c, hc⟩ := sortedHeap_at (vs := vs) (out := out.toArray) hoL
  have back : ∀ l : List Value, (∀ v ∈ l, ∃ b ∈ bs, v = Value.ref b.1) → ∃ cs : List PRow, l = cs.map (fun b => Value.ref b.1) ∧ ∀ b ∈ cs, b ∈ bs := by
    intro l
    induction l with
    | nil => intro _; exact ⟨[], rfl, fun b hb => by cases hb⟩
    | cons v l ih =>
      intro hv
      obtain ⟨b, hb, e⟩ := hv v List.mem_cons_self
      obtain ⟨cs, e1, e2⟩ := ih fun u hu => hv u (List.mem_cons_of_mem _ hu)
      exact ⟨b :: cs, by rw [List.map_cons, e, e1], fun x hx => (List.mem_cons.mp hx).elim (fun y => by rw [y]; exact hb) (e2 x)⟩
  have pmo := a2.perm
  obtain ⟨cs, ec, hcs⟩ := back out fun v hv => hvs v (pmo.mem_iff.mp hv)
  have snd_of : ∀ l : List PRow, (∀ b ∈ l, b ∈ bs) → (l.map fun b => Value.ref b.1).map kv = l.map Prod.snd := fun l hl => by
    rw [List.map_map]
    exact List.map_congr_left fun b hb => kv_eq b (hl b hb)
  have pm2 : (cs.map Prod.snd).Perm ps := by
    have y := pmo.map kv
    rw [ec, ea, snd_of cs hcs, snd_of bs fun b hb => hb, b2] at y
    exact y
  have up2 : (cs.map Prod.snd).Pairwise (fun x y => SrtO.lexB y x = false) := by
    have up : out.Pairwise fun v u => SrtO.lexB (kv u) (kv v) = false := a1
    rw [ec] at up
    refine List.pairwise_map.mpr (List.Pairwise.imp_of_mem (fun {x y} hx hy hle => ?_) (List.pairwise_map.mp up))
    have hle : SrtO.lexB (kv (Value.ref y.1)) (kv (Value.ref x.1)) = false := hle
    rw [kv_eq x (hcs x hx), kv_eq y (hcs y hy)] at hle
    exact hle
  have hn2 : H h'.objs.size = none := I.hok.fresh (Nat.le_of_lt hz)
  have hv : Vals (cs.map fun b => V.ref b.1) out.toArray.toList := by
    rw [List.toList_toArray, ec]
    have refs : ∀ l : List PRow, Vals (l.map fun b => V.ref b.1) (l.map fun b => Value.ref b.1) := by
      intro l
      induction l with
      | nil => exact .nil
      | cons b l ih => exact .cons rfl ih
    exact refs cs
  refine wpAny_pure ⟨_, rfl, .ref h'.objs.size, upd H h'.objs.size (.lst (cs.map fun b => V.ref b.1)), I.laid (t' := tk) (fun b u e => ?_) (Nat.le_of_lt hz) ?_, rfl, q _ cs hn2 pm2 ndp up2 fun b hb => b4 b (hcs b hb)⟩
  · have hlt := Heap.lt_size (kp b u e)
    show (sortedHeap (h'.push (seqObj "list" vs.toArray 0)) h'.objs.size vs out.toArray).get? b = some u
    rw [sortedHeap_old (Nat.ne_of_lt hlt) (by rw [size_push']; exact Nat.lt_succ_of_lt hlt)]
    exact keep1 b u e
  · refine ⟨?_, out.toArray.toList, c, hv, ?_⟩
    · have y := pm2.length_eq
      rw [List.length_map] at y
      rw [List.length_map, y]
      omega
    · rw [Array.toArray_toList]
      exact hc
end
end NSet
set_option maxRecDepth 100000
set_option maxHeartbeats 4000000
/-! MirPrs: a slot's own dict whose keys are pairs; starred items of displays. -/
namespace MR
open PySem L2 PyProof.Rows NSet
section
variable {X : Cx} {G : Gx} {W : WX} {pin : List Nat}
/-! ### *xs in a display -/
def iStar (A : E) (B : EA) : EA := fun ρ => (A ρ).bind fun d ρ1 => match d with
  | .lst xs => (B ρ1).bind fun ys ρ2 => .ok (xs ++ ys) ρ2
  | .tup xs => (B ρ1).bind fun ys ρ2 => .ok (xs ++ ys) ρ2
  | _ => .no
theorem q_star {A : E} {B : EA} : ∀ σ H Q, taOf G W (iStar A B) σ H Q → StX.tStar G.K (teOf G W A) (taOf G W B) σ H Q := by
  rintro σ H Q ⟨ρ, F, fp, e, h⟩
  refine ⟨ρ, F, fp, e, ?_⟩
  unfold iStar at h
  cases hA : A ρ with
  | no => rw [hA] at h; exact h.elim
  | ex c p ρ1 => rw [hA] at h; exact h
  | ok d ρ1 =>
    rw [hA] at h
    intro v H1 F1 fp1 s1 e1 r1
    have h1 := Oc.step s1 h
    cases d with
    | lst xs =>
      cases r1 with
      | @lst p vs _ f hp a z =>
        refine ⟨p, vs, rfl, .inr (SqL.of hp), ?_⟩
        refine oc_bind e1 h1 fun ws es ρ2 H2 F2 fp2 s2 e2 r2 h2 => ?_
        exact oc_okR h2 e2 (FzA.app (FzA.mono (e1.stq s2) a) r2)
    | tup xs =>
      cases r1 with
      | @tup p vs _ hp a z =>
        refine ⟨p, vs, rfl, .inl hp, ?_⟩
        refine oc_bind e1 h1 fun ws es ρ2 H2 F2 fp2 s2 e2 r2 h2 => ?_
        exact oc_okR h2 e2 (FzA.app (FzA.mono (e1.stq s2) a) r2)
    | _ => exact h1.elim
theorem a_star {e : Expr} {es : List Expr} {p : Pos} {A : E} {B : EA} (o : Ok X G W) (ha : PE X e (teOf G W A)) (hb : PA X es (taOf G W B)) (hs : starEach (.Starred e p :: es) X.env = (true, eval e X.env) :: starEach es X.env := by rfl) : PA X (.Starred e p :: es) (taOf G W (iStar A B)) := by
  have h := StX.pa_star (p := p) ha hb hs
  rw [o.K] at h
  exact PA.imp h q_star
/-! ### d = {}; d[(a, b)] = True; sorted(d) -/
def putP (ps : List (Int × Int)) (q : Int × Int) : List (Int × Int) := if (ps.any fun r => decide (r.1 = q.1) && decide (r.2 = q.2)) = true then ps else ps ++ [q]
theorem putK_pairs (ps : List (Int × Int)) (q : Int × Int) : L2.putK (ps.map prE) [.inl q.1, .inl q.2] (.bl true) = (putP ps q).map prE := by
  have same : ∀ r : Int × Int, decide ((prE r).1 = [.inl q.1, .inl q.2]) = (decide (r.1 = q.1) && decide (r.2 = q.2)) := fun r => by
    unfold prE
    by_cases h1 : r.1 = q.1 <;> by_cases h2 : r.2 = q.2 <;> simp [h1, h2]
  have anyE : ((ps.map prE).any fun kv => decide (kv.1 = [.inl q.1, .inl q.2])) = ps.any fun r => decide (r.1 = q.1) && decide (r.2 = q.2) := by
    rw [List.any_map]
    congr 1
    exact funext same
  unfold L2.putK putP
  rw [anyE]
  split
  · rw [List.map_map]
    refine List.map_congr_left fun r hr => ?_
    show (if (prE r).1 = [.inl q.1, .inl q.2] then ((prE r).1, V.bl true) else prE r) = prE r
    split <;> rfl
  · rw [List.map_append]
    rfl
theorem putP_len (ps : List (Int × Int)) (q : Int × Int) : (putP ps q).length ≤ ps.length + 1 := by
  unfold putP
  split
  · omega
  · rw [List.length_append, List.length_singleton]; omega
theorem putP_mem (ps : List (Int × Int)) (q x : Int × Int) : x ∈ putP ps q ↔ x ∈ ps ∨ x = q := by
  unfold putP
  split
  · rename_i h
    obtain ⟨r, hr, e⟩ := List.any_eq_true.mp h
    simp only [Bool.and_eq_true, decide_eq_true_eq] at e
    have : r = q := Prod.ext e.1 e.2
    exact ⟨Or.inl, fun z => z.elim id fun z => by rw [z, ← this]; exact hr⟩
  · rw [List.mem_append, List.mem_singleton]
theorem o_prs0 {pos : Pos} : PE X (.Dict [] [] pos) (toOf G W (fun ρ => .ok (.prs []) ρ)) := PE.imp pe_dnewT fun σ H Q ⟨ρ, F, fp, e, h⟩ p hp => by
  have fr : Fr H F (upd H p (.dT [])) F := Fr.new hp
  exact ocO_ok (q := fun a => a = p) h e fr (.prs upd_same (by decide) fun _ => Iff.rfl) (New0.one hp (fun f => e.ft p f hp) fun z => z)
def fPut (i : Nat) (x y : IV) (ρ : Env) : Fl := match x, y, ρ[i]? with
  | .int a, .int b, some (.ow (.prs ps)) => if ps.length < 1000 then .nx (ρ.set i (.ow (.prs (putP ps (a, b))))) else .no
  | _, _, _ => .no
def sPut (i : Nat) (A B : E) : S := fun ρ => if isOw ρ[i]? = true then (A ρ).bindS fun x ρ1 => (B ρ1).bindS fun y ρ2 => fPut i x y ρ2 else .no
theorem q_put {i : Nat} {A B : E} : ∀ D σ H, tsOf G W pin (sPut i A B) D σ H → sDPut (tVar i) (tTup (tCons (teOf G W A) (tCons (teOf G W B) tNil))) (tC (.bl true)) D σ H := by
  rintro D σ H ⟨ρ, F, fp, e, h⟩
  unfold sPut at h
  split at h
  rotate_left
  · exact h.elim
  rename_i how
  obtain ⟨d0, hd0⟩ := isOw_some how
  obtain ⟨u, g1, _⟩ := e.ow i _ hd0
  refine ⟨u, g1, ?_⟩
  refine ocS_bind e h fun x dx ρ1 H1 F1 fp1 s1 e1 r1 h1 => ?_
  refine ocS_bind e1 h1 fun y dy ρ2 H2 F2 fp2 s2 e2 r2 h2 => ?_
  refine ⟨by rw [sizeLine_eq]; simp, fun p hp => ?_⟩
  unfold fPut at h2
  split at h2
  · rename_i a b ps hps
    split at h2
    · rename_i hl
      obtain ⟨u', g1', g2⟩ := e2.ow i _ hps
      obtain rfl : u' = u := by rw [g1] at g1'; cases g1'; rfl
      have ex := r1.int_inv
      have ey := r2.int_inv
      subst ex
      subst ey
      have fr : Fr H2 F2 (upd H2 p (.tup [.int a, .int b])) F2 := Fr.new hp
      have e3 := e2.fr fr
      cases g2 with
      | @prs d _ q hd hz hq =>
        have hq' := (hq d).mpr rfl
        have hd3 : upd H2 p (.tup [.int a, .int b]) d = some (.dT (ps.map prE)) := fr.keep _ _ hd
        refine ⟨d, upd (upd H2 p (.tup [.int a, .int b])) d (.dT ((putP ps (a, b)).map prE)), rfl, ?_, ?_⟩
        · have z := DPut.t (H := upd H2 p (.tup [.int a, .int b])) (a := d) (b := p) (k := [.inl a, .inl b]) (v := .bl true) hd3 upd_same (by rw [List.length_map, sizeLine_eq]; omega)
          rw [putK_pairs ps (a, b)] at z
          exact z
        · have hl2 : (putP ps (a, b)).length ≤ 1000 := Nat.le_trans (putP_len _ _) hl
          exact h2 σ _ F2 fp2 ((fr.stp _).trans (Stp.put hq')) (e3.put hq' g1 (fun z => z) (.prs upd_same hl2 hq)) (Pn.refl _ _)
    · exact h2.elim
  · exact h2.elim
theorem s_put (o : Ok X G W) (i : Nat) {x : Str} {a b : Expr} {A B : E} {j k} {pos' pos npos tpos cpos : Pos} (ha : PE X a (teOf G W A)) (hb : PE X b (teOf G W B)) (hN : X.N[i]? = some x := by rfl)
    (hv : Vis X.env.scope x := by first | exact Or.inl rfl | exact Or.inr (Or.inl rfl) | exact Or.inr (Or.inr rfl)) (hd : (x == ("__debug__" : Str)) = false := by decide) (hcd : (x == ("__classdict__" : Str)) = false := by decide)
    (s1 : starEach [a, b] X.env = (false, eval a X.env) :: starEach [b] X.env := by rfl) (s2 : starEach [b] X.env = (false, eval b X.env) :: starEach [] X.env := by rfl)
    (hs : swapsWith (.Constant (.bool true) j cpos) (some (.Subscript (.Name x npos) (.Tuple [a, b] k tpos) pos')) pos.line X.env = pure false := by rfl) :
    PS X (.Assign [.Subscript (.Name x npos) (.Tuple [a, b] k tpos) pos'] (.Constant (.bool true) j cpos) pos) (tsOf G W pin (sPut i A B)) :=
  PS.imp (ps_dput (by have := o.hu; omega) (pe_var hN hv hd hcd) (pe_tup (pa_cons ha (pa_cons hb pa_nil s2) s1)) pe_bl hs) q_put
def insP (k : Int × Int) : List (Int × Int) → List (Int × Int)
  | [] => [k]
  | n :: ns => if SrtO.lexB k n = true then k :: n :: ns else if SrtO.lexB n k = true then n :: insP k ns else n :: ns
def srtP (ps : List (Int × Int)) : List (Int × Int) := ps.foldl (fun acc k => insP k acc) []
theorem lex_tri (p q : Int × Int) : SrtO.lexB p q = true ∨ SrtO.lexB q p = true ∨ p = q := by
  rw [SrtO.lexB_iff, SrtO.lexB_iff]
  by_cases h1 : p.1 = q.1
  · by_cases h2 : p.2 = q.2
    · exact .inr (.inr (Prod.ext h1 h2))
    · omega
  · omega
theorem lex_asym (p q : Int × Int) (h : SrtO.lexB p q = true) : ¬ SrtO.lexB q p = true := by
  rw [SrtO.lexB_iff] at h ⊢
  omega
theorem lex_trans (p q r : Int × Int) (h : SrtO.lexB p q = true) (h' : SrtO.lexB q r = true) : SrtO.lexB p r = true := by
  rw [SrtO.lexB_iff] at h h' ⊢
  omega
theorem insP_mem (k x : Int × Int) : ∀ ns : List (Int × Int), x ∈ insP k ns ↔ x = k ∨ x ∈ ns
  | [] => by simp [insP]
  | n :: ns => by
    unfold insP
    split
    · simp
    · split
      · rw [List.mem_cons, insP_mem k x ns, List.mem_cons]
        exact ⟨fun h => by rcases h with h | h | h <;> simp [h], fun h => by rcases h with h | h | h <;> simp [h]⟩
      · rename_i h1 h2
        have : k = n := ((lex_tri k n).resolve_left h1).resolve_left h2
        rw [this, List.mem_cons]
        exact ⟨fun h => .inr h, fun h => h.elim (fun z => .inl z) id⟩
theorem insP_up (k : Int × Int) : ∀ ns : List (Int × Int), ns.Pairwise (fun p q => SrtO.lexB p q = true) → (insP k ns).Pairwise (fun p q => SrtO.lexB p q = true)
  | [], _ => by simp [insP]
  | n :: ns, h => by
    unfold insP
    obtain ⟨h1, h2⟩ := List.pairwise_cons.mp h
    split
    · rename_i c
      refine List.pairwise_cons.mpr ⟨fun y hy => ?_, h⟩
      rcases List.mem_cons.mp hy with z | z
      · rw [z]; exact c
      · exact lex_trans _ _ _ c (h1 y z)
    · split
      · rename_i c
        refine List.pairwise_cons.mpr ⟨fun y hy => ?_, insP_up k ns h2⟩
        rcases (insP_mem k y ns).mp hy with z | z
        · rw [z]; exact c
        · exact h1 y z
      · exact h
theorem srtP_spec (ps : List (Int × Int)) : (srtP ps).Pairwise (fun p q => SrtO.lexB p q = true) ∧ ∀ x, x ∈ srtP ps ↔ x ∈ ps := by
  have key : ∀ (ns acc : List (Int × Int)), acc.Pairwise (fun p q => SrtO.lexB p q = true) → (ns.foldl (fun acc k => insP k acc) acc).Pairwise (fun p q => SrtO.lexB p q = true) ∧ ∀ x, x ∈ ns.foldl (fun acc k => insP k acc) acc ↔ x ∈ ns ∨ x ∈ acc := by
    intro ns
    induction ns with
    | nil => intro acc h; exact ⟨h, fun x => by simp⟩
    | cons n ns ih =>
      intro acc h
      obtain ⟨h1, h2⟩ := ih (insP n acc) (insP_up n acc h)
      refine ⟨h1, fun x => ?_⟩
      rw [List.foldl_cons, h2, insP_mem, List.mem_cons]
      exact ⟨fun z => by rcases z with z | z | z <;> simp [z], fun z => by rcases z with (z | z) | z <;> simp [z]⟩
  obtain ⟨h1, h2⟩ := key ps [] List.Pairwise.nil
  exact ⟨h1, fun x => by unfold srtP; rw [h2]; simp⟩
def pI (q : Int × Int) : IV := .tup [.int q.1, .int q.2]
def iSortP (i : Nat) : E := fun ρ => match ρ[i]? with
  | some (.ow (.prs ps)) => .ok (.lst ((srtP ps).map pI)) ρ
  | _ => .no
theorem iSortP_fz (i : Nat) : ∀ ρ d ρ', iSortP i ρ = .ok d ρ' → canFz d = true := by
  intro ρ d ρ' h
  unfold iSortP at h
  split at h <;> cases h
  rfl
theorem fz_pairs {F : AP1} {H : Hp} : ∀ (bs : List PRow), (∀ z ∈ bs, H z.1 = some (.tup [.int z.2.1, .int z.2.2])) → FzA G F H (bs.map fun z => V.ref z.1) (bs.map fun z => pI z.2)
  | [], _ => .nil
  | b :: bs, h => .cons (.tup (.inl (.inl (h b List.mem_cons_self))) (.cons (.int _) (.cons (.int _) .nil)) (show (2 : Nat) ≤ big by decide)) (fz_pairs bs fun z hz => h z (List.mem_cons_of_mem _ hz))
theorem q_sortP {i : Nat} : ∀ σ H Q, toOf G W (iSortP i) σ H Q → tCB rSortedD (tCons (tVar i) tNil) σ H Q := by
  rintro σ H Q ⟨ρ, F, fp, e, h⟩
  unfold iSortP at h
  split at h
  · rename_i ps hps
    obtain ⟨u, g1, g2⟩ := e.ow i _ hps
    refine ⟨u, g1, ?_⟩
    cases g2 with
    | @prs d _ q hd hz hq =>
      refine ⟨d, ps, rfl, hd, fun p bs hp pm nd up tups => ?_⟩
      have strict : (bs.map Prod.snd).Pairwise (fun p q => SrtO.lexB p q = true) := by
        have nd2 := pm.nodup_iff.mpr nd
        refine List.Pairwise.imp_of_mem (fun {x y} _ _ hxy => ?_) (List.Pairwise.and up nd2)
        rcases lex_tri x y with z | z | z
        · exact z
        · rw [hxy.1] at z; cases z
        · exact absurd z hxy.2
      have eq : bs.map Prod.snd = srtP ps := up_unique (r := fun p q => SrtO.lexB p q = true) lex_asym _ _ strict (srtP_spec ps).1 fun x => by rw [pm.mem_iff, (srtP_spec ps).2]
      have ei : bs.map (fun z => pI z.2) = (srtP ps).map pI := by rw [← eq, List.map_map]; rfl
      have fz := fz_pairs (G := G) (F := F) bs tups
      rw [ei] at fz
      refine ocO_new h e hp fz ?_
      have l := pm.length_eq
      rw [List.length_map] at l
      rw [List.length_map, l]
      exact Nat.le_trans hz (by decide)
  · exact h.elim
theorem o_sortP (o : Ok X G W) (i : Nat) {x : Str} {p npos pos : Pos} (hg : Gl X "sorted") (hm : X.mg "sorted" = none) (hN : X.N[i]? = some x := by rfl)
    (hv : Vis X.env.scope x := by first | exact Or.inl rfl | exact Or.inr (Or.inl rfl) | exact Or.inr (Or.inr rfl)) (hd : (x == ("__debug__" : Str)) = false := by decide) (hcd : (x == ("__classdict__" : Str)) = false := by decide)
    (hs : starEach [.Name x npos] X.env = [(false, eval (.Name x npos) X.env)] := by rfl) : PE X (.Call (.Name "sorted" p) [.Name x npos] [] pos) (toOf G W (iSortP i)) :=
  PE.imp (pe_callB (cr_sortedD o.calm) hg hm PyProof.Rows.boot_sorted (pa_cons (pe_var hN hv hd hcd) pa_nil hs) (by decide) (by decide) hs) q_sortP
theorem m_sortP (o : Ok X G W) (i : Nat) {x : Str} {p npos pos : Pos} (hg : Gl X "sorted") (hm : X.mg "sorted" = none) (hN : X.N[i]? = some x := by rfl)
    (hv : Vis X.env.scope x := by first | exact Or.inl rfl | exact Or.inr (Or.inl rfl) | exact Or.inr (Or.inr rfl)) (hd : (x == ("__debug__" : Str)) = false := by decide) (hcd : (x == ("__classdict__" : Str)) = false := by decide)
    (hs : starEach [.Name x npos] X.env = [(false, eval (.Name x npos) X.env)] := by rfl) : PE X (.Call (.Name "sorted" p) [.Name x npos] [] pos) (teOf G W (iSortP i)) := m_frz (o_sortP o i hg hm hN hv hd hcd hs) (iSortP_fz i)
end
end MR
set_option maxRecDepth 100000
set_option maxHeartbeats 4000000
/-! MirLc2: [e for x in xs if .. for y in ys if ..]. -/
namespace MR
open PySem L2 PyProof.Rows NSet
section
variable {X : Cx} {G : Gx} {W : WX}
def lc2Loop (t : TM) (ts : EB) (M1 : EL) (t1 : TM) (ts1 : EB) (el : E) (own own1 : List Nat) : List IV → Env → Option (List IV × Env)
  | [], ρ => some ([], ρ)
  | d :: ds, ρ => match t d (wipeE ρ own) with
    | none => none
    | some ρa => match ts ρa with
      | .ok false ρb => lc2Loop t ts M1 t1 ts1 el own own1 ds (restE ρ ρb own)
      | .ok true ρb => (match M1 ρb with
        | .ok es ρc => (match lcLoop t1 ts1 el own1 es ρc with
          | .ok ys ρd => (lc2Loop t ts M1 t1 ts1 el own own1 ds (restE ρ ρd own)).map fun r => (ys ++ r.1, r.2)
          | _ => none)
        | _ => none)
      | _ => none
def iLc2 (M : EL) (t : TM) (ts : EB) (M1 : EL) (t1 : TM) (ts1 : EB) (el : E) (own own1 : List Nat) : E := fun ρ => (M ρ).bind fun ds ρ1 => match lc2Loop t ts M1 t1 ts1 el own own1 ds ρ1 with
  | some r => if r.1.length ≤ big then .ok (.lst r.1) r.2 else .no
  | none => .no
theorem iLc2_fz (M : EL) (t : TM) (ts : EB) (M1 : EL) (t1 : TM) (ts1 : EB) (el : E) (own own1 : List Nat) : ∀ ρ d ρ', iLc2 M t ts M1 t1 ts1 el own own1 ρ = .ok d ρ' → canFz d = true := by
  intro ρ d ρ' h
  obtain ⟨ds, ρ1, _, h1⟩ := Rz.bind_ok h
  split at h1
  · split at h1
    · cases h1; rfl
    · cases h1
  · cases h1
/-- where a comprehension stands: what was, what is, the new list -/
structure LcS (G : Gx) (H1 : Hp) (F1 : AP1) (fp1 : FPt) (D : Addr) (H : Hp) (F : AP1) (fp : FPt) (acc : List V) (xs : List IV) : Prop where
  stp : Stp H1 F1 (un fp1) H F (un fp)
  at_ : H D = some (.lst acc)
  nf : ¬ F D
  np : ¬ un fp D
  fz : FzA G F H acc xs
theorem LcS.step {H1 H H' : Hp} {F1 F F' : AP1} {fp1 fp fp' : FPt} {D : Addr} {acc : List V} {xs : List IV} (w : LcS G H1 F1 fp1 D H F fp acc xs) (s : Stp H F (un fp) H' F' (un fp')) (q : Stq H F H' F') : LcS G H1 F1 fp1 D H' F' fp' acc xs := by
  refine ⟨w.stp.trans s, s.keep _ _ w.at_ w.np, fun f => ?_, fun f => ?_, w.fz.mono q⟩
  · rcases s.fnew D f with g | g | g
    · exact w.nf g
    · exact w.np g
    · rw [w.at_] at g; cases g
  · rcases s.pnew D f with g | g
    · exact w.np g
    · rw [w.at_] at g; cases g
theorem LcS.add {H1 H : Hp} {F1 F : AP1} {fp1 fp : FPt} {D : Addr} {acc : List V} {xs : List IV} {v : V} {y : IV} (w : LcS G H1 F1 fp1 D H F fp acc xs) (hD : H1 D = none) (fv : Fz G F H v y) :
    Stq H F (upd H D (.lst (acc ++ [v]))) F ∧ LcS G H1 F1 fp1 D (upd H D (.lst (acc ++ [v]))) F fp (acc ++ [v]) (xs ++ [y]) := by
  have q5 : Stq H F (upd H D (.lst (acc ++ [v]))) F := by
    refine ⟨fun a o z f => ?_, fun a o z mm => ?_, fun _ f => f⟩
    · rw [upd_ne (fun q => w.nf (by rw [← q]; exact f))]; exact z
    · rw [upd_ne (fun q => by rw [q, w.at_] at z; cases z; exact mm)]; exact z
  refine ⟨q5, ⟨fun a o z n => ?_, w.stp.frm, w.stp.fnew, w.stp.pnew, fun a z => ?_⟩, upd_same, w.nf, w.np, (FzA.snoc w.fz fv).mono q5⟩
  · have : a ≠ D := fun q => by rw [q, hD] at z; cases z
    rw [upd_ne this]; exact w.stp.keep a o z n
  · by_cases hp : a = D
    · rw [hp]; exact hD
    · rw [upd_ne hp] at z; exact w.stp.dom a z
theorem LcS.envA {σ : L2.St} {ρ : Env} {H1 H : Hp} {F1 F : AP1} {fp1 fp : FPt} {D : Addr} {acc : List V} {xs : List IV} {v : V} (w : LcS G H1 F1 fp1 D H F fp acc xs) (e : EnvR G F H σ ρ fp) : EnvR G F (upd H D (.lst (acc ++ [v]))) σ ρ fp :=
  e.upd w.nf w.np fun u z => by
    rw [w.at_] at z
    cases z
    exact fun z => z
/-- between the inner turns -/
structure InW (G : Gx) (σ2 : L2.St) (H1 : Hp) (F1 : AP1) (fp1 : FPt) (F0 : AP1) (H0 : Hp) (es : List IV) (t1 : TM) (ts1 : EB) (el : E) (own1 : List Nat) (all : List IV) (ρd : Env) (D : Addr) (j : Nat) (H : Hp) (ρ : Env) (F : AP1) (fp : FPt) (acc : List V) (xs : List IV) : Prop where
  s : LcS G H1 F1 fp1 D H F fp acc xs
  env : EnvR G F H σ2 ρ fp
  st0 : Stq H0 F0 H F
  rest : ∃ ys, lcLoop t1 ts1 el own1 (es.drop j) ρ = .ok ys ρd ∧ xs ++ ys = all
theorem q_in {t1 : TM} {ts1 : EB} {el : E} {own1 l1 : List Nat} (hl : ∀ i ∈ l1, i ∈ own1) {σ2 : L2.St} {H1 : Hp} {F1 : AP1} {fp1 : FPt} {F0 : AP1} {H0 : Hp} {es : List IV} {all : List IV} {ρd : Env} {D : Addr} {Nx : Hp → Prop} {J1 : It}
    (hD : H1 D = none) (feeds : Feeds G J1 F0 H0 es) (hall : all.length ≤ big)
    (fin : ∀ H F fp acc, LcS G H1 F1 fp1 D H F fp acc all → EnvR G F H σ2 ρd fp → Stq H0 F0 H F → Nx H) {ρ : Env} {H : Hp} {F : AP1} {fp : FPt} {acc : List V} {xs : List IV} (w0 : InW G σ2 H1 F1 fp1 F0 H0 es t1 ts1 el own1 all ρd D 0 H ρ F fp acc xs) :
    ∃ W1 : Nat → Nat → Hp → Prop, (∃ m, W1 0 m H) ∧ ∀ j k H, W1 j k H →
      (J1.stop j H ∧ Nx H) ∨ (J1.go j H ∧ ∃ Nx1 : Hp → Prop, (∀ H', Nx1 H' → ∃ k', k' < k ∧ W1 (j + 1) k' H') ∧ ∀ x H', J1.yld j H x H' → tgOf G l1 t1 x (wipe σ2 own1) H' fun σ3 H5 => wipe σ3 own1 = wipe σ2 own1 ∧ ttOf G W0 ts1 σ3 H5 fun b H6 =>
        if b = true then teOf G W0 el σ3 H6 fun y H7 => ∃ acc, H7 D = some (.lst acc) ∧ acc.length < sizeLine ∧ Nx1 (upd H7 D (.lst (acc ++ [y]))) else Nx1 H6) := by
  refine ⟨fun i m H => m = es.length - i ∧ i ≤ es.length ∧ ∃ ρ F fp acc xs, InW G σ2 H1 F1 fp1 F0 H0 es t1 ts1 el own1 all ρd D i H ρ F fp acc xs, ⟨es.length, rfl, Nat.zero_le _, ρ, F, fp, acc, xs, w0⟩, ?_⟩
  rintro i m H' ⟨rfl, hi, ρ, F, fp, acc, xs, w⟩
  have fd := feeds F H' w.st0
  obtain ⟨ys, rest, hys⟩ := w.rest
  by_cases hlt : i < es.length
  · obtain ⟨d, hd⟩ : ∃ d, es[i]? = some d := ⟨es[i], List.getElem?_eq_getElem hlt⟩
    obtain ⟨go, yl⟩ := fd.2 i d hd
    have hdrop : es.drop i = d :: es.drop (i + 1) := by
      rw [List.drop_eq_getElem_cons hlt]
      congr 1
      rw [List.getElem?_eq_getElem hlt] at hd
      exact Option.some.inj hd
    refine Or.inr ⟨go, fun H2 => i + 1 ≤ es.length ∧ ∃ ρ F fp acc xs, InW G σ2 H1 F1 fp1 F0 H0 es t1 ts1 el own1 all ρd D (i + 1) H2 ρ F fp acc xs, fun H2 q => ⟨es.length - (i + 1), by omega, rfl, q⟩, ?_⟩
    intro x H2 y
    obtain ⟨F2, fr, fx⟩ := yl x H2 y
    rw [hdrop] at rest
    have e2 : EnvR G F2 H2 σ2 ρ fp := w.env.fr fr
    have w2 := w.s.step (fr.stp _) fr.stq
    simp only [lcLoop] at rest
    refine ⟨wipeE ρ own1, F2, fp, d, e2.wipe own1, fx, ?_⟩
    cases ht : t1 d (wipeE ρ own1) with
    | none => rw [ht] at rest; cases rest
    | some ρa =>
      rw [ht] at rest
      intro σ3 fp2 e3 p3 so
      have hw := wipe_eq so hl
      refine ⟨hw, ρa, F2, fp2, e3, ?_⟩
      have st3 : Stp H2 F2 (un fp) H2 F2 (un fp2) := ⟨fun _ _ z _ => z, fun _ z => z, fun _ z => Or.inl z, fun a z => Or.inl (p3 a z), fun _ z => z⟩
      have w3 := w2.step st3 (Stq.refl _ _)
      cases hts : ts1 ρa with
      | no => simp only [hts] at rest; cases rest
      | ex c p ρb => simp only [hts] at rest; cases rest
      | ok b ρb =>
        simp only [hts] at rest
        intro b' H3 F3 fp3 s3 e4 rb
        obtain rfl : b' = b := rb
        have w4 := w3.step s3 (e3.stq s3)
        have q3 : Stq H' F H3 F3 := fr.stq.trans (e3.stq s3)
        cases b' with
        | false =>
          simp only [Bool.false_eq_true, if_false]
          refine ⟨by omega, restE ρ ρb own1, F3, fp3, acc, xs, w4, e4.rest hw fun j dj z => ?_, w.st0.trans q3, ys, rest, hys⟩
          obtain ⟨v, g1, g2⟩ := w.env.fz j dj z
          exact ⟨v, g1, g2.mono q3⟩
        | true =>
          simp only [if_true]
          refine ⟨ρb, F3, fp3, e4, ?_⟩
          cases hel : el ρb with
          | no => simp only [hel] at rest; cases rest
          | ex c p ρc => simp only [hel] at rest; cases rest
          | ok y ρc =>
            simp only [hel] at rest
            obtain ⟨zs, ρz, rest1, rest2⟩ := Rz.bind_ok rest
            cases rest2
            intro v H4 F4 fp4 s4 e5 fv
            have w5 := w4.step s4 (e4.stq s4)
            have q4 : Stq H' F H4 F4 := q3.trans (e4.stq s4)
            obtain ⟨q5, w6⟩ := w5.add hD fv
            have hlen : acc.length < big := by
              have z := w.s.fz.len
              rw [← hys, List.length_append, List.length_cons] at hall
              omega
            have e6 : EnvR G F4 (upd H4 D (.lst (acc ++ [v]))) σ2 (restE ρ ρc own1) fp4 := w5.envA (e5.rest hw fun j dj z => by
              obtain ⟨v, g1, g2⟩ := w.env.fz j dj z
              exact ⟨v, g1, g2.mono q4⟩)
            exact ⟨acc, w5.at_, Nat.lt_of_lt_of_le hlen big_line, by omega, restE ρ ρc own1, F4, fp4, acc ++ [v], xs ++ [y], w6, e6, (w.st0.trans q4).trans q5, zs, rest1, by rw [List.append_assoc]; exact hys⟩
  · refine Or.inl ⟨fd.1 i (by omega), ?_⟩
    have hn : es.drop i = [] := List.drop_eq_nil_iff.mpr (by omega)
    rw [hn] at rest
    cases rest
    rw [List.append_nil] at hys
    subst hys
    exact fin H' F fp acc w.s w.env w.st0
/-- between the outer turns -/
structure OutW (G : Gx) (σ : L2.St) (H1 : Hp) (F1 : AP1) (fp1 : FPt) (ds : List IV) (t : TM) (ts : EB) (M1 : EL) (t1 : TM) (ts1 : EB) (el : E) (own own1 : List Nat) (all : List IV) (ρe : Env) (D : Addr) (i : Nat) (H : Hp) (ρ : Env) (F : AP1) (fp : FPt) (acc : List V) (xs : List IV) : Prop where
  s : LcS G H1 F1 fp1 D H F fp acc xs
  env : EnvR G F H σ ρ fp
  rest : ∃ ys, lc2Loop t ts M1 t1 ts1 el own own1 (ds.drop i) ρ = some (ys, ρe) ∧ xs ++ ys = all
theorem q_lc2 {M : EL} {t : TM} {ts : EB} {M1 : EL} {t1 : TM} {ts1 : EB} {el : E} {own own1 l l1 : List Nat} (hl : ∀ i ∈ l, i ∈ own) (hl1 : ∀ i ∈ l1, i ∈ own1) (ho : ∀ i ∈ own1, i ∈ own) : ∀ σ H Q, toOf G W (iLc2 M t ts M1 t1 ts1 el own own1) σ H Q →
    tLc2 (tiOf G W M) (tgOf G l t) (ttOf G W0 ts) (tiOf G W0 M1) (tgOf G l1 t1) (ttOf G W0 ts1) (teOf G W0 el) own own1 σ H Q := by
  rintro σ H Q ⟨ρ, F, fp, e, h⟩
  refine ocO_bind e h fun J ds ρ1 H1 F1 fp1 s1 e1 r1 h1 => ?_
  obtain ⟨feeds, hbig⟩ := r1
  cases hall : lc2Loop t ts M1 t1 ts1 el own own1 ds ρ1 with
  | none => simp only [hall] at h1; exact h1.elim
  | some r =>
    obtain ⟨all, ρe⟩ := r
    simp only [hall] at h1
    by_cases hsz : all.length ≤ big
    rotate_left
    · rw [if_neg hsz] at h1; exact h1.elim
    rw [if_pos hsz] at h1
    intro D hD
    refine ⟨fun i m H => m = ds.length - i ∧ i ≤ ds.length ∧ ∃ ρ F fp acc xs, OutW G σ H1 F1 fp1 ds t ts M1 t1 ts1 el own own1 all ρe D i H ρ F fp acc xs, ⟨ds.length, rfl, Nat.zero_le _, ρ1, F1, fp1, [], [], ?_⟩, ?_⟩
    · exact ⟨⟨Stp.new hD, upd_same, fun f => e1.ft D f hD, fun ⟨i, q⟩ => e1.tr i D q hD, .nil⟩, e1.fr (Fr.new hD), all, hall, rfl⟩
    rintro i m H' ⟨rfl, hi, ρ, F, fp, acc, xs, w⟩
    have fd := feeds F H' (e1.stq w.s.stp)
    obtain ⟨ys, rest, hys⟩ := w.rest
    by_cases hlt : i < ds.length
    · obtain ⟨d, hd⟩ : ∃ d, ds[i]? = some d := ⟨ds[i], List.getElem?_eq_getElem hlt⟩
      obtain ⟨go, yl⟩ := fd.2 i d hd
      have hdrop : ds.drop i = d :: ds.drop (i + 1) := by
        rw [List.drop_eq_getElem_cons hlt]
        congr 1
        rw [List.getElem?_eq_getElem hlt] at hd
        exact Option.some.inj hd
      refine Or.inr ⟨go, fun H2 => i + 1 ≤ ds.length ∧ ∃ ρ F fp acc xs, OutW G σ H1 F1 fp1 ds t ts M1 t1 ts1 el own own1 all ρe D (i + 1) H2 ρ F fp acc xs, fun H2 q => ⟨ds.length - (i + 1), by omega, rfl, q⟩, ?_⟩
      intro x H2 y
      obtain ⟨F2, fr, fx⟩ := yl x H2 y
      rw [hdrop] at rest
      have e2 : EnvR G F2 H2 σ ρ fp := w.env.fr fr
      have w2 := w.s.step (fr.stp _) fr.stq
      simp only [lc2Loop] at rest
      refine ⟨wipeE ρ own, F2, fp, d, e2.wipe own, fx, ?_⟩
      cases ht : t d (wipeE ρ own) with
      | none => rw [ht] at rest; cases rest
      | some ρa =>
        rw [ht] at rest
        intro σ2 fp2 e3 p3 so
        have hw := wipe_eq so hl
        refine ⟨hw, ρa, F2, fp2, e3, ?_⟩
        have st3 : Stp H2 F2 (un fp) H2 F2 (un fp2) := ⟨fun _ _ z _ => z, fun _ z => z, fun _ z => Or.inl z, fun a z => Or.inl (p3 a z), fun _ z => z⟩
        have w3 := w2.step st3 (Stq.refl _ _)
        cases hts : ts ρa with
        | no => simp only [hts] at rest; cases rest
        | ex c p ρb => simp only [hts] at rest; cases rest
        | ok b ρb =>
          simp only [hts] at rest
          intro b' H3 F3 fp3 s3 e4 rb
          obtain rfl : b' = b := rb
          have w4 := w3.step s3 (e3.stq s3)
          have q3 : Stq H' F H3 F3 := fr.stq.trans (e3.stq s3)
          cases b' with
          | false =>
            simp only [Bool.false_eq_true, if_false]
            refine ⟨by omega, restE ρ ρb own, F3, fp3, acc, xs, w4, e4.rest hw fun j dj z => ?_, ys, rest, hys⟩
            obtain ⟨v, g1, g2⟩ := w.env.fz j dj z
            exact ⟨v, g1, g2.mono q3⟩
          | true =>
            simp only [if_true]
            refine ⟨ρb, F3, fp3, e4, ?_⟩
            cases hm : M1 ρb with
            | no => simp only [hm] at rest; cases rest
            | ex c p ρc => simp only [hm] at rest; cases rest
            | ok es ρc =>
              simp only [hm] at rest
              cases hin : lcLoop t1 ts1 el own1 es ρc with
              | no => simp only [hin] at rest; cases rest
              | ex c p ρd => simp only [hin] at rest; cases rest
              | ok zs ρd =>
                simp only [hin, Option.map_eq_some_iff] at rest
                obtain ⟨⟨us, ρu⟩, rest1, rest2⟩ := rest
                cases rest2
                intro J1 H4 F4 fp4 s4 e5 r5
                obtain ⟨feeds1, _⟩ := r5
                have w5 := w4.step s4 (e4.stq s4)
                have q4 : Stq H' F H4 F4 := q3.trans (e4.stq s4)
                refine q_in (all := xs ++ zs) hl1 hD feeds1 ?_ (fun H5 F5 fp5 acc5 w6 e6 q6 => ?_) (ρ := ρc) (acc := acc) (xs := xs) ⟨w5, e5, Stq.refl _ _, zs, by rw [List.drop_zero]; exact hin, rfl⟩
                · rw [← hys, List.length_append, List.length_append] at hsz
                  rw [List.length_append]
                  omega
                · refine ⟨by omega, restE ρ ρd own, F5, fp5, acc5, xs ++ zs, w6, e6.rest hw fun j dj z => ?_, us, rest1, by rw [List.append_assoc]; exact hys⟩
                  obtain ⟨v, g1, g2⟩ := w.env.fz j dj z
                  exact ⟨v, g1, g2.mono (q4.trans q6)⟩
    · refine Or.inl ⟨fd.1 i (by omega), ?_⟩
      have hn : ds.drop i = [] := List.drop_eq_nil_iff.mpr (by omega)
      rw [hn] at rest
      cases rest
      rw [List.append_nil] at hys
      subst hys
      have h2 : OcO G W σ H1 F1 fp1 (.ok (.lst xs) ρe) Q := h1
      refine h2 (.ref D) H' F fp (fun a => a = D) w.s.stp w.env (.lst w.s.at_ w.s.fz (by rw [w.s.fz.len]; exact hsz) fun _ => Iff.rfl) ⟨?_, ?_, ?_, ?_, ?_⟩
      · intro a z; rw [z]; exact hD
      · intro a z q; rw [z, w.s.at_] at q; cases q
      · intro a z; rw [z]; exact w.s.nf
      · intro a z; rw [z]; exact w.s.np
      · intro a o z q; rw [z, w.s.at_] at q; cases q; exact fun z => z
theorem o_lc2 (o : Ok X G W) {elt tg iter tg1 iter1 : Expr} {ifs ifs1 : List Expr} {scope : Scope} {own : List (Str × Nat)} {own1 : List Nat} {pos : Pos} {M M1 : EL} {t t1 : TM} {l l1 : List Nat} {ts ts1 : EB} {el : E} (hN : X.N.Nodup) (hi : PI X tg iter (tiOf G W M)) (ok : BlkOk X.N X.env.scope scope own)
    (hg : ∀ (s : Shared) (H : Hp) (C : Addr) (cl : List (Str × Addr)) (fp : List Addr), PG (X.blk s H scope (compEnvC scope cl C X.env) fp) tg (tgOf G l t)) (ht : ∀ (s : Shared) (H : Hp) (C : Addr) (cl : List (Str × Addr)) (fp : List Addr), PTs (X.blk s H scope (compEnvC scope cl C X.env) fp) ifs (ttOf G W0 ts))
    (hi1 : ∀ (s : Shared) (H : Hp) (C : Addr) (cl : List (Str × Addr)) (fp : List Addr), PI (X.blk s H scope (compEnvC scope cl C X.env) fp) tg1 iter1 (tiOf G W0 M1))
    (hg1 : ∀ (s : Shared) (H : Hp) (C : Addr) (cl : List (Str × Addr)) (fp : List Addr), PG (X.blk s H scope (compEnvC scope cl C X.env) fp) tg1 (tgOf G l1 t1)) (ht1 : ∀ (s : Shared) (H : Hp) (C : Addr) (cl : List (Str × Addr)) (fp : List Addr), PTs (X.blk s H scope (compEnvC scope cl C X.env) fp) ifs1 (ttOf G W0 ts1))
    (he : ∀ (s : Shared) (H : Hp) (C : Addr) (cl : List (Str × Addr)) (fp : List Addr), PE (X.blk s H scope (compEnvC scope cl C X.env) fp) elt (teOf G W0 el)) (hl : ∀ i ∈ l, i ∈ own.map (·.2) := by decide) (hl1 : ∀ i ∈ l1, i ∈ own1 := by decide) (ho : ∀ i ∈ own1, i ∈ own.map (·.2) := by decide)
    (hs : ∀ x, foldedSetIterable iter X.env x = pure x := by intro _; rfl) (hs1 : ∀ env x, foldedSetIterable iter1 env x = pure x := by intro _ _; rfl) :
    PE X (.ListComp elt [⟨tg, iter, ifs, 0⟩, ⟨tg1, iter1, ifs1, 0⟩] scope pos) (toOf G W (iLc2 M t ts M1 t1 ts1 el (own.map (·.2)) own1)) :=
  PE.imp (pe_lc2 o.calm hN hi ok ho hg ht hi1 hg1 ht1 he hs hs1) (q_lc2 hl hl1 ho)
section
variable {pin : List Nat} (o : Ok X G W) (i : Nat) {y : Str} {py : Pos} {elt tg iter tg1 iter1 : Expr} {ifs ifs1 : List Expr} {scope : Scope} {own : List (Str × Nat)} {own1 : List Nat} {pos spos : Pos} {M M1 : EL} {t t1 : TM} {l l1 : List Nat} {ts ts1 : EB} {el : E} (hN : X.N.Nodup) (hi : PI X tg iter (tiOf G W M)) (ok : BlkOk X.N X.env.scope scope own)
  (hg : ∀ (s : Shared) (H : Hp) (C : Addr) (cl : List (Str × Addr)) (fp : List Addr), PG (X.blk s H scope (compEnvC scope cl C X.env) fp) tg (tgOf G l t)) (ht : ∀ (s : Shared) (H : Hp) (C : Addr) (cl : List (Str × Addr)) (fp : List Addr), PTs (X.blk s H scope (compEnvC scope cl C X.env) fp) ifs (ttOf G W0 ts))
  (hi1 : ∀ (s : Shared) (H : Hp) (C : Addr) (cl : List (Str × Addr)) (fp : List Addr), PI (X.blk s H scope (compEnvC scope cl C X.env) fp) tg1 iter1 (tiOf G W0 M1))
  (hg1 : ∀ (s : Shared) (H : Hp) (C : Addr) (cl : List (Str × Addr)) (fp : List Addr), PG (X.blk s H scope (compEnvC scope cl C X.env) fp) tg1 (tgOf G l1 t1)) (ht1 : ∀ (s : Shared) (H : Hp) (C : Addr) (cl : List (Str × Addr)) (fp : List Addr), PTs (X.blk s H scope (compEnvC scope cl C X.env) fp) ifs1 (ttOf G W0 ts1))
  (he : ∀ (s : Shared) (H : Hp) (C : Addr) (cl : List (Str × Addr)) (fp : List Addr), PE (X.blk s H scope (compEnvC scope cl C X.env) fp) elt (teOf G W0 el)) (hl : ∀ i ∈ l, i ∈ own.map (·.2) := by decide) (hl1 : ∀ i ∈ l1, i ∈ own1 := by decide) (ho : ∀ i ∈ own1, i ∈ own.map (·.2) := by decide)
  (hy : X.N[i]? = some y := by rfl) (hyl : X.env.scope.names.lookup y = some .local := by rfl) (hp : i ∉ pin := by decide)
  (hsw : swapsWith (.ListComp elt [⟨tg, iter, ifs, 0⟩, ⟨tg1, iter1, ifs1, 0⟩] scope pos) (some (.Name y py)) spos.line X.env = pure true := by rfl) (hs : ∀ x, foldedSetIterable iter X.env x = pure x := by intro _; rfl) (hs1 : ∀ env x, foldedSetIterable iter1 env x = pure x := by intro _ _; rfl)
include o hN hi ok hg ht hi1 hg1 ht1 he hl hl1 ho hy hyl hp hsw hs hs1
theorem s_setLc2O : PS X (.Assign [.Name y py] (.ListComp elt [⟨tg, iter, ifs, 0⟩, ⟨tg1, iter1, ifs1, 0⟩] scope pos) spos) (tsOf G W pin (sSetO i (iLc2 M t ts M1 t1 ts1 el (own.map (·.2)) own1))) :=
  PS.imp (ps_setLc2 o.calm hN hy hyl hsw hi ok ho hg ht hi1 hg1 ht1 he hs hs1) fun D σ H h => q_lc2 hl hl1 ho _ _ _ (q_setO hp D σ H h)
theorem s_setLc2 : PS X (.Assign [.Name y py] (.ListComp elt [⟨tg, iter, ifs, 0⟩, ⟨tg1, iter1, ifs1, 0⟩] scope pos) spos) (tsOf G W pin (sSet i (iLc2 M t ts M1 t1 ts1 el (own.map (·.2)) own1))) :=
  PS.imp (ps_setLc2 o.calm hN hy hyl hsw hi ok ho hg ht hi1 hg1 ht1 he hs hs1) fun D σ H h => q_lc2 hl hl1 ho _ _ _ (q_frz (iLc2_fz _ _ _ _ _ _ _ _ _) _ _ _ (q_set hp D σ H h))
end
end
end MR
set_option maxRecDepth 100000
set_option maxHeartbeats 4000000
/-! MirPar: a, b = x, y where a name is a cell. -/
namespace MR
open PySem L2 PyProof.Rows
section
variable {X : Cx} {G : Gx} {W : WX} {pin : List Nat}
theorem q_par2X {i j : Nat} {ka kb : Bool} {A B : E} (hp : i ∉ pin) (hp' : j ∉ pin) : ∀ D σ H, tsOf G W pin (sPar2 i ka A j kb B) D σ H → tAsg (tTup (tCons (tkOf G W ka A) (tCons (tkOf G W kb B) tNil))) (gTup G.K 2 (gCons (gName i) (gCons (gName j) gNil))) D σ H := by
  rintro D σ H ⟨ρ, F, fp, e, h⟩
  refine ocS_bindK (Stp.refl _ _ _) e h fun x a ρ1 H1 F1 fp1 q1 s1 e1 r1 h1 => ?_
  refine ocS_bindK s1 e1 h1 fun y b ρ2 H2 F2 fp2 q2 s2 e2 r2 h2 => ?_
  refine ⟨by rw [sizeLine_eq]; simp, fun p hq => ⟨p, [x, y], rfl, .inl (.inl upd_same), rfl, x, [y], rfl, y, [], rfl, rfl, ?_⟩⟩
  have fr : Fr H2 F2 (upd H2 p (.tup [x, y])) F2 := Fr.new hq
  have s2' := s2.trans (fr.stp (un fp2))
  have r1' := r1.step e1 s2'
  have r2s := r2.step e2 (fr.stp (un fp2))
  have e2' := e2.fr fr
  have e3 := e2'.setK (i := i) r1'
  have r2' := r1'.set (i := i) r2s (r1.apart r2)
  have s3 : Stp H F (un fp) (upd H2 p (.tup [x, y])) F2 (un fun jj => if ka = true ∧ jj = i then q1 else fp2 jj) := (s1.trans s2').setK r1.old
  have s4 : Stp H F (un fp) (upd H2 p (.tup [x, y])) F2 (un fun jj => if kb = true ∧ jj = j then q2 else if ka = true ∧ jj = i then q1 else fp2 jj) := s3.setK fun a e p => s1.dom a (r2.old a e p)
  exact h2 _ _ F2 _ s4 (e3.setK (i := j) r2') ((pn_set i _ hp).trans (pn_set j _ hp'))
theorem s_par2X (o : Ok X G W) (i j : Nat) {x y : Str} {a b : Expr} {ka kb : Bool} {A B : E} {px py pt pos : Pos} {kt k2 pt2} (hN : X.N.Nodup) (ha : PE X a (tkOf G W ka A)) (hb : PE X b (tkOf G W kb B)) (hi : X.N[i]? = some x := by rfl) (hj : X.N[j]? = some y := by rfl)
    (hx : Loc X.env.scope x := by first | exact Or.inl rfl | exact Or.inr rfl) (hfx : X.fn x = true ∨ X.env.scope.names.lookup x = some .local := by first | exact .inl rfl | exact .inr rfl)
    (hy : Loc X.env.scope y := by first | exact Or.inl rfl | exact Or.inr rfl) (hfy : X.fn y = true ∨ X.env.scope.names.lookup y = some .local := by first | exact .inl rfl | exact .inr rfl)
    (hp : i ∉ pin := by decide) (hp' : j ∉ pin := by decide)
    (hs1 : starEach [a, b] X.env = (false, eval a X.env) :: starEach [b] X.env := by rfl) (hs2 : starEach [b] X.env = [(false, eval b X.env)] := by rfl)
    (hs : swapsWithSole [.Tuple [.Name x px, .Name y py] kt pt] (.Tuple [a, b] k2 pt2) pos.line X.env = pure false := by rfl) (hw : swappedStores [.Tuple [.Name x px, .Name y py] kt pt] (.Tuple [a, b] k2 pt2) X.env = pure none := by rfl)
    (h1 : (assignEach [.Tuple [.Name x px, .Name y py] kt pt] X.env).map (·.2) = [assign (.Tuple [.Name x px, .Name y py] kt pt) X.env] := by rfl) :
    PS X (.Assign [.Tuple [.Name x px, .Name y py] kt pt] (.Tuple [a, b] k2 pt2) pos) (tsOf G W pin (sPar2 i ka A j kb B)) := by
  have hg := pg_tup (pos := pt) (k := kt) o.calm (pgs_cons (pg_name (pos := px) hN hi hx hfx) (pgs_cons (pg_name (pos := py) hN hj hy hfy) pgs_nil))
  rw [o.K] at hg
  exact PS.imp (ps_asg (pe_tup (pa_cons ha (pa_cons hb pa_nil hs2) hs1)) hg hs hw h1) (q_par2X hp hp')
end
end MR
set_option maxRecDepth 100000
set_option maxHeartbeats 4000000
/-! MirZip: zip of lists and of tuples, enumerate of lists. -/
namespace MR
open PySem L2 PyProof.Rows
section
variable {X : Cx} {G : Gx} {W : WX} {pin : List Nat}
def pairI (a b : IV) : IV := .tup [a, b]
def zipI : List IV → Option (List IV)
  | [.lst xs, .lst ys] => some (List.zipWith pairI xs ys)
  | [.tup xs, .tup ys] => some (List.zipWith pairI xs ys)
  | _ => none
theorem zip_get {xs ys : List IV} {i : Nat} {d : IV} (h : (List.zipWith pairI xs ys)[i]? = some d) : ∃ a b, xs[i]? = some a ∧ ys[i]? = some b ∧ d = .tup [a, b] := by
  rw [List.getElem?_zipWith] at h
  split at h
  · rename_i a b e1 e2
    cases h
    exact ⟨a, b, e1, e2, rfl⟩
  · cases h
theorem fz_pair {F : AP1} {H : Hp} {T : Addr} {x y : V} {a b : IV} (hT : H T = none) (hx : Fz G F H x a) (hy : Fz G F H y b) : ∃ F'', Fr H F (upd H T (.tup [x, y])) F'' ∧ Fz G F'' (upd H T (.tup [x, y])) (.ref T) (.tup [a, b]) := by
  have fr : Fr H F (upd H T (.tup [x, y])) F := Fr.new hT
  refine ⟨F, fr, .tup (.inl (.inl upd_same)) (.cons (hx.mono fr.stq) (.cons (hy.mono fr.stq) .nil)) ?_⟩
  unfold big
  simp
theorem feeds_zip {F : AP1} {H : Hp} {p q : Addr} {vs us : List V} {ds es : List IV} (hs : ∀ F' H', Stq H F H' F' → SqL G.K H' p vs) (hs2 : ∀ F' H', Stq H F H' F' → SqL G.K H' q us) (a : FzA G F H vs ds) (b : FzA G F H us es) : Feeds G (Itz G.K p q) F H (List.zipWith pairI ds es) := by
  intro F' H' s
  have q1 := hs F' H' s
  have q2 := hs2 F' H' s
  refine ⟨fun i hi => ⟨vs, us, q1, q2, ?_⟩, fun i d hd => ?_⟩
  · rw [List.length_zipWith, ← a.len, ← b.len] at hi
    omega
  · obtain ⟨x, y, e1, e2, rfl⟩ := zip_get hd
    obtain ⟨v, f1, f2⟩ := (a.mono s).get e1
    obtain ⟨u, g1, g2⟩ := (b.mono s).get e2
    refine ⟨⟨vs, us, v, u, q1, q2, f1, g1⟩, fun z H'' yy => ?_⟩
    obtain ⟨T, x', y', rfl, hT, rfl, k1, k2⟩ := yy
    have := k1 vs q1
    rw [f1] at this
    cases this
    have := k2 us q2
    rw [g1] at this
    cases this
    exact fz_pair hT f2 g2
theorem feeds_zipT {F : AP1} {H : Hp} {p q : Addr} {vs us : List V} {ds es : List IV} (hs : SqT G.K H p vs) (hs2 : SqT G.K H q us) (a : FzA G F H vs ds) (b : FzA G F H us es) : Feeds G (RZ.ItzT G.K p q) F H (List.zipWith pairI ds es) := by
  intro F' H' s
  have q1 := sqT_imm s.imm hs
  have q2 := sqT_imm s.imm hs2
  refine ⟨fun i hi => ⟨vs, us, q1, q2, ?_⟩, fun i d hd => ?_⟩
  · rw [List.length_zipWith, ← a.len, ← b.len] at hi
    omega
  · obtain ⟨x, y, e1, e2, rfl⟩ := zip_get hd
    obtain ⟨v, f1, f2⟩ := (a.mono s).get e1
    obtain ⟨u, g1, g2⟩ := (b.mono s).get e2
    refine ⟨⟨vs, us, v, u, q1, q2, f1, g1⟩, fun z H'' yy => ?_⟩
    obtain ⟨T, x', y', rfl, hT, rfl, k1, k2⟩ := yy
    have := k1 vs q1
    rw [f1] at this
    cases this
    have := k2 us q2
    rw [g1] at this
    cases this
    exact fz_pair hT f2 g2
theorem q_zip {A : EA} : ∀ σ H Q, tiOf G W (iOn zipI A) σ H Q → RZ.iZipA G.K (taOf G W A) σ H Q := by
  rintro σ H Q ⟨ρ, F, fp, e, h⟩
  refine oc_bind e h fun xs ds ρ1 H1 F1 fp1 s1 e1 r1 h1 => ?_
  cases hf : zipI ds with
  | none => rw [hf] at h1; exact h1.elim
  | some l =>
    rw [hf] at h1
    unfold zipI at hf
    split at hf
    · cases hf
      cases r1 with
      | cons r2 r3 =>
        cases r3 with
        | cons r4 r5 =>
          cases r5
          cases r2 with
          | @lst p vs _ f hp a z =>
            cases r4 with
            | @lst q us _ f' hq b z' =>
              refine ⟨p, q, vs, us, rfl, .inl ⟨SqL.of hp, SqL.of hq, oc_okR h1 e1 ⟨feeds_zip (fun F2 H2 t => SqL.of (t.fkeep _ _ hp f)) (fun F2 H2 t => SqL.of (t.fkeep _ _ hq f')) a b, ?_⟩⟩⟩
              rw [List.length_zipWith, ← a.len, ← b.len]
              exact Nat.le_trans (Nat.min_le_left _ _) z
    · cases hf
      cases r1 with
      | cons r2 r3 =>
        cases r3 with
        | cons r4 r5 =>
          cases r5
          cases r2 with
          | @tup p vs _ hp a z =>
            cases r4 with
            | @tup q us _ hq b z' =>
              refine ⟨p, q, vs, us, rfl, .inr ⟨hp, hq, oc_okR h1 e1 ⟨feeds_zipT hp hq a b, ?_⟩⟩⟩
              rw [List.length_zipWith, ← a.len, ← b.len]
              exact Nat.le_trans (Nat.min_le_left _ _) z
    · cases hf
theorem i_zip (o : Ok X G W) {e e2 : Expr} {A : EA} {p pos tpos : Pos} {elts : List Expr} {kk : Nat} (hg : Gl X "zip") (hm : X.mg "zip" = none) (ha : PA X [e, e2] (taOf G W A))
    (hs : starEach [e, e2] X.env = (false, eval e X.env) :: starEach [e2] X.env := by rfl) (hpl : (backTo pos (starEach [e2] X.env)).any (·.1) = false := by rfl) :
    PI X (.Tuple elts kk tpos) (.Call (.Name "zip" p) [e, e2] [] pos) (tiOf G W (iOn zipI A)) := by
  have h := RZ.pi_zipA (elts := elts) (kk := kk) (tpos := tpos) (p := p) (pos := pos) hg hm ha hs hpl
  rw [o.K] at h
  exact PI.imp h q_zip
/-! ### enumerate -/
def enumL : Nat → List IV → List IV
  | _, [] => []
  | k, x :: xs => .tup [.int (k : Int), x] :: enumL (k + 1) xs
theorem enumL_get : ∀ (xs : List IV) (k i : Nat) (d : IV), (enumL k xs)[i]? = some d → ∃ x, xs[i]? = some x ∧ d = .tup [.int ((k + i : Nat) : Int), x]
  | [], k, i, d, h => by simp [enumL] at h
  | x :: xs, k, 0, d, h => by
    simp only [enumL, List.getElem?_cons_zero, Option.some.injEq] at h
    exact ⟨x, rfl, by rw [← h]; rfl⟩
  | x :: xs, k, i + 1, d, h => by
    simp only [enumL, List.getElem?_cons_succ] at h
    obtain ⟨y, e1, e2⟩ := enumL_get xs (k + 1) i d h
    exact ⟨y, by simpa using e1, by rw [e2]; congr 3; omega⟩
theorem enumL_len : ∀ (xs : List IV) (k : Nat), (enumL k xs).length = xs.length
  | [], _ => rfl
  | x :: xs, k => by simp only [enumL, List.length_cons, enumL_len xs (k + 1)]
def enumI : List IV → Option (List IV)
  | [.lst xs] => some (enumL 0 xs)
  | _ => none
theorem feeds_enum {F : AP1} {H : Hp} {p : Addr} {vs : List V} {ds : List IV} (hs : ∀ F' H', Stq H F H' F' → SqL G.K H' p vs) (a : FzA G F H vs ds) : Feeds G (Ite G.K p) F H (enumL 0 ds) := by
  intro F' H' s
  have q1 := hs F' H' s
  refine ⟨fun i hi => ⟨vs, q1, by rw [a.len]; rw [enumL_len] at hi; exact hi⟩, fun i d hd => ?_⟩
  obtain ⟨x, e1, rfl⟩ := enumL_get _ _ _ _ hd
  obtain ⟨v, f1, f2⟩ := (a.mono s).get e1
  refine ⟨⟨vs, v, q1, f1⟩, fun z H'' yy => ?_⟩
  obtain ⟨T, x', rfl, hT, rfl, k1⟩ := yy
  have := k1 vs q1
  rw [f1] at this
  cases this
  rw [Nat.zero_add]
  exact fz_pair hT (.int _) f2
theorem q_enum {A : EA} : ∀ σ H Q, tiOf G W (iOn enumI A) σ H Q → iEnum G.K (taOf G W A) σ H Q := by
  rintro σ H Q ⟨ρ, F, fp, e, h⟩
  refine oc_bind e h fun xs ds ρ1 H1 F1 fp1 s1 e1 r1 h1 => ?_
  cases hf : enumI ds with
  | none => rw [hf] at h1; exact h1.elim
  | some l =>
    rw [hf] at h1
    unfold enumI at hf
    split at hf
    · cases hf
      cases r1 with
      | cons r2 r3 =>
        cases r3
        cases r2 with
        | @lst p vs _ f hp a z =>
          refine ⟨p, vs, rfl, SqL.of hp, oc_okR h1 e1 ⟨feeds_enum (fun F2 H2 t => SqL.of (t.fkeep _ _ hp f)) a, ?_⟩⟩
          rw [enumL_len, ← a.len]
          exact z
    · cases hf
theorem i_enum (o : Ok X G W) {e : Expr} {A : EA} {p pos tpos : Pos} {elts : List Expr} {kk : Nat} (hg : Gl X "enumerate") (hm : X.mg "enumerate" = none) (ha : PA X [e] (taOf G W A)) (hs : starEach [e] X.env = [(false, eval e X.env)] := by rfl) :
    PI X (.Tuple elts kk tpos) (.Call (.Name "enumerate" p) [e] [] pos) (tiOf G W (iOn enumI A)) := by
  have h := pi_enum (elts := elts) (kk := kk) (tpos := tpos) (p := p) (pos := pos) hg hm ha hs
  rw [o.K] at h
  exact PI.imp h q_enum
end
end MR
set_option maxRecDepth 100000
set_option maxHeartbeats 4000000
/-! MirGd: defs whose promise wants that no repr is under way. -/
namespace MR
open PySem L2 PyProof.Rows
structure FnMG (P : Program) (w : World) (K : Frag) (mg : Str → Option Value) (base : Heap) (G : Gx) (k : Nat) (x : Str) (ks : List Bool) (fn : Fn) : Prop where
  ex : ∃ (f : Addr) (fd : FuncData) (ps : List Str), mg x = some (.ref f) ∧ PySem.W.keepIn K (.ref f) = true ∧ Binds K fd ps [] ∧ FnG P w K mg base (L2.CX P w) k f fd ps (spOf G ks fn)
section
variable {X : Cx} {G : Gx} {W : WX} {CX : CXT} {k : Nat} {f : Addr} {fd : FuncData} {ps : List Str} {sp : Sp} {E : L2.St → XK} {x : Str} {p pos : Pos} {e : Expr} {es : List Expr} {t : TA}
theorem run_fnSG (hG : X.A.guards = some []) {pins : List (Addr × Obj)} {σ : L2.St} {H : Hp} {s : Shared} {Q : VK} {us : List Value} {vs : List V} (F : FnG X.prog X.w X.K X.mg X.base CX k f fd ps sp) (hr : Room k X.A) (hb : Binds X.K fd ps []) (hx : PassesAt CX X σ (E σ))
    (I : L2.Inv X pins σ H s) (r : Vals vs us) (h : sp vs H Q (E σ)) : wpAny (model X.prog X.w) X.A (call (.ref f) us) (EP X pins σ Q) X.xe s := by
  have hl : us.length = ps.length := by rw [← r.length]; exact F.len _ _ _ _ h
  have b := hb s us I.kIn (by rw [List.append_nil]; exact hl)
  rw [List.append_nil] at b
  refine wpAny_call (codeAny_mono (F.run X.A X.stack s H ⟨us, []⟩ us vs Q (E σ) hG hr I.env0 b r h) fun r s' hq => ?_)
  cases r with
  | error e => exact hx pins H s e s' I hq
  | ok fl =>
    cases fl with
    | ret u => exact I.after hq
    | next => exact False.elim hq
    | brk => exact False.elim hq
    | cont => exact False.elim hq
theorem pe_callSG (hG : X.A.guards = some []) (F : FnG X.prog X.w X.K X.mg X.base CX k f fd ps sp) (hr : Room k X.A) (hg : Gl X x) (hm : X.mg x = some (.ref f)) (hk : PySem.W.keepIn X.K (.ref f) = true) (hb : Binds X.K fd ps []) (hx : ∀ σ, PassesAt CX X σ (E σ))
    (ha : PA X (e :: es) t) (hdb : (x == ("__debug__" : Str)) = false := by decide) (he : starEach (e :: es) X.env = (false, eval e X.env) :: starEach es X.env := by rfl) (hpl : (backTo pos (starEach es X.env)).any (·.1) = false := by rfl) :
    PE X (.Call (.Name x p) (e :: es) [] pos) (tCallS sp E t) := by
  refine ⟨fun pins s σ H Q I h => ?_⟩
  refine wpAny_Call_Name_kw (ld_glob I hg hm ?_ hdb)
  refine PySem.W.callWith_K (h₀ := X.base) I.ok.mod.kin hk (thn (ha.run pos pins s σ H _ I h) fun us s1 ⟨vs, H1, I1, r, q⟩ => ⟨I1.kIn, ?_⟩) he hpl
  exact run_fnSG hG F hr hb (hx σ) I1 r q
theorem m_callMG (o : Ok X G W) (hG : X.A.guards = some []) {k : Nat} {x : Str} {ks : List Bool} {fn : Fn} {e : Expr} {es : List Expr} {p pos : Pos} {J : EAv} (Fo : FnMG X.prog X.w X.K X.mg X.base G k x ks fn) (hr : Room k X.A) (ha : PA X (e :: es) (tjOf G W J)) (hg : Gl X x := by rfl) (hdb : (x == ("__debug__" : Str)) = false := by decide)
    (he : starEach (e :: es) X.env = (false, eval e X.env) :: starEach es X.env := by rfl) (hpl : (backTo pos (starEach es X.env)).any (·.1) = false := by rfl) : PE X (.Call (.Name x p) (e :: es) [] pos) (teOf G W (iCallF ks fn J)) := by
  obtain ⟨f, fd, ps, h1, h2, h3, h4⟩ := Fo.ex
  exact PE.imp (pe_callSG hG h4 hr hg h1 h2 h3 (fun σ => passAt o.tk σ) ha hdb he hpl) q_callF
end
end MR
set_option maxRecDepth 100000
set_option maxHeartbeats 4000000
/-! MirLr: list(range(..)). -/
namespace MR
open PySem L2 PyProof.Rows
section
variable {X : Cx} {G : Gx} {W : WX} {pin : List Nat}
def iLr1 (A : E) : E := fun ρ => (A ρ).bind fun x ρ1 => match r1Of [x] with
  | some xs => .ok (.lst xs) ρ1
  | none => .no
def iLr2 (A B : E) : E := fun ρ => (A ρ).bind fun x ρ1 => (B ρ1).bind fun y ρ2 => match r2Of [x, y] with
  | some xs => .ok (.lst xs) ρ2
  | none => .no
theorem fza_maps {F : AP1} {H : Hp} {α : Type} (f : α → V) (g : α → IV) (h : ∀ k, Fz G F H (f k) (g k)) : ∀ l : List α, FzA G F H (l.map f) (l.map g)
  | [] => .nil
  | k :: l => .cons (h k) (fza_maps f g h l)
theorem fz_rg {F : AP1} {H : Hp} (a b : Int) : FzA G F H (rgV a b) (ivR a (b - a).toNat) := fza_maps _ _ (fun k => .int _) _
theorem q_lr1 {A : E} : ∀ σ H Q, toOf G W (iLr1 A) σ H Q → tLstRg (tRg1 (teOf G W A)) σ H Q := by
  rintro σ H Q ⟨ρ, F, fp, e, h⟩
  refine ocO_bind e h fun x a ρ1 H1 F1 fp1 s1 e1 r1 h1 => ?_
  cases hf : r1Of [a] with
  | none => rw [hf] at h1; exact h1.elim
  | some l =>
    rw [hf] at h1
    cases a with
    | int n =>
      have hf : (if (decide (-1000000 ≤ n) && decide (n ≤ 1000000)) = true then some (ivR 0 n.toNat) else none) = some l := hf
      split at hf
      · rename_i e
        simp only [Bool.and_eq_true, decide_eq_true_eq] at e
        cases hf
        have r1 : Fz G F1 H1 x (.int n) := r1
        cases r1.int_inv
        refine ⟨n, rfl, ⟨by omega, by omega, by omega, by omega, by omega⟩, fun q hq => ?_⟩
        have h0 : ivR 0 n.toNat = ivR 0 (n - 0).toNat := by rw [Int.sub_zero]
        rw [h0] at h1
        exact ocO_new h1 e1 hq (fz_rg 0 n) (by rw [rgV_length]; unfold big; omega)
      · cases hf
    | _ => cases hf
theorem q_lr2 {A B : E} : ∀ σ H Q, toOf G W (iLr2 A B) σ H Q → tLstRg (tRg2 (teOf G W A) (teOf G W B)) σ H Q := by
  rintro σ H Q ⟨ρ, F, fp, e, h⟩
  refine ocO_bind e h fun x a ρ1 H1 F1 fp1 s1 e1 r1 h1 => ?_
  refine ocO_bind e1 h1 fun y b ρ2 H2 F2 fp2 s2 e2 r2 h2 => ?_
  cases hf : r2Of [a, b] with
  | none => rw [hf] at h2; exact h2.elim
  | some l =>
    rw [hf] at h2
    cases a with
    | int i =>
      cases b with
      | int j =>
        have hf : (if (decide (-1000000 ≤ i) && decide (i ≤ 1000000) && decide (-1000000 ≤ j) && decide (j ≤ 1000000) && decide (j - i ≤ 1000000)) = true then some (ivR i (j - i).toNat) else none) = some l := hf
        split at hf
        · rename_i e
          simp only [Bool.and_eq_true, decide_eq_true_eq] at e
          cases hf
          have r1 : Fz G F1 H1 x (.int i) := r1
          have r2 : Fz G F2 H2 y (.int j) := r2
          cases r1.int_inv
          cases r2.int_inv
          refine ⟨i, j, rfl, rfl, ⟨by omega, by omega, by omega, by omega, by omega⟩, fun q hq => ?_⟩
          exact ocO_new h2 e2 hq (fz_rg i j) (by rw [rgV_length]; unfold big; omega)
        · cases hf
      | _ => cases hf
    | _ => cases hf
theorem o_lr1 (o : Ok X G W) {a : Expr} {A : E} {p pos p2 pos2 : Pos} (hg : Gl X "list") (hm : X.mg "list" = none) (hg2 : Gl X "range") (hm2 : X.mg "range" = none) (ha : PE X a (teOf G W A)) (na : starEach [a] X.env = (false, eval a X.env) :: starEach [] X.env := by rfl)
    (nr : starEach [.Call (.Name "range" p2) [a] [] pos2] X.env = (false, eval (.Call (.Name "range" p2) [a] [] pos2) X.env) :: starEach [] X.env := by rfl) :
    PE X (.Call (.Name "list" p) [.Call (.Name "range" p2) [a] [] pos2] [] pos) (toOf G W (iLr1 A)) := PE.imp (pe_listRg o.calm hg hm (prg_1 hg2 hm2 ha na) nr) q_lr1
theorem o_lr2 (o : Ok X G W) {a b : Expr} {A B : E} {p pos p2 pos2 : Pos} (hg : Gl X "list") (hm : X.mg "list" = none) (hg2 : Gl X "range") (hm2 : X.mg "range" = none) (ha : PE X a (teOf G W A)) (hb : PE X b (teOf G W B)) (na : starEach [a, b] X.env = (false, eval a X.env) :: starEach [b] X.env := by rfl)
    (nb : starEach [b] X.env = (false, eval b X.env) :: starEach [] X.env := by rfl) (hp : (backTo pos2 (starEach [b] X.env)).any (·.1) = false := by rfl)
    (nr : starEach [.Call (.Name "range" p2) [a, b] [] pos2] X.env = (false, eval (.Call (.Name "range" p2) [a, b] [] pos2) X.env) :: starEach [] X.env := by rfl) :
    PE X (.Call (.Name "list" p) [.Call (.Name "range" p2) [a, b] [] pos2] [] pos) (toOf G W (iLr2 A B)) := PE.imp (pe_listRg o.calm hg hm (prg_2 hg2 hm2 ha hb na nb hp) nr) q_lr2
theorem iLr1_fz (A : E) : ∀ ρ d ρ', iLr1 A ρ = .ok d ρ' → canFz d = true := by
  intro ρ d ρ' h
  obtain ⟨xs, ρ1, _, h1⟩ := Rz.bind_ok h
  split at h1 <;> cases h1
  rfl
theorem iLr2_fz (A B : E) : ∀ ρ d ρ', iLr2 A B ρ = .ok d ρ' → canFz d = true := by
  intro ρ d ρ' h
  obtain ⟨xs, ρ1, _, h1⟩ := Rz.bind_ok h
  obtain ⟨ys, ρ2, _, h2⟩ := Rz.bind_ok h1
  split at h2 <;> cases h2
  rfl
end
end MR
set_option maxRecDepth 100000
set_option maxHeartbeats 4000000
/-! MirKd: arguments that lack, their defaults. -/
namespace MR
open PySem L2 PyProof.Rows
/-- the last parameters' defaults -/
structure DfB (K : Frag) (fd : FuncData) (ps : List Str) (mz : List V) : Prop where
  ex : ∃ mv : List Value, Binds K fd ps mv ∧ Vals mz mv
theorem DfB.of {K : Frag} {fd : FuncData} {ps : List Str} {n : Nat} {mz : List V} (hps : ps.length = n + mz.length) (h : ∃ mv : List Value, KBn K fd ps n [] (fun us ws => us ++ mv ++ ws) (fun vs zs => vs ++ mz ++ zs)) : DfB K fd ps mz := by
  obtain ⟨mv, hb⟩ := h
  have hv : Vals mz mv := by
    have := hb.rel (vs := []) (us := []) (zs := []) (ws := []) .nil .nil
    simpa using this
  refine ⟨mv, fun s us kin hl => ?_, hv⟩
  have hm := hv.length
  rw [List.length_append] at hl
  have := hb.to s us [] kin (by omega) rfl
  simpa using this
section
variable {X : Cx} {G : Gx} {W : WX}
theorem m_makeMD (o : Ok X G W) {c : String} {k n : Nat} {f : Addr} {fd : FuncData} {ps : List Str} {fn : Fn} {dds : List IV} {dvs : List V} {x : Str} {e : Expr} {es : List Expr} {p pos : Pos} {A : EA} (M : MkM X.prog X.w X.K X.mg X.base G k c x n fn f fd ps) (D : DfB X.K fd ps dvs) (hdd : ∀ F H, FzA G F H dvs dds) (hr : Room (k + 1) X.A)
    (ha : PA X (e :: es) (taOf G W A)) (hA : LenA A (e :: es).length) (hn : n = (e :: es).length + dds.length := by rfl) (hps : ps.length = n + 1 := by rfl) (hg : Gl X x := by rfl) (hdb : (x == ("__debug__" : Str)) = false := by decide)
    (he : starEach (e :: es) X.env = (false, eval e X.env) :: starEach es X.env := by rfl) (hpl : (backTo pos (starEach es X.env)).any (·.1) = false := by rfl) : PE X (.Call (.Name x p) (e :: es) [] pos) (teOf G W (iMake c fn dds A)) := by
  obtain ⟨mv, hb, hv⟩ := D.ex
  exact m_make o c M.mkr M.ok hr hg M.gl hb hv hdd hn hps ha hA.len hdb he hpl
end
end MR
set_option maxRecDepth 100000
set_option maxHeartbeats 4000000
/-! MirDw: [d[k] for k in d], d a frozen dict in a slot. -/
namespace MR
open PySem L2 PyProof.Rows
section
variable {X : Cx} {G : Gx} {W : WX} {σ : L2.St} {H : Hp} {F : AP1} {fp : FPt} {ρ : Env}
/-- a comprehension within a comprehension -/
def freeB (ns : List (Str × NameKind)) (sc : Scope) : Bool := ns.all fun y => !(decide (y.2 = .free)) || (decide (sc.names.lookup y.1 = some .cell) || decide (sc.names.lookup y.1 = some .free))
theorem blk_in {N : List Str} {sc scope : Scope} {own : List (Str × Nat)} (h1 : scope.kind = .function) (h2 : ∀ y ∈ scope.names, scope.names.lookup y.1 = some y.2) (h3 : ∀ p ∈ own, N[p.2]? = some p.1) (h4 : freeB scope.names sc = true)
    (h5 : ∀ y ∈ scope.names, y.2 = .local ∨ y.2 = .cell → y.1 ∈ own.map (·.1) ∨ y.1 ∉ N) : BlkOk N sc scope own := by
  refine ⟨h1, h2, h3, fun y hy hf => ?_, h5⟩
  have := List.all_eq_true.mp h4 y hy
  rw [decide_eq_true hf, Bool.not_true, Bool.false_or, Bool.or_eq_true, decide_eq_true_eq, decide_eq_true_eq] at this
  exact this
theorem w_var (i : Nat) {x : Str} {pos : Pos} (hN : X.N[i]? = some x := by rfl) (hv : Vis X.env.scope x := by first | exact Or.inl rfl | exact Or.inr (Or.inl rfl) | exact Or.inr (Or.inr rfl)) (hd : (x == ("__debug__" : Str)) = false := by decide)
    (hcd : (x == ("__classdict__" : Str)) = false := by decide) : PE X (.Name x pos) (tVar i) := pe_var hN hv hd hcd
theorem w_name (i : Nat) {x : Str} {pos : Pos} (hN : X.N.Nodup) (hi : X.N[i]? = some x := by rfl) (hx : Loc X.env.scope x := by first | exact Or.inl rfl | exact Or.inr rfl) (hf : X.fn x = true ∨ X.env.scope.names.lookup x = some .local := by first | exact .inl rfl | exact .inr rfl) : PG X (.Name x pos) (gName i) := pg_name hN hi hx hf
def valsD (ds : List (Key × IV)) : List IV := ds.map fun kv => (lookD ds kv.1).getD .non
def iDv (i j : Nat) : E := fun ρ => match ρ[i]? with
  | some (.fz (.dic ds)) => if i ≠ j ∧ j < ρ.length then .ok (.lst (valsD ds)) ρ else .no
  | _ => .no
theorem iDv_fz (i j : Nat) : ∀ ρ d ρ', iDv i j ρ = .ok d ρ' → canFz d = true := by
  intro ρ d ρ' h
  unfold iDv at h
  split at h
  · split at h
    · cases h; rfl
    · cases h
  · cases h
theorem FzP.at_ : ∀ {vs : List (Key × V)} {ds : List (Key × IV)} {i : Nat} {k : Key} {v : V}, FzP G F H vs ds → vs[i]? = some (k, v) → ∃ d, ds[i]? = some (k, d)
  | _, _, _, _, _, .nil, e => by simp at e
  | _, _, 0, _, _, .cons h t, e => by
    simp only [List.getElem?_cons_zero, Option.some.injEq, Prod.mk.injEq] at e
    obtain ⟨rfl, _⟩ := e
    exact ⟨_, rfl⟩
  | _, _, i + 1, _, _, .cons h t, e => by
    obtain ⟨d, h2⟩ := FzP.at_ (i := i) t (by simpa using e)
    exact ⟨d, by simpa using h2⟩
theorem lookD_mem {ds : List (Key × IV)} {k : Key} {d : IV} (h : (k, d) ∈ ds) : ∃ d', lookD ds k = some d' := by
  unfold lookD
  cases e : ds.find? fun kv => decide (kv.1 = k) with
  | none =>
    have := List.find?_eq_none.mp e _ h
    simp at this
  | some kv => exact ⟨_, rfl⟩
theorem q_dv {i j : Nat} : ∀ σ H Q, toOf G W (iDv i j) σ H Q → tLockE (tLc (iKeys (tVar i)) (gName j) tYes (tDGet (tVar i) (tVar j)) [j]) σ H Q := by
  rintro σ H Q ⟨ρ, F, fp, e, h⟩
  unfold iDv at h
  split at h
  rotate_left
  · exact h.elim
  rename_i ds hds
  split at h
  rotate_left
  · exact h.elim
  rename_i hij
  obtain ⟨hij, hj⟩ := hij
  obtain ⟨u, g1, g2⟩ := e.fz i _ hds
  have hjl : j < σ.length := by rw [← e.len]; exact hj
  cases g2 with
  | @dic p vs _ fF hp a z =>
    refine ⟨p, .dK vs, hp, trivial, fun od => ?_⟩
    refine ⟨_, g1, p, od, rfl, Or.inl ⟨vs, upd_same, ?_⟩⟩
    intro D hD
    have hDp : D ≠ p := fun q => by rw [q, upd_same] at hD; cases hD
    have hpD : p ≠ D := fun q => hDp q.symm
    rw [upd_ne hDp] at hD
    have hlen := a.len
    have hF : ∀ l : List V, Stq H F (upd H D (.lst l)) F := fun l => (Fr.new hD).stq
    have hpp : ∀ l : List V, upd (upd H p (.frz od (.dK vs))) D (.lst l) p = some (.frz od (.dK vs)) := fun l => by rw [upd_ne hpD, upd_same]
    refine ⟨fun n m H' => m = vs.length - n ∧ n ≤ vs.length ∧ ∃ acc : List V, H' = upd (upd H p (.frz od (.dK vs))) D (.lst acc) ∧ acc.length = n ∧ FzA G F H acc ((valsD ds).take n), ⟨vs.length, rfl, Nat.zero_le _, [], rfl, rfl, .nil⟩, ?_⟩
    rintro n m H' ⟨rfl, hn, acc, rfl, hacc, fa⟩
    by_cases hlt : n < vs.length
    · refine Or.inr ⟨⟨hpp acc, hlt⟩, fun H2 => n + 1 ≤ vs.length ∧ ∃ acc : List V, H2 = upd (upd H p (.frz od (.dK vs))) D (.lst acc) ∧ acc.length = n + 1 ∧ FzA G F H acc ((valsD ds).take (n + 1)), fun H2 q => ⟨vs.length - (n + 1), by omega, rfl, q⟩, ?_⟩
      rintro x H2 ⟨rfl, k, v, hk, rfl⟩
      obtain ⟨d0, hd0⟩ := a.at_ hk
      obtain ⟨d, hd⟩ := lookD_mem (List.mem_of_getElem? hd0)
      obtain ⟨v', hv', fv⟩ := a.look hd
      let S2 := (wipe σ [j]).set j (some (kV k))
      have hw : wipe S2 [j] = wipe σ [j] := by
        refine wipe_eq (l := [j]) ⟨by rw [List.length_set], fun q hq => ?_⟩ (fun q hq => hq)
        rw [List.getElem?_set_ne (fun z => hq (by rw [← z]; exact List.mem_singleton_self _))]
      have hi2 : S2[i]? = some (some (.ref p)) := by
        rw [List.getElem?_set_ne (fun z => hij z.symm), wipe_out (fun q => hij (List.mem_singleton.mp q))]
        exact g1
      have hj2 : S2[j]? = some (some (kV k)) := by
        rw [List.getElem?_set_self (by rw [wipe_length]; exact hjl)]
      refine ⟨hw, ?_⟩
      simp only [tYes, if_true]
      refine ⟨_, hi2, _, hj2, p, v', rfl, .inl ⟨vs, k, .inr ⟨od, hpp acc⟩, rfl, hv'.symm⟩, acc, upd_same, ?_, by omega, acc ++ [v'], ?_, by rw [List.length_append, hacc]; rfl, ?_⟩
      · have := big_line
        omega
      · funext b
        by_cases hb : b = D
        · rw [hb, upd_same, upd_same]
        · rw [upd_ne hb, upd_ne hb, upd_ne hb]
      · have ht : (valsD ds).take (n + 1) = (valsD ds).take n ++ [d] := by
          have hg : (valsD ds)[n]? = some d := by
            unfold valsD
            rw [List.getElem?_map, hd0]
            simp only [Option.map, hd, Option.getD]
          rw [List.take_add_one, hg]
          rfl
        rw [ht]
        exact FzA.snoc fa fv
    · have hnn : n = vs.length := by omega
      refine Or.inl ⟨⟨hpp acc, by omega⟩, hpp acc, ?_⟩
      have eH : upd (upd (upd H p (.frz od (.dK vs))) D (.lst acc)) p (.dK vs) = upd H D (.lst acc) := by
        funext b
        by_cases hb : b = p
        · rw [hb, upd_same, upd_ne hpD, hp]
        · rw [upd_ne hb]
          by_cases hc : b = D
          · rw [hc, upd_same, upd_same]
          · rw [upd_ne hc, upd_ne hb, upd_ne hc]
      rw [eH]
      have hfull : (valsD ds).take n = valsD ds := by
        refine List.take_of_length_le ?_
        unfold valsD
        rw [List.length_map]
        omega
      rw [hfull] at fa
      have rest' : OcO G W σ H F fp (.ok (.lst (valsD ds)) ρ) Q := h
      have nF : ¬ F D := fun f => e.ft D f hD
      refine rest' (.ref D) (upd H D (.lst acc)) F fp (fun a => a = D) (Stp.new hD) (e.fr (Fr.new hD)) (.lst upd_same (fa.mono (hF acc)) (by omega) fun _ => Iff.rfl) ⟨?_, ?_, ?_, ?_, ?_⟩
      · intro a z; rw [z]; exact hD
      · intro a z q; rw [z, upd_same] at q; cases q
      · intro a z; rw [z]; exact nF
      · intro a z; rw [z]; exact fun ⟨q, w⟩ => e.tr q D w hD
      · intro a o z q; rw [z, upd_same] at q; cases q; exact fun z => z
theorem o_dv (o : Ok X G W) {i j : Nat} {x y : Str} {scope : Scope} {own : List (Str × Nat)} {p1 p2 p3 p4 p5 pos : Pos} (hN : X.N.Nodup) (ok : BlkOk X.N X.env.scope scope own) (hown : own.map (·.2) = [j])
    (hx : PE X (.Name x p1) (tVar i))
    (hg : ∀ (s : Shared) (H : Hp) (C : Addr) (cl : List (Str × Addr)) (fp : List Addr), PG (X.blk s H scope (compEnvC scope cl C X.env) fp) (.Name y p2) (gName j))
    (hx' : ∀ (s : Shared) (H : Hp) (C : Addr) (cl : List (Str × Addr)) (fp : List Addr), PE (X.blk s H scope (compEnvC scope cl C X.env) fp) (.Name x p3) (tVar i))
    (hy : ∀ (s : Shared) (H : Hp) (C : Addr) (cl : List (Str × Addr)) (fp : List Addr), PE (X.blk s H scope (compEnvC scope cl C X.env) fp) (.Name y p4) (tVar j))
    (hs : ∀ v, foldedSetIterable (.Name x p1) X.env v = pure v := by intro _; rfl) :
    PE X (.ListComp (.Subscript (.Name x p3) (.Name y p4) p5) [⟨.Name y p2, .Name x p1, [], 0⟩] scope pos) (toOf G W (iDv i j)) := by
  have h := pe_lc (pos := pos) o.calm hN (pi_keys hx) ok hg (fun s H C cl fp => pts_nil) (fun s H C cl fp => pe_dget (pos := p5) (by have := (Ok.blk o (s := s) (H := H) (scope := scope) (cenv := compEnvC scope cl C X.env) (fp := fp)).hu; omega) (hx' s H C cl fp) (hy s H C cl fp) (fun _ _ => rfl)) hs
  rw [hown] at h
  exact PE.imp (pe_lock h) q_dv
theorem m_dv (o : Ok X G W) {i j : Nat} {x y : Str} {scope : Scope} {own : List (Str × Nat)} {p1 p2 p3 p4 p5 pos : Pos} (hN : X.N.Nodup) (ok : BlkOk X.N X.env.scope scope own) (hown : own.map (·.2) = [j])
    (hx : PE X (.Name x p1) (tVar i))
    (hg : ∀ (s : Shared) (H : Hp) (C : Addr) (cl : List (Str × Addr)) (fp : List Addr), PG (X.blk s H scope (compEnvC scope cl C X.env) fp) (.Name y p2) (gName j))
    (hx' : ∀ (s : Shared) (H : Hp) (C : Addr) (cl : List (Str × Addr)) (fp : List Addr), PE (X.blk s H scope (compEnvC scope cl C X.env) fp) (.Name x p3) (tVar i))
    (hy : ∀ (s : Shared) (H : Hp) (C : Addr) (cl : List (Str × Addr)) (fp : List Addr), PE (X.blk s H scope (compEnvC scope cl C X.env) fp) (.Name y p4) (tVar j))
    (hs : ∀ v, foldedSetIterable (.Name x p1) X.env v = pure v := by intro _; rfl) :
    PE X (.ListComp (.Subscript (.Name x p3) (.Name y p4) p5) [⟨.Name y p2, .Name x p1, [], 0⟩] scope pos) (teOf G W (iDv i j)) := m_frz (o_dv o hN ok hown hx hg hx' hy hs) (iDv_fz _ _)
theorem m_inDF (o : Ok X G W) {a b : Expr} {A B : E} {pos : Pos} (ha : PE X a (teOf G W A)) (hb : PE X b (teOf G W B)) (hm : behindInMarks .In b = false := by rfl) : PE X (.Compare a [.In] [b] pos) (teOf G W (iBin (oInD false) A B)) := m_cmp (op_dIn (by have := o.hu; omega)) (ob_inD false).toF ha hb hm
theorem n_inDF (o : Ok X G W) {a b : Expr} {A B : E} {pos : Pos} (ha : PE X a (teOf G W A)) (hb : PE X b (teOf G W B)) (hm : behindInMarks .In b = false := by rfl) : PT X (.Compare a [.In] [b] pos) (ttOf G W (iCmp (oInD false) A B)) := n_cmp (op_dIn (by have := o.hu; omega)) (ob_inD false).toF ha hb hm
theorem m_notinDF (o : Ok X G W) {a b : Expr} {A B : E} {pos : Pos} (ha : PE X a (teOf G W A)) (hb : PE X b (teOf G W B)) (hm : behindInMarks .NotIn b = false := by rfl) : PE X (.Compare a [.NotIn] [b] pos) (teOf G W (iBin (oInD true) A B)) := m_cmp (op_dNotIn (by have := o.hu; omega)) (ob_inD true).toF ha hb hm
theorem n_notinDF (o : Ok X G W) {a b : Expr} {A B : E} {pos : Pos} (ha : PE X a (teOf G W A)) (hb : PE X b (teOf G W B)) (hm : behindInMarks .NotIn b = false := by rfl) : PT X (.Compare a [.NotIn] [b] pos) (ttOf G W (iCmp (oInD true) A B)) := n_cmp (op_dNotIn (by have := o.hu; omega)) (ob_inD true).toF ha hb hm
end
end MR
set_option maxRecDepth 100000
set_option maxHeartbeats 4000000
/-! MirSg: few tuples of any kind, ascending (for sets that are made to be sorted). -/
namespace MR
open PySem L2 PyProof.Rows NSet
def kdG (d : IV) : PyData := match kOf d with
  | some k => k.data
  | none => .none
/-- how many of ds are below k -/
def rkG (ds : List IV) (k : NestedKey) : Nat := (ds.filter fun d => PySem.W.dataLt (kdG d) k.data).length
def okT (d : IV) : Bool := match kOf d with
  | some (.tup ks) => decide ((NestedKey.tup ks).depth ≤ 8) && decide ((NestedKey.tup ks).data.depth ≤ 10)
  | _ => false
def rdG (ds : List IV) (d : IV) : Nat := match kOf d with
  | some k => rkG ds k
  | none => 0
def okP (ds : List IV) (a b : IV) : Bool := PySem.W.alike (kdG a) (kdG b) && ((PySem.W.dataLt (kdG a) (kdG b) == decide (rdG ds a < rdG ds b)) && (!(rdG ds a == rdG ds b) || sameK a b))
def okG (ds : List IV) : Bool := decide (ds.length < 60) && (ds.all okT && ds.all fun a => ds.all fun b => okP ds a b)
def insG (all : List IV) (d : IV) : List IV → List IV
  | [] => [d]
  | e :: es => if sameK d e = true then e :: es else if rdG all d < rdG all e then d :: e :: es else e :: insG all d es
def srtG (ds : List IV) : List IV := ds.foldl (fun acc d => insG ds d acc) []
structure OkG (ds : List IV) : Prop where
  few : ds.length < 60
  tup : ∀ d ∈ ds, ∃ ks, kOf d = some (.tup ks) ∧ (NestedKey.tup ks).depth ≤ 8 ∧ (NestedKey.tup ks).data.depth ≤ 10
  cmp : ∀ a ∈ ds, ∀ b ∈ ds, PySem.W.alike (kdG a) (kdG b) = true ∧ PySem.W.dataLt (kdG a) (kdG b) = decide (rdG ds a < rdG ds b) ∧ (rdG ds a = rdG ds b → a = b)
theorem sameK_eq {a b : IV} (h : sameK a b = true) : a = b := by
  unfold sameK at h
  split at h
  · rename_i k l g1 g2
    have := NestedKey.eq_of_beq k l h
    subst this
    exact kOf_inj a b k g1 g2
  · cases h
theorem okG_ok {ds : List IV} (h : okG ds = true) : OkG ds := by
  simp only [okG, Bool.and_eq_true, decide_eq_true_eq] at h
  obtain ⟨h1, h2, h3⟩ := h
  refine ⟨h1, fun d hd => ?_, fun a ha b hb => ?_⟩
  · have z := List.all_eq_true.mp h2 d hd
    unfold okT at z
    split at z
    · rename_i ks e
      simp only [Bool.and_eq_true, decide_eq_true_eq] at z
      exact ⟨ks, e, z.1, z.2⟩
    · cases z
  · have z := List.all_eq_true.mp (List.all_eq_true.mp h3 a ha) b hb
    simp only [okP, Bool.and_eq_true, beq_iff_eq, Bool.or_eq_true, Bool.not_eq_true', beq_eq_false_iff_ne, ne_eq] at z
    refine ⟨z.1, z.2.1, fun e => ?_⟩
    rcases z.2.2 with q | q
    · exact absurd e q
    · exact sameK_eq q
theorem insG_mem {all : List IV} (d x : IV) (hd : (kOf d).isSome = true) : ∀ es : List IV, x ∈ insG all d es ↔ x = d ∨ x ∈ es
  | [] => by simp [insG]
  | e :: es => by
    unfold insG
    split
    · rename_i h
      have := sameK_eq h
      subst this
      rw [List.mem_cons]
      exact ⟨fun h => .inr h, fun h => h.elim (fun z => .inl z) id⟩
    · split
      · simp
      · rw [List.mem_cons, insG_mem d x hd es, List.mem_cons]
        exact ⟨fun h => by rcases h with h | h | h <;> simp [h], fun h => by rcases h with h | h | h <;> simp [h]⟩
abbrev ltG (all : List IV) (a b : IV) : Prop := rdG all a < rdG all b
theorem insG_up {all : List IV} (O : OkG all) {d : IV} (hd : d ∈ all) : ∀ es : List IV, (∀ e ∈ es, e ∈ all) → es.Pairwise (ltG all) → (insG all d es).Pairwise (ltG all)
  | [], _, _ => by simp [insG]
  | e :: es, hm, h => by
    have hk : (kOf d).isSome = true := by
      obtain ⟨ks, e1, _⟩ := O.tup d hd
      rw [e1]
      rfl
    unfold insG
    obtain ⟨h1, h2⟩ := List.pairwise_cons.mp h
    split
    · exact h
    · rename_i hne
      split
      · rename_i c
        refine List.pairwise_cons.mpr ⟨fun y hy => ?_, h⟩
        rcases List.mem_cons.mp hy with z | z
        · rw [z]; exact c
        · have := h1 y z
          exact Nat.lt_trans c this
      · rename_i c
        refine List.pairwise_cons.mpr ⟨fun y hy => ?_, insG_up O hd es (fun x hx => hm x (List.mem_cons_of_mem _ hx)) h2⟩
        rcases (insG_mem d y hk es).mp hy with z | z
        · rw [z]
          have ne : rdG all d ≠ rdG all e := fun q => by
            have := (O.cmp d hd e (hm e List.mem_cons_self)).2.2 q
            subst this
            apply hne
            unfold sameK
            obtain ⟨ks, e1, _⟩ := O.tup d hd
            rw [e1]
            exact NestedKey.beq_self _
          show rdG all e < rdG all d
          omega
        · exact h1 y z
theorem srtG_gen {all : List IV} (O : OkG all) : ∀ (ds acc : List IV), (∀ d ∈ ds, d ∈ all) → (∀ d ∈ acc, d ∈ all) → acc.Pairwise (ltG all) → (ds.foldl (fun acc d => insG all d acc) acc).Pairwise (ltG all) ∧ ∀ x, x ∈ ds.foldl (fun acc d => insG all d acc) acc ↔ x ∈ acc ∨ x ∈ ds
  | [], acc, _, _, h => ⟨h, fun x => by simp⟩
  | d :: ds, acc, hd, ha, h => by
    have hda := hd d List.mem_cons_self
    have hk : (kOf d).isSome = true := by
      obtain ⟨ks, e1, _⟩ := O.tup d hda
      rw [e1]
      rfl
    have hm : ∀ x ∈ insG all d acc, x ∈ all := fun x hx => by
      rcases (insG_mem d x hk acc).mp hx with z | z
      · rw [z]; exact hda
      · exact ha x z
    obtain ⟨a, b⟩ := srtG_gen O ds (insG all d acc) (fun x hx => hd x (List.mem_cons_of_mem _ hx)) hm (insG_up O hda acc ha h)
    refine ⟨a, fun x => ?_⟩
    rw [List.foldl_cons, b, insG_mem d x hk, List.mem_cons]
    exact ⟨fun h => by rcases h with (h | h) | h <;> simp [h], fun h => by rcases h with h | h | h <;> simp [h]⟩
theorem srtG_up {ds : List IV} (O : OkG ds) : (srtG ds).Pairwise (ltG ds) ∧ ∀ x, x ∈ srtG ds ↔ x ∈ ds := by
  obtain ⟨a, b⟩ := srtG_gen O ds [] (fun d h => h) (fun d h => by cases h) List.Pairwise.nil
  exact ⟨a, fun x => by rw [srtG, b]; simp⟩
section
variable {G : Gx}
/-- the rows, sorted, read as the sorted items -/
theorem srt_rowsG {F : AP1} {H : Hp} {ds : List IV} {L L' : List Row} (O : OkG ds) (h1 : ∀ r ∈ L, ∃ d ∈ ds, Fz G F H (.ref r.1) d ∧ kOf d = some r.2) (h2 : ∀ d ∈ ds, ∃ k, kOf d = some k ∧ k ∈ L.map Prod.snd)
    (pm : L'.Perm L) (nd : (L'.map Prod.snd).Nodup) (up : L'.Pairwise fun x y => ¬ rkG ds y.2 < rkG ds x.2) : FzA G F H (L'.map fun r => V.ref r.1) (srtG ds) := by
  have each : ∀ M : List Row, (∀ r ∈ M, r ∈ L) → ∃ es : List IV, FzA G F H (M.map fun r => V.ref r.1) es ∧ es.map kOf = M.map (fun r => some r.2) ∧ ∀ e ∈ es, e ∈ ds := by
    intro M
    induction M with
    | nil => intro _; exact ⟨[], .nil, rfl, fun e he => by cases he⟩
    | cons r M ih =>
      intro hM
      obtain ⟨es, e1, e2, e3⟩ := ih fun x hx => hM x (List.mem_cons_of_mem _ hx)
      obtain ⟨d, d1, d2, d3⟩ := h1 r (hM r List.mem_cons_self)
      refine ⟨d :: es, .cons d2 e1, by rw [List.map_cons, List.map_cons, d3, e2], fun e he => ?_⟩
      rcases List.mem_cons.mp he with z | z
      · rw [z]; exact d1
      · exact e3 e z
  obtain ⟨es, e1, e2, e3⟩ := each L' fun r hr => pm.mem_iff.mp hr
  have esUp : es.Pairwise (ltG ds) := by
    have gen : ∀ (xs : List IV) (M : List Row), xs.map kOf = M.map (fun r => some r.2) → (∀ x ∈ xs, x ∈ ds) → (M.map Prod.snd).Nodup → M.Pairwise (fun x y => ¬ rkG ds y.2 < rkG ds x.2) → xs.Pairwise (ltG ds) := by
      intro xs
      induction xs with
      | nil => intro M _ _ _ _; exact List.Pairwise.nil
      | cons x xs ih =>
        intro M h hx hn hp
        cases M with
        | nil => cases h
        | cons r M =>
          rw [List.map_cons, List.map_cons] at h
          injection h with h3 h4
          obtain ⟨p1, p2⟩ := List.pairwise_cons.mp hp
          rw [List.map_cons] at hn
          obtain ⟨n1, n2⟩ := List.nodup_cons.mp hn
          refine List.pairwise_cons.mpr ⟨fun y hy => ?_, ih M h4 (fun z hz => hx z (List.mem_cons_of_mem _ hz)) n2 p2⟩
          have hy' : kOf y ∈ xs.map kOf := List.mem_map_of_mem hy
          rw [h4] at hy'
          obtain ⟨q, hq, e⟩ := List.mem_map.mp hy'
          have ne : r.2 ≠ q.2 := fun z => n1 (by rw [z]; exact List.mem_map_of_mem hq)
          have rx : rdG ds x = rkG ds r.2 := by unfold rdG; rw [h3]
          have ry : rdG ds y = rkG ds q.2 := by unfold rdG; rw [← e]
          have le := p1 q hq
          have ne2 : rdG ds x ≠ rdG ds y := fun z => by
            have := (O.cmp x (hx x List.mem_cons_self) y (hx y (List.mem_cons_of_mem _ hy))).2.2 z
            subst this
            rw [h3] at e
            exact ne (Option.some.inj e).symm
          show rdG ds x < rdG ds y
          omega
    exact gen es L' e2 e3 nd up
  obtain ⟨su, sm⟩ := srtG_up O
  have e : es = srtG ds := by
    refine up_unique (r := ltG ds) (fun x y a b => by have a : rdG ds x < rdG ds y := a; have b : rdG ds y < rdG ds x := b; omega) es (srtG ds) esUp su fun x => ?_
    rw [sm]
    constructor
    · exact e3 x
    · intro hx
      obtain ⟨k, g3, g4⟩ := h2 x hx
      obtain ⟨r, hr, er⟩ := List.mem_map.mp ((pm.map Prod.snd).mem_iff.mpr g4)
      have hk : some k ∈ es.map kOf := by
        rw [e2, ← er]
        exact List.mem_map.mpr ⟨r, hr, rfl⟩
      obtain ⟨y, hy, ey⟩ := List.mem_map.mp hk
      rw [kOf_inj x y k g3 ey]
      exact hy
  rw [← e]
  exact e1
end
end MR
set_option maxRecDepth 100000
set_option maxHeartbeats 4000000
/-! MirSh: sorted(set(xs)) of few tuples of any kind. -/
namespace MR
open PySem L2 PyProof.Rows NSet
theorem insG_len (all : List IV) (d : IV) : ∀ es : List IV, (insG all d es).length ≤ es.length + 1
  | [] => by simp [insG]
  | e :: es => by
    have := insG_len all d es
    unfold insG
    split
    · simp
    · split
      · simp
      · simp only [List.length_cons]; omega
theorem srtG_lenG (all : List IV) : ∀ (ds acc : List IV), (ds.foldl (fun acc d => insG all d acc) acc).length ≤ acc.length + ds.length
  | [], acc => by simp
  | d :: ds, acc => by
    have h1 := srtG_lenG all ds (insG all d acc)
    have h2 := insG_len all d acc
    rw [List.foldl_cons, List.length_cons]
    omega
theorem srtG_len (ds : List IV) : (srtG ds).length ≤ ds.length := by
  have := srtG_lenG ds ds []
  simpa [srtG] using this
section
variable {X : Cx} {G : Gx} {W : WX}
def RSG (w : World) (G : Gx) (_ : L2.St) (F : AP1) (H : Hp) (v : V) (ds : List IV) : Prop := ∃ a L, v = V.ref a ∧ H a = some (NSet.setO w a L) ∧ okG ds = true ∧
  (∀ r ∈ L, ∃ d ∈ ds, Fz G F H (.ref r.1) d ∧ kOf d = some r.2) ∧ ∀ d ∈ ds, ∃ k, kOf d = some k ∧ k ∈ L.map Prod.snd
abbrev tsegOf (w : World) (G : Gx) (W : WX) (m : EL) : TE := tOf (RSG w) G W m
def keysG (ds : List IV) : List NestedKey := ds.filterMap kOf
theorem keysG_mem {ds : List IV} {k : NestedKey} : k ∈ keysG ds ↔ ∃ d ∈ ds, kOf d = some k := by
  unfold keysG
  rw [List.mem_filterMap]
theorem keysG_len (ds : List IV) : (keysG ds).length ≤ ds.length := List.length_filterMap_le _ _
theorem rows_okG {F : AP1} {H : Hp} {ds : List IV} {L : List Row} (O : OkG ds) (h : ∀ r ∈ L, ∃ d ∈ ds, Fz G F H (.ref r.1) d ∧ kOf d = some r.2) : RowsOk G.K H (keysG ds) L := fun r hr => by
  obtain ⟨d, h1, h2, h3⟩ := h r hr
  obtain ⟨ks, g1, g2, g3⟩ := O.tup d h1
  refine ⟨h2.vkey h3, ?_, keysG_mem.mpr ⟨d, h1, h3⟩⟩
  rw [h3] at g1
  rw [Option.some.inj g1]
  exact g2
theorem keysG_tup {ds : List IV} (O : OkG ds) : ∀ k ∈ keysG ds, (∃ ks, k = .tup ks) ∧ k.data.depth ≤ 10 := fun k hk => by
  obtain ⟨d, hd, e⟩ := keysG_mem.mp hk
  obtain ⟨ks, g1, g2, g3⟩ := O.tup d hd
  rw [e] at g1
  cases g1
  exact ⟨⟨ks, rfl⟩, g3⟩
theorem keysG_lt {ds : List IV} (O : OkG ds) : ∀ k ∈ keysG ds, ∀ k' ∈ keysG ds, PySem.W.alike k.data k'.data = true ∧ PySem.W.dataLt k.data k'.data = decide (rkG ds k < rkG ds k') := fun k hk k' hk' => by
  obtain ⟨d, hd, e⟩ := keysG_mem.mp hk
  obtain ⟨d', hd', e'⟩ := keysG_mem.mp hk'
  obtain ⟨c1, c2, _⟩ := O.cmp d hd d' hd'
  simp only [kdG, rdG, e, e'] at c1 c2
  exact ⟨c1, c2⟩
def srtSG (ds : List IV) : Option (List IV) := if okG ds = true then some (srtG ds) else none
def iSortG (M : EL) : E := fun ρ => (M ρ).bind fun ds ρ1 => match srtSG ds with
  | some xs => .ok (.lst xs) ρ1
  | none => .no
theorem iSortG_fz (M : EL) : ∀ ρ d ρ', iSortG M ρ = .ok d ρ' → canFz d = true := by
  intro ρ d ρ' h
  obtain ⟨xs, ρ1, _, h1⟩ := Rz.bind_ok h
  split at h1
  · cases h1; rfl
  · cases h1
theorem q_sortG {w : World} {M : EL} : ∀ σ H Q, toOf G W (iSortG M) σ H Q → tCB (rSortedN G.K w) (tCons (tsegOf w G W M) tNil) σ H Q := by
  rintro σ H Q ⟨ρ, F, fp, e, h⟩
  refine ocO_bind e h fun v ds ρ1 H1 F1 fp1 s1 e1 r1 h1 => ?_
  obtain ⟨a, L, ev, hD, ok, g1, g2⟩ := r1
  subst ev
  have O := okG_ok ok
  have e2 : srtSG ds = some (srtG ds) := by
    unfold srtSG
    rw [if_pos ok]
  rw [e2] at h1
  refine ⟨a, L, keysG ds, rkG ds, rfl, hD, rows_okG O g1, keysG_tup O, keysG_lt O, fun L' p pm nd up hp => ?_⟩
  have fz := srt_rowsG O g1 g2 pm nd up
  refine ocO_new h1 e1 hp fz ?_
  rw [fz.len]
  have h1 := srtG_len ds
  have h2 := O.few
  have h3 : (60 : Nat) ≤ big := by decide
  omega
theorem o_sortG (o : Ok X G W) {e : Expr} {p pos : Pos} {M : EL} (hg : Gl X "sorted") (hm : X.mg "sorted" = none) (he : PE X e (tsegOf X.w G W M)) (hs : starEach [e] X.env = [(false, eval e X.env)] := by rfl) :
    PE X (.Call (.Name "sorted" p) [e] [] pos) (toOf G W (iSortG M)) := by
  have h : CallR X (.builtin "sorted") (rSortedN X.K X.w) := cr_sortedN o.calm (by have := o.hu; omega)
  rw [o.K] at h
  exact PE.imp (pe_callB h hg hm PyProof.Rows.boot_sorted (pa_cons he pa_nil hs) (by decide) (by decide) hs) q_sortG
theorem m_sortG (o : Ok X G W) {e : Expr} {p pos : Pos} {M : EL} (hg : Gl X "sorted") (hm : X.mg "sorted" = none) (he : PE X e (tsegOf X.w G W M)) (hs : starEach [e] X.env = [(false, eval e X.env)] := by rfl) :
    PE X (.Call (.Name "sorted" p) [e] [] pos) (teOf G W (iSortG M)) := m_frz (o_sortG o hg hm he hs) (iSortG_fz M)
/-! ### set(xs) -/
def fSetG : List IV → Option (List IV)
  | [.lst xs] => if okG xs = true then some xs else none
  | _ => none
def iSetG (J : EAv) : EL := fun ρ => (J ρ).bind fun as ρ1 => ofO ((rsA as ρ1).bind fSetG) ρ1
theorem rows_ofG {F : AP1} {H : Hp} {all : List IV} (O : OkG all) : ∀ {vs : List V} {ds : List IV}, FzA G F H vs ds → (∀ d ∈ ds, d ∈ all) → ∃ ks : List Row, vs = ks.map (fun r => V.ref r.1) ∧ (∀ r ∈ ks, ∃ d ∈ ds, Fz G F H (.ref r.1) d ∧ kOf d = some r.2) ∧ ∀ d ∈ ds, ∃ r ∈ ks, kOf d = some r.2
  | _, _, .nil, _ => ⟨[], rfl, fun r h => (by cases h), fun r h => (by cases h)⟩
  | _, _, @FzA.cons _ _ _ v vs d ds a b, ok => by
    obtain ⟨ks, e1, e2, e3⟩ := rows_ofG O b fun x hx => ok x (List.mem_cons_of_mem _ hx)
    obtain ⟨l, g1, g2, g3⟩ := O.tup d (ok d List.mem_cons_self)
    obtain ⟨p, hp⟩ : ∃ p, v = .ref p := by
      cases a with
      | tup => exact ⟨_, rfl⟩
      | _ => simp [kOf] at g1
    subst hp
    refine ⟨(p, .tup l) :: ks, by rw [List.map_cons, ← e1], fun r hr => ?_, fun d' hd => ?_⟩
    · rcases List.mem_cons.mp hr with z | z
      · rw [z]; exact ⟨d, List.mem_cons_self, a, g1⟩
      · obtain ⟨d', h1, h2⟩ := e2 r z
        exact ⟨d', List.mem_cons_of_mem _ h1, h2⟩
    · rcases List.mem_cons.mp hd with z | z
      · rw [z]; exact ⟨(p, .tup l), List.mem_cons_self, g1⟩
      · obtain ⟨r, h1, h2⟩ := e3 d' z
        exact ⟨r, List.mem_cons_of_mem _ h1, h2⟩
theorem q_setG {w : World} {J : EAv} : ∀ σ H Q, tsegOf w G W (iSetG J) σ H Q → tCB (rSetN G.K w) (tjOf G W J) σ H Q := by
  rintro σ H Q ⟨ρ, F, fp, e, h⟩
  refine oc_bind e h fun xs as ρ1 H1 F1 fp1 s1 e1 r1 h1 => ?_
  cases hf : (rsA as ρ1).bind fSetG with
  | none => rw [hf] at h1; exact h1.elim
  | some d =>
    rw [hf] at h1
    have h1' : Oc (RSG w) G W σ H1 F1 fp1 (.ok d ρ1) Q := h1
    obtain ⟨ds, g1, g2⟩ := Option.bind_eq_some_iff.mp hf
    have bz := RAs.bz e1 r1 g1
    unfold fSetG at g2
    split at g2
    · rename_i ys
      obtain ⟨v, ev, b⟩ := bz.one
      subst ev
      obtain ⟨p, vs, ev, hp, fa, hz⟩ := b.seqL
      subst ev
      split at g2
      · rename_i ok
        cases g2
        have O := okG_ok ok
        obtain ⟨ks, k1, k2, k3⟩ := rows_ofG O fa fun d h => h
        refine ⟨p, ks, keysG _, rfl, ?_, rows_okG O k2, Nat.lt_of_le_of_lt (keysG_len _) O.few, fun a L ha hL => ?_⟩
        · rw [← k1]; exact SqL.of hp
        · have fr : Fr H1 F1 (upd H1 a (NSet.setO w a L)) F1 := Fr.new ha
          refine h1' _ _ F1 fp1 (fr.stp _) (e1.fr fr) ⟨a, L, rfl, upd_same, ok, fun r hr => ?_, fun d hd => ?_⟩
          · obtain ⟨d, d1, d2, d3⟩ := k2 r (List.mem_of_mem_take (hL.from_ r hr))
            exact ⟨d, d1, d2.mono fr.stq, d3⟩
          · obtain ⟨r, r2, r3⟩ := k3 d hd
            exact ⟨r.2, r3, hL.got r (by rw [List.take_length]; exact r2)⟩
      · cases g2
    · cases g2
theorem s_setG (o : Ok X G W) {e : Expr} {p pos : Pos} {J : EAv} (hg : Gl X "set") (hm : X.mg "set" = none) (ha : PA X [e] (tjOf G W J)) (he : starEach [e] X.env = [(false, eval e X.env)] := by rfl) :
    PE X (.Call (.Name "set" p) [e] [] pos) (tsegOf X.w G W (iSetG J)) := by
  have h : CallR X (.type "set") (rSetN X.K X.w) := cr_setN o.calm (by have := o.hu; omega)
  rw [o.K] at h
  exact PE.imp (pe_callTy h hg hm PyProof.Rows.boot_set ha (by decide) (by decide) he) q_setG
end
end MR
set_option maxRecDepth 100000
set_option maxHeartbeats 4000000
/-! MirDf: a call that leaves the last arguments to their defaults. -/
namespace MR
open PySem L2 PyProof.Rows
def jApp (J : EAv) (dl : List IV) : EAv := fun ρ => (J ρ).bind fun as ρ1 => .ok (as ++ dl.map .v) ρ1
theorem ev_japp {J : EAv} {dl : List IV} {ρ ρ1 : Env} {as : List Av} (h : J ρ = .ok as ρ1) : jApp J dl ρ = .ok (as ++ dl.map .v) ρ1 := by
  unfold jApp
  rw [h]
  rfl
theorem RAs.app {G : Gx} {σ : L2.St} {F : AP1} {H : Hp} {dvs : List V} {dl : List IV} (d : FzA G F H dvs dl) : ∀ {vs : List V} {as : List Av}, RAs G σ F H vs as → RAs G σ F H (vs ++ dvs) (as ++ dl.map .v)
  | _, _, .cons a b => .cons a (RAs.app d b)
  | _, _, .nil => go d
where go {G : Gx} {σ : L2.St} {F : AP1} {H : Hp} : ∀ {dvs : List V} {dl : List IV}, FzA G F H dvs dl → RAs G σ F H dvs (dl.map .v)
  | _, _, .nil => .nil
  | _, _, .cons a b => .cons a (go b)
section
variable {P : Program} {w : World} {K : Frag} {mg : Str → Option Value} {base : Heap}
structure FnMD (P : Program) (w : World) (K : Frag) (mg : Str → Option Value) (base : Heap) (G : Gx) (k : Nat) (x : Str) (ks : List Bool) (dl : List IV) (fn : Fn) : Prop where
  ex : ∃ (f : Addr) (fd : FuncData) (ps : List Str) (dvs : List V) (ds : List Value), mg x = some (.ref f) ∧ PySem.W.keepIn K (.ref f) = true ∧ Binds K fd ps ds ∧ Vals dvs ds ∧ (∀ F H, FzA G F H dvs dl) ∧ FnOk P w K mg base (L2.CX P w) k f fd ps (spOf G ks fn)
theorem FnMD.mono {G : Gx} {k j : Nat} {x : Str} {ks : List Bool} {dl : List IV} {m : Fn} (h : FnMD P w K mg base G k x ks dl m) (e : k ≤ j) : FnMD P w K mg base G j x ks dl m := by
  obtain ⟨f, fd, ps, dvs, ds, h1, h2, h3, h4, h5, h6⟩ := h
  exact ⟨f, fd, ps, dvs, ds, h1, h2, h3, h4, h5, h6.mono e⟩
end
section
variable {X : Cx} {G : Gx} {W : WX}
theorem q_callFD {ks : List Bool} {fn : Fn} {J : EAv} {dl : List IV} {dvs : List V} (hd : ∀ F H, FzA G F H dvs dl) : ∀ σ H Q, teOf G W (iCallF ks fn (jApp J dl)) σ H Q → tCallSD (spOf G ks fn) dvs (WE W) (tjOf G W J) σ H Q := by
  rintro σ H Q ⟨ρ, F, fp, e, h⟩
  have h' : iCallF ks fn (jApp J dl) ρ = (J ρ).bind fun as ρ1 => callF ks fn (as ++ dl.map .v) ρ1 := by
    unfold iCallF jApp
    cases J ρ <;> rfl
  rw [h'] at h
  exact oc_bind e h fun vs as ρ1 H1 F1 fp1 s1 e1 r1 h1 => call_sp e1 (RAs.app (hd F1 H1) r1) h1
theorem m_callMD (o : Ok X G W) {k : Nat} {x : Str} {ks : List Bool} {fn : Fn} {dl : List IV} {e : Expr} {es : List Expr} {p pos : Pos} {J : EAv} (Fo : FnMD X.prog X.w X.K X.mg X.base G k x ks dl fn) (hr : Room k X.A) (ha : PA X (e :: es) (tjOf G W J)) (hg : Gl X x := by rfl) (hdb : (x == ("__debug__" : Str)) = false := by decide)
    (he : starEach (e :: es) X.env = (false, eval e X.env) :: starEach es X.env := by rfl) (hpl : (backTo pos (starEach es X.env)).any (·.1) = false := by rfl) : PE X (.Call (.Name x p) (e :: es) [] pos) (teOf G W (iCallF ks fn (jApp J dl))) := by
  obtain ⟨f, fd, ps, dvs, ds, h1, h2, h3, h4, h5, h6⟩ := Fo.ex
  exact PE.imp (pe_callSD h6 hr hg h1 h2 h3 h4 (fun σ => passAt o.tk σ) ha hdb he hpl) (q_callFD h5)
end
end MR
set_option maxRecDepth 100000
set_option maxHeartbeats 4000000
/-! MirSl: sorted(xs) of a list of few tuples; len(set(xs)). -/
namespace MR
open PySem L2 PyProof.Rows NSet
/-! ### the rules -/
def rSortedL (K : PySem.W.Frag) : List V → Hp → VK → Prop := fun xs H Q => ∃ (l : Addr) (ks : List Row) (C : List NestedKey), xs = [V.ref l] ∧ SqL K H l (ks.map fun r => V.ref r.1) ∧ RowsOk K H C ks ∧
  (∀ k ∈ C, (∃ x r, k.data = .tuple (x :: r)) ∧ k.data.depth ≤ 10) ∧ (∀ k ∈ C, ∀ k' ∈ C, PySem.W.alike k.data k'.data = true) ∧ ks.length < 60 ∧
  ∀ (ks' : List Row) (p : Addr), ks'.Perm ks → ks'.Pairwise (fun x y => PySem.W.dataLt y.2.data x.2.data = false) → H p = none → Q (.ref p) (upd H p (.lst (ks'.map fun r => V.ref r.1)))
theorem each_refs : ∀ {out : List Value} {L : List Row}, PySem.W.EachIs (fun v (r : Row) => v = Value.ref r.1) out L → out = L.map fun r => Value.ref r.1
  | _, _, .nil => rfl
  | _, _, .cons h t => by rw [h, each_refs t]; rfl
theorem refs_each (R : Value → Row → Prop) : ∀ (L : List Row), (∀ r ∈ L, R (.ref r.1) r) → PySem.W.EachIs R (L.map fun r => Value.ref r.1) L
  | [], _ => .nil
  | r :: L, h => .cons (h r List.mem_cons_self) (refs_each R L fun x hx => h x (List.mem_cons_of_mem _ hx))
section
variable {X : Cx}
theorem cr_sortedL (room : X.A.units + 20 < cLine) : CallR X (.builtin "sorted") (rSortedL X.K) := by
  intro pins s σ H xs us Q I r h
  obtain ⟨l, ks, C, e, hl, hk, hC, hal, hlen, q⟩ := h
  subst e
  rw [Vals.ref1 r]
  obtain ⟨its, rv, pl, hz⟩ := I.list hl
  have eits := refs_rows rv
  refine PySem.W.sorted_data (R := fun v (r : Row) => v = Value.ref r.1) (enc := fun r : Row => r.2.data) (bs := ks) pl.isList ?_ ?_ ?_ ?_ (by rw [sizeLine_eq]; omega) (fun b hb => ?_) fun out ho eo => ?_
  · have := refs_each (fun v (r : Row) => v = Value.ref r.1) ks fun r _ => rfl
    rw [← eits] at this
    exact this
  · have := refs_each (fun v (r : Row) => ∃ as, Reads s.heap v r.2.data as) ks fun r hr => ((hk r hr).1.pure I (u := .ref r.1) rfl).reads
    rw [← eits] at this
    exact this
  · intro d hd d' hd'
    obtain ⟨r, hr, rfl⟩ := List.mem_map.mp hd
    obtain ⟨r', hr', rfl⟩ := List.mem_map.mp hd'
    exact hal _ (hk r hr).2.2 _ (hk r' hr').2.2
  · refine .inl fun d hd => ?_
    obtain ⟨r, hr, rfl⟩ := List.mem_map.mp hd
    exact (hC _ (hk r hr).2.2).1
  · have := (hC _ (hk b hb).2.2).2
    omega
  · let L' := ks.mergeSort (PySem.W.dataLe false fun r : Row => r.2.data)
    have eout : out = L'.map fun r => Value.ref r.1 := each_refs eo
    have pm : L'.Perm ks := List.mergeSort_perm ks _
    have T : PySem.W.TotalLe (PySem.W.dataLe false fun r : Row => r.2.data) := PySem.W.sortLe_total _ _ _
    have pw : L'.Pairwise fun x y => PySem.W.dataLe false (fun r : Row => r.2.data) x y = true := List.pairwise_mergeSort (fun a b c h1 h2 => T.trans a b c h1 h2) (fun a b => Bool.or_eq_true_iff.mpr (T.total a b)) ks
    have pw' : L'.Pairwise fun x y => PySem.W.dataLt y.2.data x.2.data = false := pw.imp fun {a b} z => by
      rw [PySem.W.dataLe_eq] at z
      simpa using z
    obtain ⟨ep, he'⟩ := PyProof.Rows.sortedAll_at s.heap its out.toArray
    have hlen' : (L'.map fun r => V.ref r.1).length ≤ sizeLine := by rw [List.length_map, pm.length_eq, sizeLine_eq]; omega
    exact ⟨.ref _, upd H (s.heap.objs.size + 1) (.lst (L'.map fun r => V.ref r.1)), I.laid (t' := s.toks) (fun _ _ => PyProof.Rows.sortedAll_old) (Nat.le_succ _) ⟨hlen', out, ep, by rw [eout]; exact rows_refs L', he'⟩, rfl, q L' _ pm pw' (I.hok.fresh (Nat.le_succ _))⟩
def rLenSet (K : PySem.W.Frag) (w : World) : List V → Hp → VK → Prop := fun xs H Q => ∃ (a : Addr) (L : List Row) (C : List NestedKey), xs = [V.ref a] ∧ H a = some (setO w a L) ∧ RowsOk K H C L ∧ ((L.map Prod.snd).Nodup → Q (.int L.length) H)
theorem cr_lenSet : CallR X (.builtin "len") (rLenSet X.K X.w) := by
  intro pins s σ H xs us Q I r h
  obtain ⟨a, L, C, e, ha, hL, q⟩ := h
  subst e
  have S0 : SObj X.w s.heap a L := (I.hok a _ ha).1
  obtain ⟨es, ep, t, R⟩ := S0.tab (hL.kats (K := X.K) I)
  rw [Vals.ref1 r]
  obtain ⟨o, ho, hex, hdat⟩ := R.obj
  have hsz := R.sz
  have hsm := R.small
  have hes : es.size = L.length := by
    have := congrArg List.length R.ent
    simpa [ents] using this
  refine PySem.call_len_set ho hex hdat R.fit (by omega) ?_
  rw [hes]
  exact ⟨.int _, H, I.tok _, ⟨_, rfl⟩, q R.nodup⟩
end
/-! ### sorted(xs), xs a list of tuples; equal ones stay -/
def neT : IV → Bool
  | .tup (_ :: _) => true
  | _ => false
def okL (ds : List IV) : Bool := okG ds && ds.all neT
def insL (all : List IV) (d : IV) : List IV → List IV
  | [] => [d]
  | e :: es => if rdG all d < rdG all e then d :: e :: es else e :: insL all d es
def isrt (ds : List IV) : List IV := ds.foldl (fun acc d => insL ds d acc) []
abbrev leG (all : List IV) (a b : IV) : Prop := ¬ rdG all b < rdG all a
theorem insL_perm (all : List IV) (d : IV) : ∀ es : List IV, (insL all d es).Perm (d :: es)
  | [] => .refl _
  | e :: es => by
    unfold insL
    split
    · exact .refl _
    · exact ((insL_perm all d es).cons e).trans (.swap d e es)
theorem insL_up (all : List IV) (d : IV) : ∀ es : List IV, es.Pairwise (leG all) → (insL all d es).Pairwise (leG all)
  | [], _ => by simp [insL]
  | e :: es, h => by
    obtain ⟨h1, h2⟩ := List.pairwise_cons.mp h
    unfold insL
    split
    · rename_i c
      refine List.pairwise_cons.mpr ⟨fun y hy => ?_, h⟩
      rcases List.mem_cons.mp hy with z | z
      · rw [z]; show ¬ _ < _; omega
      · have : ¬ rdG all y < rdG all e := h1 y z
        show ¬ _ < _
        omega
    · rename_i c
      refine List.pairwise_cons.mpr ⟨fun y hy => ?_, insL_up all d es h2⟩
      rcases List.mem_cons.mp ((insL_perm all d es).mem_iff.mp hy) with z | z
      · rw [z]; exact c
      · exact h1 y z
theorem isrt_gen (all : List IV) : ∀ (ds acc : List IV), acc.Pairwise (leG all) → (ds.foldl (fun acc d => insL all d acc) acc).Pairwise (leG all) ∧ (ds.foldl (fun acc d => insL all d acc) acc).Perm (ds ++ acc)
  | [], acc, h => ⟨h, .refl _⟩
  | d :: ds, acc, h => by
    obtain ⟨a, b⟩ := isrt_gen all ds (insL all d acc) (insL_up all d acc h)
    refine ⟨a, ?_⟩
    rw [List.foldl_cons]
    refine b.trans ?_
    refine ((insL_perm all d acc).append_left ds).trans ?_
    exact List.perm_middle
theorem isrt_ok (ds : List IV) : (isrt ds).Pairwise (leG ds) ∧ (isrt ds).Perm ds := by
  obtain ⟨a, b⟩ := isrt_gen ds ds [] List.Pairwise.nil
  exact ⟨a, by rw [List.append_nil] at b; exact b⟩
theorem same_sort {r : IV → IV → Prop} : ∀ (l m : List IV), l.Perm m → (∀ x ∈ l, ∀ y ∈ l, r x y → r y x → x = y) → l.Pairwise r → m.Pairwise r → l = m
  | [], m, p, _, _, _ => (List.nil_perm.mp p).symm
  | x :: l, [], p, _, _, _ => by have := p.length_eq; cases this
  | x :: l, y :: m, p, as, hl, hm => by
    obtain ⟨l1, l2⟩ := List.pairwise_cons.mp hl
    obtain ⟨m1, m2⟩ := List.pairwise_cons.mp hm
    have e : x = y := by
      have hx : x ∈ y :: m := p.mem_iff.mp List.mem_cons_self
      have hy : y ∈ x :: l := p.mem_iff.mpr List.mem_cons_self
      rcases List.mem_cons.mp hx with z | z
      · exact z
      · rcases List.mem_cons.mp hy with q | q
        · exact q.symm
        · exact as x List.mem_cons_self y hy (l1 y q) (m1 x z)
    subst e
    rw [same_sort l m p.cons_inv (fun a ha b hb => as a (List.mem_cons_of_mem _ ha) b (List.mem_cons_of_mem _ hb)) l2 m2]
theorem each_perm {α β : Type} {R : α → β → Prop} {as as' : List α} (p : as.Perm as') : ∀ {bs : List β}, PySem.W.EachIs R as bs → ∃ bs', bs.Perm bs' ∧ PySem.W.EachIs R as' bs' := by
  induction p with
  | nil => intro bs h; cases h; exact ⟨[], .refl _, .nil⟩
  | cons x _ ih =>
    intro bs h
    cases h with
    | cons h1 h2 =>
      obtain ⟨bs', q1, q2⟩ := ih h2
      exact ⟨_, q1.cons _, .cons h1 q2⟩
  | swap x y l =>
    intro bs h
    cases h with
    | cons h1 h2 =>
      cases h2 with
      | cons h3 h4 => exact ⟨_, .swap _ _ _, .cons h3 (.cons h1 h4)⟩
  | trans _ _ ih1 ih2 =>
    intro bs h
    obtain ⟨b1, q1, q2⟩ := ih1 h
    obtain ⟨b2, q3, q4⟩ := ih2 q2
    exact ⟨b2, q1.trans q3, q4⟩
section
variable {X : Cx} {G : Gx} {W : WX}
def RowD (G : Gx) (F : AP1) (H : Hp) (r : Row) (d : IV) : Prop := Fz G F H (.ref r.1) d ∧ kOf d = some r.2
theorem rows_eachG {F : AP1} {H : Hp} {all : List IV} (O : OkG all) : ∀ {vs : List V} {ds : List IV}, FzA G F H vs ds → (∀ d ∈ ds, d ∈ all) → ∃ ks : List Row, vs = ks.map (fun r => V.ref r.1) ∧ PySem.W.EachIs (RowD G F H) ks ds
  | _, _, .nil, _ => ⟨[], rfl, .nil⟩
  | _, _, @FzA.cons _ _ _ v vs d ds a b, ok => by
    obtain ⟨ks, e1, e2⟩ := rows_eachG O b fun x hx => ok x (List.mem_cons_of_mem _ hx)
    obtain ⟨l, g1, g2, g3⟩ := O.tup d (ok d List.mem_cons_self)
    obtain ⟨p, hp⟩ : ∃ p, v = .ref p := by
      cases a with
      | tup => exact ⟨_, rfl⟩
      | _ => simp [kOf] at g1
    subst hp
    exact ⟨(p, .tup l) :: ks, by rw [List.map_cons, ← e1], .cons ⟨a, g1⟩ e2⟩
theorem each_fza {F : AP1} {H : Hp} : ∀ {ks : List Row} {ds : List IV}, PySem.W.EachIs (RowD G F H) ks ds → FzA G F H (ks.map fun r => V.ref r.1) ds
  | _, _, .nil => .nil
  | _, _, .cons h t => .cons h.1 (each_fza t)
theorem each_mem {F : AP1} {H : Hp} : ∀ {ks : List Row} {ds : List IV}, PySem.W.EachIs (RowD G F H) ks ds → ∀ r ∈ ks, ∃ d ∈ ds, RowD G F H r d
  | _, _, .nil, r, h => by cases h
  | _, _, .cons h t, r, hr => by
    rcases List.mem_cons.mp hr with z | z
    · rw [z]; exact ⟨_, List.mem_cons_self, h⟩
    · obtain ⟨d, h1, h2⟩ := each_mem t r z
      exact ⟨d, List.mem_cons_of_mem _ h1, h2⟩
theorem each_up {F : AP1} {H : Hp} {all : List IV} (O : OkG all) : ∀ {ks : List Row} {ds : List IV}, PySem.W.EachIs (RowD G F H) ks ds → (∀ d ∈ ds, d ∈ all) → ks.Pairwise (fun x y => PySem.W.dataLt y.2.data x.2.data = false) → ds.Pairwise (leG all)
  | _, _, .nil, _, _ => List.Pairwise.nil
  | r :: ks, d :: ds, .cons h t, hm, hp => by
    obtain ⟨p1, p2⟩ := List.pairwise_cons.mp hp
    refine List.pairwise_cons.mpr ⟨fun y hy => ?_, each_up O t (fun x hx => hm x (List.mem_cons_of_mem _ hx)) p2⟩
    have back : ∀ {ks : List Row} {ds : List IV}, PySem.W.EachIs (RowD G F H) ks ds → ∀ y ∈ ds, ∃ q ∈ ks, RowD G F H q y := by
      intro ks ds t
      induction t with
      | nil => intro y hy; cases hy
      | cons h _ ih =>
        intro y hy
        rcases List.mem_cons.mp hy with z | z
        · rw [z]; exact ⟨_, List.mem_cons_self, h⟩
        · obtain ⟨q, h1, h2⟩ := ih y z
          exact ⟨q, List.mem_cons_of_mem _ h1, h2⟩
    obtain ⟨q, hq, hqy⟩ := back t y hy
    have z := p1 q hq
    have c := (O.cmp y (hm y (List.mem_cons_of_mem _ hy)) d (hm d List.mem_cons_self)).2.1
    simp only [kdG, hqy.2, h.2] at c
    rw [z] at c
    show ¬ rdG all y < rdG all d
    intro lt
    rw [decide_eq_true lt] at c
    cases c
def fSrtL : List IV → Option (List IV)
  | [.lst xs] => if okL xs = true then some (isrt xs) else none
  | _ => none
def iSortL (J : EAv) : E := fun ρ => (J ρ).bind fun as ρ1 => match (rsA as ρ1).bind fSrtL with
  | some xs => .ok (.lst xs) ρ1
  | none => .no
theorem iSortL_fz (J : EAv) : ∀ ρ d ρ', iSortL J ρ = .ok d ρ' → canFz d = true := by
  intro ρ d ρ' h
  obtain ⟨xs, ρ1, _, h1⟩ := Rz.bind_ok h
  split at h1
  · cases h1; rfl
  · cases h1
theorem data_ne {d : IV} {k : NestedKey} (h : kOf d = some k) (hn : neT d = true) : ∃ x r, k.data = .tuple (x :: r) := by
  unfold neT at hn
  split at hn
  · rename_i x xs
    unfold kOf at h
    unfold kOfs at h
    cases h1 : kOf x with
    | none => rw [h1] at h; cases h
    | some k1 =>
      cases h2 : kOfs xs with
      | none => rw [h1, h2] at h; cases h
      | some ks =>
        rw [h1, h2] at h
        cases h
        exact ⟨_, _, rfl⟩
  · cases hn
theorem q_sortL {J : EAv} : ∀ σ H Q, toOf G W (iSortL J) σ H Q → tCB (rSortedL G.K) (tjOf G W J) σ H Q := by
  rintro σ H Q ⟨ρ, F, fp, e, h⟩
  refine ocO_bind e h fun xs as ρ1 H1 F1 fp1 s1 e1 r1 h1 => ?_
  cases hf : (rsA as ρ1).bind fSrtL with
  | none => rw [hf] at h1; exact h1.elim
  | some d =>
    rw [hf] at h1
    obtain ⟨ds, g1, g2⟩ := Option.bind_eq_some_iff.mp hf
    have bz := RAs.bz e1 r1 g1
    unfold fSrtL at g2
    split at g2
    · rename_i ys
      obtain ⟨v, ev, b⟩ := bz.one
      subst ev
      obtain ⟨p, vs, ev, hp, fa, hz⟩ := b.seqL
      subst ev
      split at g2
      · rename_i ok
        cases g2
        obtain ⟨ok1, ok2⟩ : okG ys = true ∧ ys.all neT = true := by
          unfold okL at ok
          rw [Bool.and_eq_true] at ok
          exact ok
        have O := okG_ok ok1
        obtain ⟨ks, k1, k2⟩ := rows_eachG O fa fun d h => h
        have hks : ks.length = ys.length := by
          have a := fa.len
          rw [k1, List.length_map] at a
          exact a
        refine ⟨p, ks, keysG ys, rfl, ?_, rows_okG O (fun r hr => by
          obtain ⟨d, d1, d2⟩ := each_mem k2 r hr
          exact ⟨d, d1, d2.1, d2.2⟩), fun k hk => ?_, fun k hk k' hk' => (keysG_lt O k hk k' hk').1, by rw [hks]; exact O.few, fun ks' a pm pw hn => ?_⟩
        · rw [← k1]; exact SqL.of hp
        · refine ⟨?_, (keysG_tup O k hk).2⟩
          obtain ⟨d, hd, ek⟩ := keysG_mem.mp hk
          exact data_ne ek (List.all_eq_true.mp ok2 d hd)
        · obtain ⟨ds', q1, q2⟩ := each_perm pm.symm k2
          have hm : ∀ d ∈ ds', d ∈ ys := fun d hd => q1.mem_iff.mpr hd
          obtain ⟨su, sp⟩ := isrt_ok ys
          have es : ds' = isrt ys := same_sort (r := leG ys) ds' (isrt ys) (q1.symm.trans sp.symm) (fun x hx y hy a b => (O.cmp x (hm x hx) y (hm y hy)).2.2 (by
            have a : ¬ rdG ys y < rdG ys x := a
            have b : ¬ rdG ys x < rdG ys y := b
            omega)) (each_up O q2 hm pw) su
          rw [es] at q2
          have fz := each_fza q2
          refine ocO_new h1 e1 hn fz ?_
          rw [List.length_map, pm.length_eq, hks]
          have h2 := O.few
          have h3 : (60 : Nat) ≤ big := by decide
          omega
      · cases g2
    · cases g2
theorem o_sortL (o : Ok X G W) {e : Expr} {p pos : Pos} {J : EAv} (hg : Gl X "sorted") (hm : X.mg "sorted" = none) (ha : PA X [e] (tjOf G W J)) (he : starEach [e] X.env = [(false, eval e X.env)] := by rfl) :
    PE X (.Call (.Name "sorted" p) [e] [] pos) (toOf G W (iSortL J)) := by
  have h : CallR X (.builtin "sorted") (rSortedL X.K) := cr_sortedL (by have := o.hu; omega)
  rw [o.K] at h
  exact PE.imp (pe_callB h hg hm PyProof.Rows.boot_sorted ha (by decide) (by decide) he) q_sortL
theorem m_sortL (o : Ok X G W) {e : Expr} {p pos : Pos} {J : EAv} (hg : Gl X "sorted") (hm : X.mg "sorted" = none) (ha : PA X [e] (tjOf G W J)) (he : starEach [e] X.env = [(false, eval e X.env)] := by rfl) :
    PE X (.Call (.Name "sorted" p) [e] [] pos) (teOf G W (iSortL J)) := m_frz (o_sortL o hg hm ha he) (iSortL_fz J)
/-! ### len(set(xs)) -/
def iLenG (M : EL) : E := fun ρ => (M ρ).bind fun ds ρ1 => .ok (.int (srtG ds).length) ρ1
theorem q_lenG {w : World} {M : EL} : ∀ σ H Q, teOf G W (iLenG M) σ H Q → tCB (rLenSet G.K w) (tCons (tsegOf w G W M) tNil) σ H Q := by
  rintro σ H Q ⟨ρ, F, fp, e, h⟩
  refine oc_bind e h fun v ds ρ1 H1 F1 fp1 s1 e1 r1 h1 => ?_
  obtain ⟨a, L, ev, hD, ok, g1, g2⟩ := r1
  subst ev
  have O := okG_ok ok
  refine ⟨a, L, keysG ds, rfl, hD, rows_okG O g1, fun nd => ?_⟩
  have pm : (L.mergeSort fun x y => decide (rkG ds x.2 ≤ rkG ds y.2)).Perm L := List.mergeSort_perm _ _
  have up : (L.mergeSort fun x y => decide (rkG ds x.2 ≤ rkG ds y.2)).Pairwise fun x y => ¬ rkG ds y.2 < rkG ds x.2 := (List.pairwise_mergeSort (le := fun x y : Row => decide (rkG ds x.2 ≤ rkG ds y.2)) (fun a b c h1 h2 => by simp only [decide_eq_true_eq] at *; omega) (fun a b => by simp only [Bool.or_eq_true, decide_eq_true_eq]; omega) L).imp fun {a b} z => by
    have z := of_decide_eq_true z
    omega
  have fz := srt_rowsG O g1 g2 pm ((pm.map Prod.snd).nodup_iff.mpr nd) up
  have hl := fz.len
  rw [List.length_map, pm.length_eq] at hl
  rw [hl]
  exact oc_okR h1 e1 (.int _)
theorem m_lenG (o : Ok X G W) {e : Expr} {p pos : Pos} {M : EL} (hg : Gl X "len") (hm : X.mg "len" = none) (he : PE X e (tsegOf X.w G W M)) (hs : starEach [e] X.env = [(false, eval e X.env)] := by rfl) :
    PE X (.Call (.Name "len" p) [e] [] pos) (teOf G W (iLenG M)) := by
  have h : CallR X (.builtin "len") (rLenSet X.K X.w) := cr_lenSet
  rw [o.K] at h
  exact PE.imp (pe_callB h hg hm boot_len (pa_cons he pa_nil hs) (by decide) (by decide) hs) q_lenG
end
end MR
set_option maxRecDepth 100000
set_option maxHeartbeats 4000000
/-! MirIs: x is True, x is not False. -/
namespace MR
open PySem L2 PyProof.Rows
section
variable {X : Cx}
theorem op_isB : OpR X (compareOp .Is) (fun x y H Q => ∃ d : Bool, y = .bl d ∧ Q (.bl (decide (x = .bl d))) H) := by
  intro pins s σ H x y v u Q I rx ry h
  obtain ⟨d, rfl, q⟩ := h
  cases ry
  cases x with
  | bl b =>
    cases rx
    exact is_bool (fin_bl I q (by cases b <;> cases d <;> rfl))
  | _ => first
    | (cases rx; exact wpAny_pure (fin_bl I q rfl))
    | (obtain ⟨t, rfl⟩ := rx; exact wpAny_pure (fin_bl I q rfl))
theorem op_isntB : OpR X (compareOp .IsNot) (fun x y H Q => ∃ d : Bool, y = .bl d ∧ Q (.bl (!decide (x = .bl d))) H) := by
  intro pins s σ H x y v u Q I rx ry h
  obtain ⟨d, rfl, q⟩ := h
  cases ry
  cases x with
  | bl b =>
    cases rx
    exact isnot_bool (fin_bl I q (by cases b <;> cases d <;> rfl))
  | _ => first
    | (cases rx; exact wpAny_pure (fin_bl I q rfl))
    | (obtain ⟨t, rfl⟩ := rx; exact wpAny_pure (fin_bl I q rfl))
end
def isB (d : Bool) : IV → Bool
  | .bl b => b == d
  | _ => false
def oIsB (x y : IV) : Option IV := match y with
  | .bl d => some (.bl (isB d x))
  | _ => none
def oIsntB (x y : IV) : Option IV := match y with
  | .bl d => some (.bl (!isB d x))
  | _ => none
section
variable {X : Cx} {G : Gx} {W : WX}
theorem Fz.isB {F : AP1} {H : Hp} {v : V} {x : IV} (d : Bool) (h : Fz G F H v x) : decide (v = .bl d) = MR.isB d x := by
  cases h with
  | bl b => cases b <;> cases d <;> rfl
  | _ => rfl
theorem of_isB : OpF G (fun x y H Q => ∃ d : Bool, y = .bl d ∧ Q (.bl (decide (x = .bl d))) H) oIsB := by
  intro F H x y dx dy d Q hx hy hf k
  unfold oIsB at hf
  split at hf
  · cases hy; cases hf
    exact ⟨_, rfl, k _ _ _ (Fr.refl _ _) (by rw [hx.isB]; exact .bl _)⟩
  · cases hf
theorem of_isntB : OpF G (fun x y H Q => ∃ d : Bool, y = .bl d ∧ Q (.bl (!decide (x = .bl d))) H) oIsntB := by
  intro F H x y dx dy d Q hx hy hf k
  unfold oIsntB at hf
  split at hf
  · cases hy; cases hf
    exact ⟨_, rfl, k _ _ _ (Fr.refl _ _) (by rw [hx.isB]; exact .bl _)⟩
  · cases hf
theorem m_isB {a b : Expr} {A B : E} {pos : Pos} (ha : PE X a (teOf G W A)) (hb : PE X b (teOf G W B)) : PE X (.Compare a [.Is] [b] pos) (teOf G W (iBin oIsB A B)) := m_cmp op_isB of_isB ha hb
theorem m_isntB {a b : Expr} {A B : E} {pos : Pos} (ha : PE X a (teOf G W A)) (hb : PE X b (teOf G W B)) : PE X (.Compare a [.IsNot] [b] pos) (teOf G W (iBin oIsntB A B)) := m_cmp op_isntB of_isntB ha hb
theorem n_isB {a b : Expr} {A B : E} {pos : Pos} (ha : PE X a (teOf G W A)) (hb : PE X b (teOf G W B)) : PT X (.Compare a [.Is] [b] pos) (ttOf G W (iCmp oIsB A B)) := n_cmp op_isB of_isB ha hb
theorem n_isntB {a b : Expr} {A B : E} {pos : Pos} (ha : PE X a (teOf G W A)) (hb : PE X b (teOf G W B)) : PT X (.Compare a [.IsNot] [b] pos) (ttOf G W (iCmp oIsntB A B)) := n_cmp op_isntB of_isntB ha hb
end
end MR
set_option maxRecDepth 100000
set_option maxHeartbeats 4000000
/-! MirLd: an own list of own dicts: [dict(x) for x in xs], xs[i][k] = v; it is frozen where it is given up. -/
namespace MR
open PySem L2 PyProof.Rows
section
variable {X : Cx} {G : Gx} {W : WX} {σ : L2.St} {H : Hp} {F : AP1} {fp : FPt} {ρ : Env}
theorem DsAt.len : ∀ {ps : List Addr} {ds : List IV}, DsAt G F H ps ds → ps.length = ds.length
  | _, _, .nil => rfl
  | _, _, .cons _ _ _ t => by rw [List.length_cons, List.length_cons, t.len]
theorem Own.freezeL {v : V} {ds : List IV} {q : AP1} (h : Own G F H v (.lds ds) q) : Fz G (fun a => F a ∨ q a) H v (.lst ds) := by
  have s : Stq H F H (fun a => F a ∨ q a) := ⟨fun _ _ e _ => e, fun _ _ e _ => e, fun _ f => Or.inl f⟩
  cases h with
  | lds h a nd np z e => exact .lst (Or.inr ((e _).mpr (Or.inl rfl))) h ((a.mono s fun _ _ _ ho => ho).fz fun p hp => Or.inr ((e _).mpr (Or.inr hp))) (by rw [List.length_map]; exact z)
theorem EnvR.frzL {i : Nat} {ds : List IV} {v : V} (e : EnvR G F H σ ρ fp) (hi : ρ[i]? = some (.ow (.lds ds))) (hv : σ[i]? = some (some v)) (r : Own G F H v (.lds ds) (fp i)) :
    EnvR G (fun a => F a ∨ fp i a) H σ (ρ.set i (.fz (.lst ds))) (fun j a => j ≠ i ∧ fp j a) := by
  have s : Stq H F H (fun a => F a ∨ fp i a) := ⟨fun _ _ z _ => z, fun _ _ z _ => z, fun _ f => Or.inl f⟩
  refine ⟨fun j d' z => ?_, fun j d' z => ?_, fun j k a h1 h2 => e.dis j k a h1.2 h2.2, fun j a h f => ?_, fun j a h => e.tr j a h.2, fun j a o h => e.ni j a o h.2, fun a f => ?_, by rw [List.length_set]; exact e.len⟩
  · rcases get_set z with ⟨rfl, z1, hl⟩ | ⟨hj, z⟩
    · cases z1
      exact ⟨v, hv, r.freezeL⟩
    · obtain ⟨w, e1, e2⟩ := e.fz j d' z
      exact ⟨w, e1, e2.mono s⟩
  · rcases get_set z with ⟨rfl, z1, hl⟩ | ⟨hj, z⟩
    · cases z1
    · obtain ⟨w, e1, e2⟩ := e.ow j d' z
      exact ⟨w, e1, (e2.mono s fun _ _ z _ => z).congr fun a => ⟨fun h => h.2, fun h => ⟨hj, h⟩⟩⟩
  · rcases f with f | f
    · exact e.nf j a h.2 f
    · exact h.1 (e.dis j i a h.2 f)
  · rcases f with f | f
    · exact e.ft a f
    · exact e.tr i a f
def iMvL (i : Nat) : E := fun ρ => match ρ[i]? with
  | some (.fz d) => .ok d ρ
  | some (.ow (.lds ds)) => .ok (.lst ds) (ρ.set i (.fz (.lst ds)))
  | _ => .no
theorem q_mvL {i : Nat} : ∀ σ H Q, teOf G W (iMvL i) σ H Q → tVar i σ H Q := by
  rintro σ H Q ⟨ρ, F, fp, e, h⟩
  unfold iMvL at h
  split at h
  · rename_i d hd
    obtain ⟨v, e1, e2⟩ := e.fz i d hd
    exact ⟨v, e1, oc_ok h e (Fr.refl _ _) e2⟩
  · rename_i ds hd
    obtain ⟨v, e1, e2⟩ := e.ow i _ hd
    exact ⟨v, e1, h v H _ _ (Stp.frz H F fp) (e.frzL hd e1 e2) e2.freezeL⟩
  · exact h.elim
theorem m_mvL (i : Nat) {x : Str} {pos : Pos} (hN : X.N[i]? = some x := by rfl) (hv : Vis X.env.scope x := by first | exact Or.inl rfl | exact Or.inr (Or.inl rfl) | exact Or.inr (Or.inr rfl)) (hd : (x == ("__debug__" : Str)) = false := by decide)
    (hcd : (x == ("__classdict__" : Str)) = false := by decide) : PE X (.Name x pos) (teOf G W (iMvL i)) := PE.imp (pe_var hN hv hd hcd) q_mvL
/-! ### dict(x) -/
def iDictC (A : E) : E := fun ρ => (A ρ).bind fun d ρ1 => match d with
  | .dic ks => .ok (.dic ks) ρ1
  | _ => .no
theorem ocO_newD {ks : List (Key × IV)} {Q : VK} {p : Addr} {vs : List (Key × V)} (h : OcO G W σ H F fp (.ok (.dic ks) ρ) Q) (e : EnvR G F H σ ρ fp) (hp : H p = none) (a : FzP G F H vs ks) (z : vs.length ≤ big) : Q (.ref p) (upd H p (.dK vs)) := by
  have fr : Fr H F (upd H p (.dK vs)) F := Fr.new hp
  refine h (.ref p) _ F fp (fun b => b = p) (fr.stp _) (e.fr fr) (.dic upd_same (FzP.mono fr.stq a) z fun _ => Iff.rfl) ⟨?_, ?_, ?_, ?_, ?_⟩
  · intro b hb; rw [hb]; exact hp
  · intro b hb q; rw [hb, upd_same] at q; cases q
  · intro b hb f; rw [hb] at f; exact e.ft p f hp
  · intro b hb; rw [hb]; rintro ⟨i, f⟩; exact e.tr i p f hp
  · intro b o hb q; rw [hb, upd_same] at q; cases q; exact fun z => z
theorem q_dictC {A : E} : ∀ σ H Q, toOf G W (iDictC A) σ H Q → tCB (fun xs H Q => ∃ (a : Addr) (kvs : List (Key × V)), xs = [V.ref a] ∧ Rd H a (.dK kvs) ∧ ∀ p, H p = none → Q (.ref p) (upd H p (.dK kvs))) (tCons (teOf G W A) tNil) σ H Q := by
  rintro σ H Q ⟨ρ, F, fp, e, h⟩
  refine ocO_bind e h fun v d ρ1 H1 F1 fp1 s1 e1 r1 h1 => ?_
  cases d with
  | dic ks =>
    cases r1 with
    | dic f hp a z => exact ⟨_, _, rfl, Or.inl hp, fun p hn => ocO_newD h1 e1 hn a z⟩
  | _ => exact h1.elim
theorem o_dictC (o : Ok X G W) {e : Expr} {p pos : Pos} {A : E} (hg : Gl X "dict") (hm : X.mg "dict" = none) (he : PE X e (teOf G W A)) (hs : starEach [e] X.env = [(false, eval e X.env)] := by rfl) :
    PE X (.Call (.Name "dict" p) [e] [] pos) (toOf G W (iDictC A)) :=
  PE.imp (pe_callTy call_dictD hg hm PyProof.Rows.boot_dict (pa_cons he pa_nil hs) (by decide) (by decide) hs) q_dictC
/-! ### [dict(x) for x in xs] -/
def lcdLoop (t : TM) (el : E) (own : List Nat) : List IV → Env → Rz (List IV)
  | [], ρ => .ok [] ρ
  | d :: ds, ρ => match t d (wipeE ρ own) with
    | none => .no
    | some ρa => match el ρa with
      | .ok (.dic ks) ρc => (lcdLoop t el own ds (restE ρ ρc own)).bind fun ys ρ' => .ok (.dic ks :: ys) ρ'
      | _ => .no
def iLcD (M : EL) (t : TM) (el : E) (own : List Nat) : E := fun ρ => (M ρ).bind fun ds ρ1 => (lcdLoop t el own ds ρ1).bind fun xs ρ2 => .ok (.lds xs) ρ2
theorem DsAt.snoc {p : Addr} {vs : List (Key × V)} {ks : List (Key × IV)} (h : H p = some (.dK vs)) (a : FzP G F H vs ks) (z : vs.length ≤ big) : ∀ {ps : List Addr} {ds : List IV}, DsAt G F H ps ds → DsAt G F H (ps ++ [p]) (ds ++ [.dic ks])
  | _, _, .nil => .cons h a z .nil
  | _, _, .cons h' a' z' t => .cons h' a' z' (DsAt.snoc h a z t)
theorem DsAt.dk : ∀ {ps : List Addr} {ds : List IV}, DsAt G F H ps ds → ∀ p ∈ ps, ∃ vs, H p = some (.dK vs)
  | _, _, .nil, p, h => by cases h
  | _, _, .cons h _ _ t, p, hp => by
    rcases List.mem_cons.mp hp with e | e
    · rw [e]; exact ⟨_, h⟩
    · exact t.dk p e
/-- apart: there, not frozen, of no slot -/
structure Apart (F : AP1) (H : Hp) (P : AP1) (a : Addr) : Prop where
  nf : ¬ F a
  np : ¬ P a
theorem Apart.stp {F F' : AP1} {H H' : Hp} {P P' : AP1} {a : Addr} {o : HO} (w : Apart F H P a) (h : H a = some o) (s : Stp H F P H' F' P') : Apart F' H' P' a ∧ H' a = some o := by
  refine ⟨⟨fun f => ?_, fun f => ?_⟩, s.keep _ _ h w.np⟩
  · rcases s.fnew a f with g | g | g
    · exact w.nf g
    · exact w.np g
    · rw [h] at g; cases g
  · rcases s.pnew a f with g | g
    · exact w.np g
    · rw [h] at g; cases g
structure LdW (G : Gx) (W : WX) (σ : L2.St) (H1 : Hp) (F1 : AP1) (fp1 : FPt) (ds : List IV) (t : TM) (el : E) (own : List Nat) (Q : VK) (D : Addr) (i : Nat) (H : Hp) (ρ : Env) (F : AP1) (fp : FPt) (ps : List Addr) (xs : List IV) : Prop where
  stp : Stp H1 F1 (un fp1) H F (un fp)
  env : EnvR G F H σ ρ fp
  at_ : H D = some (.lst (ps.map V.ref))
  ad : Apart F H (un fp) D
  dsa : DsAt G F H ps xs
  nd : ps.Nodup
  nD : D ∉ ps
  ap : ∀ p ∈ ps, Apart F H (un fp) p
  old : ∀ p ∈ ps, H1 p = none
  len : ps.length ≤ i
  rest : OcO G W σ H1 F1 fp1 ((lcdLoop t el own (ds.drop i) ρ).bind fun ys ρ' => .ok (.lds (xs ++ ys)) ρ') Q
theorem q_lcD {M : EL} {t : TM} {el : E} {own l : List Nat} (hl : ∀ i ∈ l, i ∈ own) : ∀ σ H Q, toOf G W (iLcD M t el own) σ H Q → tLc (tiOf G W M) (tgOf G l t) (ttOf G W0 iYes) (toOf G W0 el) own σ H Q := by
  rintro σ H Q ⟨ρ, F, fp, e, h⟩
  refine ocO_bind e h fun J ds ρ1 H1 F1 fp1 s1 e1 r1 h1 => ?_
  obtain ⟨feeds, hbig⟩ := r1
  intro D hD
  refine ⟨fun i m H => m = ds.length - i ∧ i ≤ ds.length ∧ ∃ ρ F fp ps xs, LdW G W σ H1 F1 fp1 ds t el own Q D i H ρ F fp ps xs, ⟨ds.length, rfl, Nat.zero_le _, ρ1, F1, fp1, [], [], ?_⟩, ?_⟩
  · exact ⟨Stp.new hD, e1.fr (Fr.new hD), upd_same, ⟨fun f => e1.ft D f hD, fun ⟨i, q⟩ => e1.tr i D q hD⟩, .nil, List.nodup_nil, by simp, (fun p hp => by cases hp), (fun p hp => by cases hp), Nat.le_refl _, h1⟩
  rintro i m H' ⟨rfl, hi, ρ, F, fp, ps, xs, w⟩
  have fd := feeds F H' (e1.stq w.stp)
  by_cases hlt : i < ds.length
  · obtain ⟨d, hd⟩ : ∃ d, ds[i]? = some d := ⟨ds[i], List.getElem?_eq_getElem hlt⟩
    obtain ⟨go, yl⟩ := fd.2 i d hd
    have hdrop : ds.drop i = d :: ds.drop (i + 1) := by
      rw [List.drop_eq_getElem_cons hlt]
      congr 1
      rw [List.getElem?_eq_getElem hlt] at hd
      exact Option.some.inj hd
    refine Or.inr ⟨go, fun H2 => i + 1 ≤ ds.length ∧ ∃ ρ F fp ps xs, LdW G W σ H1 F1 fp1 ds t el own Q D (i + 1) H2 ρ F fp ps xs, fun H2 q => ⟨ds.length - (i + 1), by omega, rfl, q⟩, ?_⟩
    intro x H2 y
    obtain ⟨F2, fr, fx⟩ := yl x H2 y
    have rest := w.rest
    rw [hdrop] at rest
    have e2 : EnvR G F2 H2 σ ρ fp := w.env.fr fr
    have st2 : Stp H' F (un fp) H2 F2 (un fp) := fr.stp _
    simp only [lcdLoop] at rest
    refine ⟨wipeE ρ own, F2, fp, d, e2.wipe own, fx, ?_⟩
    cases ht : t d (wipeE ρ own) with
    | none => rw [ht] at rest; exact rest.elim
    | some ρa =>
      rw [ht] at rest
      intro σ2 fp2 e3 p3 so
      have hw := wipe_eq so hl
      refine ⟨hw, ρa, F2, fp2, e3, ?_⟩
      have st3 : Stp H' F (un fp) H2 F2 (un fp2) := ⟨st2.keep, st2.frm, st2.fnew, fun a z => st2.pnew a (p3 a z), st2.dom⟩
      intro b' H3 F3 fp3 s3 e4 rb
      obtain rfl : b' = true := rb
      have st4 : Stp H' F (un fp) H3 F3 (un fp3) := st3.trans s3
      simp only [if_true]
      refine ⟨ρa, F3, fp3, e4, ?_⟩
      cases hel : el ρa with
      | no => simp only [hel] at rest; exact rest.elim
      | ex c p ρc => simp only [hel] at rest; exact rest.elim
      | ok y ρc =>
        simp only [hel] at rest
        cases y with
        | dic ks =>
          intro v H4 F4 fp4 q s4 e5 ow n1
          cases ow with
          | @dic p vs _ _ hp fa hz hq =>
            have pq : q p := (hq p).mpr rfl
            have st5 : Stp H' F (un fp) H4 F4 (un fp4) := st4.trans s4
            obtain ⟨ad5, D5⟩ := w.ad.stp w.at_ st5
            have q5 : Stq H' F H4 F4 := w.env.stq st5
            have H3p : H3 p = none := n1.old p pq
            have H3D : H3 D = some (.lst (ps.map V.ref)) := (w.ad.stp w.at_ st4).2
            have hDp : D ≠ p := fun z => by rw [z, H3p] at H3D; cases H3D
            have hps : ∀ a ∈ ps, ∃ us, H' a = some (.dK us) ∧ H3 a = some (.dK us) ∧ H4 a = some (.dK us) ∧ Apart F4 H4 (un fp4) a := fun a ha => by
              obtain ⟨us, hu⟩ := w.dsa.dk a ha
              exact ⟨us, hu, ((w.ap a ha).stp hu st4).2, ((w.ap a ha).stp hu st5).2, ((w.ap a ha).stp hu st5).1⟩
            have hpn : p ∉ ps := fun hm => by
              obtain ⟨us, _, h3, _⟩ := hps p hm
              rw [H3p] at h3
              cases h3
            have hal : ps.length < big := by have := w.len; omega
            have ap4 : Apart F4 H4 (un fp4) p := ⟨n1.nf p pq, n1.np p pq⟩
            let H5 := upd H4 D (.lst (ps.map V.ref ++ [.ref p]))
            have up : ∀ a, a ≠ D → H5 a = H4 a := fun a z => upd_ne z
            have q6 : Stq H4 F4 H5 F4 := by
              refine ⟨fun a o z f => ?_, fun a o z mm => ?_, fun _ f => f⟩
              · rw [up a fun q => ad5.nf (by rw [← q]; exact f)]; exact z
              · rw [up a fun q => by rw [q, D5] at z; cases z; exact mm]; exact z
            have e6 : EnvR G F4 H5 σ (restE ρ ρc own) fp4 := by
              refine EnvR.upd (e5.rest hw fun j dj z => ?_) ad5.nf ad5.np fun u z => ?_
              · obtain ⟨v, g1, g2⟩ := w.env.fz j dj z
                exact ⟨v, g1, g2.mono q5⟩
              · rw [D5] at z; cases z; exact fun z => z
            have st6 : Stp H1 F1 (un fp1) H5 F4 (un fp4) := by
              have st := w.stp.trans st5
              refine ⟨fun a o z n => ?_, st.frm, st.fnew, st.pnew, fun a z => ?_⟩
              · have : a ≠ D := fun q => by rw [q, hD] at z; cases z
                rw [up a this]; exact st.keep a o z n
              · by_cases hp : a = D
                · rw [hp] at z
                  rw [show H5 D = some (.lst (ps.map V.ref ++ [.ref p])) from upd_same] at z
                  cases z
                · rw [up a hp] at z; exact st.dom a z
            have oldp : H1 p = none := (w.stp.trans st4).dom p H3p
            have nDps : D ∉ ps ++ [p] := by
              rw [List.mem_append, List.mem_singleton]
              rintro (z | z)
              · exact w.nD z
              · exact hDp z
            have ds4 : DsAt G F4 H4 ps xs := w.dsa.mono q5 fun a ha o ho => by
              obtain ⟨us, h1, _, h4, _⟩ := hps a ha
              rw [h1] at ho
              cases ho
              exact h4
            have ds5 : DsAt G F4 H5 (ps ++ [p]) (xs ++ [.dic ks]) := (DsAt.snoc hp fa hz ds4).mono q6 fun a ha o ho => by
              rw [up a fun q => nDps (by rw [← q]; exact ha)]
              exact ho
            refine ⟨ps.map V.ref, D5, by rw [List.length_map]; exact Nat.lt_of_lt_of_le hal big_line, by omega, restE ρ ρc own, F4, fp4, ps ++ [p], xs ++ [.dic ks], st6, e6, by rw [List.map_append]; exact upd_same, ⟨ad5.nf, ad5.np⟩, ds5, ?_, nDps, fun a ha => ?_, fun a ha => ?_, by rw [List.length_append, List.length_singleton]; have := w.len; omega, ?_⟩
            · rw [List.nodup_append]
              exact ⟨w.nd, by simp, fun a ha b hb => by
                rw [List.mem_singleton] at hb
                rw [hb]
                exact fun z => hpn (by rw [← z]; exact ha)⟩
            · rcases List.mem_append.mp ha with z | z
              · obtain ⟨_, _, _, _, h⟩ := hps a z
                exact ⟨h.nf, h.np⟩
              · rw [List.mem_singleton] at z
                rw [z]
                exact ⟨ap4.nf, ap4.np⟩
            · rcases List.mem_append.mp ha with z | z
              · exact w.old a z
              · rw [List.mem_singleton] at z
                rw [z]
                exact oldp
            · have hr : ((lcdLoop t el own (ds.drop (i + 1)) (restE ρ ρc own)).bind fun ys ρ' => Rz.ok (IV.dic ks :: ys) ρ').bind (fun ys ρ' => Rz.ok (IV.lds (xs ++ ys)) ρ')
                  = (lcdLoop t el own (ds.drop (i + 1)) (restE ρ ρc own)).bind fun ys ρ' => Rz.ok (IV.lds (xs ++ [IV.dic ks] ++ ys)) ρ' := by
                cases lcdLoop t el own (ds.drop (i + 1)) (restE ρ ρc own) with
                | ok a b => simp only [Rz.bind, List.append_assoc, List.singleton_append]
                | ex c p b => rfl
                | no => rfl
              rw [← hr]; exact rest
        | _ => exact rest.elim
  · refine Or.inl ⟨fd.1 i (by omega), ?_⟩
    have rest := w.rest
    have hn : ds.drop i = [] := List.drop_eq_nil_iff.mpr (by omega)
    rw [hn] at rest
    have rest' : OcO G W σ H1 F1 fp1 (.ok (.lds (xs ++ [])) ρ) Q := rest
    rw [List.append_nil] at rest'
    refine rest' (.ref D) H' F fp (fun a => a = D ∨ a ∈ ps) w.stp w.env (.lds w.at_ w.dsa w.nd w.nD (by have := w.len; omega) fun _ => Iff.rfl) ⟨?_, ?_, ?_, ?_, ?_⟩
    · rintro a (z | z)
      · rw [z]; exact hD
      · exact w.old a z
    · rintro a (z | z) q
      · rw [z, w.at_] at q; cases q
      · obtain ⟨us, hu⟩ := w.dsa.dk a z
        rw [hu] at q; cases q
    · rintro a (z | z)
      · rw [z]; exact w.ad.nf
      · exact (w.ap a z).nf
    · rintro a (z | z)
      · rw [z]; exact w.ad.np
      · exact (w.ap a z).np
    · rintro a o (z | z) q
      · rw [z, w.at_] at q; cases q; exact fun z => z
      · obtain ⟨us, hu⟩ := w.dsa.dk a z
        rw [hu] at q; cases q; exact fun z => z
theorem o_lcD (o : Ok X G W) {elt tg iter : Expr} {scope : Scope} {own : List (Str × Nat)} {pos : Pos} {M : EL} {t : TM} {l : List Nat} {el : E} (hN : X.N.Nodup) (hi : PI X tg iter (tiOf G W M)) (ok : BlkOk X.N X.env.scope scope own)
    (hg : ∀ (s : Shared) (H : Hp) (C : Addr) (cl : List (Str × Addr)) (fp : List Addr), PG (X.blk s H scope (compEnvC scope cl C X.env) fp) tg (tgOf G l t))
    (he : ∀ (s : Shared) (H : Hp) (C : Addr) (cl : List (Str × Addr)) (fp : List Addr), PE (X.blk s H scope (compEnvC scope cl C X.env) fp) elt (toOf G W0 el)) (hl : ∀ i ∈ l, i ∈ own.map (·.2) := by decide) (hs : ∀ x, foldedSetIterable iter X.env x = pure x := by intro _; rfl) :
    PE X (.ListComp elt [⟨tg, iter, [], 0⟩] scope pos) (toOf G W (iLcD M t el (own.map (·.2)))) := PE.imp (pe_lc o.calm hN hi ok hg (fun _ _ _ _ _ => ts_nil) he hs) (q_lcD hl)
end
end MR
set_option maxRecDepth 100000
set_option maxHeartbeats 4000000
/-! MirLe: xs[i][k] = v and xs[i][k] of an own list of own dicts. -/
namespace MR
open PySem L2 PyProof.Rows
section
variable {X : Cx} {G : Gx} {W : WX} {pin : List Nat}
/-- a key that is a constant or a frozen slot: nothing happens where it is read -/
def tkQ (G : Gx) (K : Env → Option IV) : TE := fun σ H Q => ∃ ρ F fp, EnvR G F H σ ρ fp ∧ ∃ d, K ρ = some d ∧ ∀ v, Fz G F H v d → Q v H
def kC (d : IV) : Env → Option IV := fun _ => some d
def kV (j : Nat) : Env → Option IV := fun ρ => match ρ[j]? with
  | some (.fz d) => some d
  | _ => none
theorem k_str {x j pos} : PE X (.Constant (.str x) j pos) (tkQ G (kC (.str x))) := PE.imp pe_str fun σ H Q ⟨ρ, F, fp, e, d, hd, h⟩ => h _ (by cases hd; exact .str _)
theorem k_var (i : Nat) {x : Str} {pos : Pos} (hN : X.N[i]? = some x := by rfl) (hv : Vis X.env.scope x := by first | exact Or.inl rfl | exact Or.inr (Or.inl rfl) | exact Or.inr (Or.inr rfl)) (hd : (x == ("__debug__" : Str)) = false := by decide)
    (hcd : (x == ("__classdict__" : Str)) = false := by decide) : PE X (.Name x pos) (tkQ G (kV i)) := PE.imp (pe_var hN hv hd hcd) fun σ H Q ⟨ρ, F, fp, e, d, hd, h⟩ => by
  unfold kV at hd
  split at hd
  · rename_i d' h'
    cases hd
    obtain ⟨v, e1, e2⟩ := e.fz i _ h'
    exact ⟨v, e1, h v e2⟩
  · cases hd
theorem DsAt.get {F : AP1} {H : Hp} : ∀ {ps : List Addr} {ds : List IV} {j : Nat} {d : IV}, DsAt G F H ps ds → ds[j]? = some d → ∃ p vs ks, ps[j]? = some p ∧ d = .dic ks ∧ H p = some (.dK vs) ∧ FzP G F H vs ks ∧ vs.length ≤ big
  | _, _, j, _, .nil, h => by simp at h
  | _, _, 0, _, .cons h a z t, e => by
    simp only [List.getElem?_cons_zero, Option.some.injEq] at e
    exact ⟨_, _, _, rfl, e.symm, h, a, z⟩
  | _, _, j + 1, _, .cons h a z t, e => by
    simp only [List.getElem?_cons_succ] at e ⊢
    exact t.get e
theorem DsAt.put {F : AP1} {H : Hp} {pj : Addr} {vs' : List (Key × V)} {ks' : List (Key × IV)} (q : Stq H F (L2.upd H pj (.dK vs')) F) (a' : FzP G F (L2.upd H pj (.dK vs')) vs' ks') (z' : vs'.length ≤ big) : ∀ {ps : List Addr} {ds : List IV} {j : Nat}, DsAt G F H ps ds → ps.Nodup → ps[j]? = some pj → DsAt G F (L2.upd H pj (.dK vs')) ps (ds.set j (.dic ks'))
  | _, _, j, .nil, _, h => by simp at h
  | p :: ps, .dic _ :: ds, 0, .cons h a z t, nd, e => by
    simp only [List.getElem?_cons_zero, Option.some.injEq] at e
    subst e
    obtain ⟨n1, n2⟩ := List.nodup_cons.mp nd
    exact .cons upd_same a' z' (t.mono q fun x hx o ho => by rw [upd_ne fun z => n1 (by rw [← z]; exact hx)]; exact ho)
  | p :: ps, .dic _ :: ds, j + 1, .cons h a z t, nd, e => by
    simp only [List.getElem?_cons_succ] at e
    obtain ⟨n1, n2⟩ := List.nodup_cons.mp nd
    have hne : p ≠ pj := fun z => n1 (by rw [z]; exact List.mem_of_getElem? e)
    exact .cons (by rw [upd_ne hne]; exact h) (a.mono q) z (t.put q a' z' n2 e)
def isLd : Option Sl → Bool
  | some (.ow (.lds _)) => true
  | _ => false
theorem isLd_some {x : Option Sl} (h : isLd x = true) : ∃ ds, x = some (.ow (.lds ds)) := by
  unfold isLd at h
  split at h
  · exact ⟨_, rfl⟩
  · cases h
def stD (ds : List IV) (ix k v : IV) : Option (List IV) := match ix with
  | .int n => (ixN ds.length n).bind fun j => match ds[j]? with
    | some (.dic ks) => match ivKey k with
      | some key => if ks.length < 1000 then some (ds.set j (.dic (putKI ks key v))) else none
      | none => none
    | _ => none
  | _ => none
def sSub2 (i : Nat) (I : E) (K : Env → Option IV) (m : E) : S := fun ρ => (m ρ).bindS fun v ρ1 => if isLd ρ1[i]? = true then (I ρ1).bindS fun ix ρ2 => match ρ2[i]? with
  | some (.ow (.lds ds)) => match K ρ2 with
    | some k => match stD ds ix k v with
      | some ds' => .nx (ρ2.set i (.ow (.lds ds')))
      | none => .no
    | none => .no
  | _ => .no else .no
theorem s_sub2 (o : Ok X G W) (i : Nat) {x : Str} {ie k e : Expr} {I m : E} {K : Env → Option IV} {pos' pos p2 npos : Pos} (he : PE X e (teOf G W m)) (hi : PE X ie (teOf G W I)) (hk : PE X k (tkQ G K)) (hN : X.N[i]? = some x := by rfl)
    (hx : PlainIx ie := by exact fun _ _ => rfl)
    (hv : Vis X.env.scope x := by first | exact Or.inl rfl | exact Or.inr (Or.inl rfl) | exact Or.inr (Or.inr rfl)) (hd : (x == ("__debug__" : Str)) = false := by decide) (hcd : (x == ("__classdict__" : Str)) = false := by decide)
    (ha : ∀ v, assign (.Subscript (.Subscript (.Name x npos) ie p2) k pos') X.env v = (do
      let ov ← holding [v] (eval (.Subscript (.Name x npos) ie p2) X.env)
      let iv ← holding [v, ov] (eval k X.env)
      standAt pos'
      holding [v, ov, iv] (setItem ov iv v)
      release [v, ov, iv] []) := by intro _; rfl)
    (hs : swapsWithSole [.Subscript (.Subscript (.Name x npos) ie p2) k pos'] e pos.line X.env = pure false := by rfl) (hw : swappedStores [.Subscript (.Subscript (.Name x npos) ie p2) k pos'] e X.env = pure none := by rfl)
    (h1 : (assignEach [.Subscript (.Subscript (.Name x npos) ie p2) k pos'] X.env).map (·.2) = [assign (.Subscript (.Subscript (.Name x npos) ie p2) k pos') X.env] := by rfl) : PS X (.Assign [.Subscript (.Subscript (.Name x npos) ie p2) k pos'] e pos) (tsOf G W pin (sSub2 i I K m)) :=
  PS.imp (ps_asg he (pg_sub (pe_ix ix_list (pe_var hN hv hd hcd) hi hx) hk (set_any (by have := o.hu; omega)) ha) hs hw h1) fun D σ H ⟨ρ, F, fp, en, h⟩ => by
    refine ocS_bind en h fun y d ρ1 H1 F1 fp1 s1 e1 r1 h1 => ?_
    split at h1
    · rename_i hw
      obtain ⟨d0, hd0⟩ := isLd_some hw
      obtain ⟨u, g1, _⟩ := e1.ow i _ hd0
      refine ⟨u, g1, ?_⟩
      refine ocS_bind e1 h1 fun iv id ρ2 H2 F2 fp2 s2 e2 r2 h2 => ?_
      have r1' : Fz G F2 H2 y d := r1.mono (e1.stq s2)
      split at h2
      · rename_i ds hd2
        obtain ⟨u', g1', g2⟩ := e2.ow i _ hd2
        obtain rfl : u' = u := by rw [g1] at g1'; cases g1'; rfl
        split at h2
        · rename_i kd hkd
          cases hst : stD ds id kd d with
          | none => rw [hst] at h2; exact h2.elim
          | some ds' =>
            rw [hst] at h2
            unfold stD at hst
            split at hst
            · rename_i n
              obtain ⟨j, hj, hst⟩ := Option.bind_eq_some_iff.mp hst
              split at hst
              · rename_i ks hks
                split at hst
                · rename_i key hkey
                  split at hst
                  · rename_i hz
                    cases hst
                    cases r2.int_inv
                    cases g2 with
                    | @lds p ps _ _ hp a nd np zb hq =>
                      obtain ⟨pj, vs, ks', b1, b2, b3, b4, b5⟩ := a.get hks
                      cases b2
                      have hql := (hq pj).mpr (Or.inr (List.mem_of_getElem? b1))
                      have hpj : pj ≠ p := fun z => np (by rw [← z]; exact List.mem_of_getElem? b1)
                      refine ⟨p, ps.map V.ref, n, .ref pj, rfl, rfl, by rw [o.K]; exact SqL.of hp, ?_, ?_⟩
                      · unfold atI
                        rw [List.length_map, a.len, hj]
                        show (ps.map V.ref)[j]? = _
                        rw [List.getElem?_map, b1]
                        rfl
                      · refine ⟨ρ2, F2, fp2, e2, kd, hkd, fun kv r3 => ?_⟩
                        cases Fz.key r3 hkey
                        have hl := b4.len
                        have qq := e2.putS (o := .dK (L2.putK vs key y)) hql
                        have lz : (L2.putK vs key y).length ≤ big := Nat.le_trans (length_putKV _ _ _) (Nat.le_trans (by omega : vs.length + 1 ≤ 1000) (by decide))
                        refine Or.inr ⟨pj, _, rfl, DPut.k b3 (big_le (Nat.le_trans (by omega : vs.length + 1 ≤ 1000) (by decide))), ?_⟩
                        exact h2 σ _ F2 fp2 (Stp.put hql) (e2.put hql g1 (fun z => z) (.lds (by rw [upd_ne (Ne.symm hpj)]; exact hp) (a.put qq (FzP.putK (r1'.mono qq) (b4.mono qq)) lz nd b1) nd np zb hq)) (Pn.refl _ _)
                  · cases hst
                · cases hst
              · cases hst
            · cases hst
        · exact h2.elim
      · exact h2.elim
    · exact h1.elim
/-! ### xs[i][k] -/
def iLdG (i : Nat) (I : E) (K : Env → Option IV) : E := fun ρ => if isLd ρ[i]? = true then (I ρ).bind fun ix ρ1 => match ρ1[i]? with
  | some (.ow (.lds ds)) => match ix, K ρ1 with
    | .int n, some k => match (ixN ds.length n).bind fun j => (ds[j]?).bind fun d => oDg d k with
      | some d => .ok d ρ1
      | none => .no
    | _, _ => .no
  | _ => .no else .no
theorem m_ldG (o : Ok X G W) (i : Nat) {x : Str} {ie k : Expr} {I : E} {K : Env → Option IV} {pos p2 npos : Pos} (hi : PE X ie (teOf G W I)) (hk : PE X k (tkQ G K)) (hN : X.N[i]? = some x := by rfl)
    (hx : PlainIx ie := by exact fun _ _ => rfl) (hns : NoSl k := by exact fun _ _ => rfl)
    (hv : Vis X.env.scope x := by first | exact Or.inl rfl | exact Or.inr (Or.inl rfl) | exact Or.inr (Or.inr rfl)) (hd : (x == ("__debug__" : Str)) = false := by decide) (hcd : (x == ("__classdict__" : Str)) = false := by decide) :
    PE X (.Subscript (.Subscript (.Name x npos) ie p2) k pos) (teOf G W (iLdG i I K)) :=
  PE.imp (pe_dget (by have := o.hu; omega) (pe_ix ix_list (pe_var hN hv hd hcd) hi hx) hk hns) fun σ H Q ⟨ρ, F, fp, en, h⟩ => by
    unfold iLdG at h
    split at h
    · rename_i hw
      obtain ⟨d0, hd0⟩ := isLd_some hw
      obtain ⟨u, g1, _⟩ := en.ow i _ hd0
      refine ⟨u, g1, ?_⟩
      refine oc_bind en h fun iv id ρ2 H2 F2 fp2 s2 e2 r2 h2 => ?_
      split at h2
      · rename_i ds hd2
        obtain ⟨u', g1', g2⟩ := e2.ow i _ hd2
        obtain rfl : u' = u := by rw [g1] at g1'; cases g1'; rfl
        split at h2
        · rename_i n kd hkd
          cases hf : (ixN ds.length n).bind fun j => (ds[j]?).bind fun d => oDg d kd with
          | none => rw [hf] at h2; exact h2.elim
          | some d =>
            rw [hf] at h2
            obtain ⟨j, hj, hf⟩ := Option.bind_eq_some_iff.mp hf
            obtain ⟨dj, hdj, hf⟩ := Option.bind_eq_some_iff.mp hf
            cases r2.int_inv
            cases g2 with
            | @lds p ps _ _ hp a nd np zb hq =>
              obtain ⟨pj, vs, ks', b1, b2, b3, b4, b5⟩ := a.get hdj
              subst b2
              refine ⟨p, ps.map V.ref, n, .ref pj, rfl, rfl, by rw [o.K]; exact SqL.of hp, ?_, ?_⟩
              · unfold atI
                rw [List.length_map, a.len, hj]
                show (ps.map V.ref)[j]? = _
                rw [List.getElem?_map, b1]
                rfl
              · refine ⟨ρ2, F2, fp2, e2, kd, hkd, fun kv r3 => ?_⟩
                cases hkey : ivKey kd with
                | none => simp [oDg, hkey] at hf
                | some key =>
                  have hf : lookD ks' key = some d := by simpa [oDg, hkey] using hf
                  cases Fz.key r3 hkey
                  obtain ⟨v, e3, e4⟩ := b4.look hf
                  exact ⟨_, v, rfl, by rw [← e3]; exact DGet.k b3, oc_okR h2 e2 e4⟩
        · exact h2.elim
      · exact h2.elim
    · exact h.elim
theorem s_setLcD (o : Ok X G W) (i : Nat) {y : Str} {py : Pos} {elt tg iter : Expr} {scope : Scope} {own : List (Str × Nat)} {pos spos : Pos} {M : EL} {t : TM} {l : List Nat} {el : E} (hN : X.N.Nodup) (hi : PI X tg iter (tiOf G W M)) (ok : BlkOk X.N X.env.scope scope own)
    (hg : ∀ (s : Shared) (H : Hp) (C : Addr) (cl : List (Str × Addr)) (fp : List Addr), PG (X.blk s H scope (compEnvC scope cl C X.env) fp) tg (tgOf G l t))
    (he : ∀ (s : Shared) (H : Hp) (C : Addr) (cl : List (Str × Addr)) (fp : List Addr), PE (X.blk s H scope (compEnvC scope cl C X.env) fp) elt (toOf G W0 el)) (hl : ∀ i ∈ l, i ∈ own.map (·.2) := by decide) (hy : X.N[i]? = some y := by rfl) (hyl : X.env.scope.names.lookup y = some .local := by rfl)
    (hp : i ∉ pin := by decide) (hsw : swapsWith (.ListComp elt [⟨tg, iter, [], 0⟩] scope pos) (some (.Name y py)) spos.line X.env = pure true := by rfl) (hs : ∀ x, foldedSetIterable iter X.env x = pure x := by intro _; rfl) :
    PS X (.Assign [.Name y py] (.ListComp elt [⟨tg, iter, [], 0⟩] scope pos) spos) (tsOf G W pin (sSetO i (iLcD M t el (own.map (·.2))))) :=
  PS.imp (ps_setLc o.calm hN hy hyl hsw hi ok hg (fun _ _ _ _ _ => ts_nil) he hs) fun D σ H h => q_lcD hl _ _ _ (q_setO hp D σ H h)
/-! ### sorted(xs): whole numbers, or tuples -/
def inI (k : Int) : List Int → List Int
  | [] => [k]
  | n :: ns => if k < n then k :: n :: ns else n :: inI k ns
def isI (ns : List Int) : List Int := ns.foldl (fun acc k => inI k acc) []
theorem inI_perm (k : Int) : ∀ ns : List Int, (inI k ns).Perm (k :: ns)
  | [] => .refl _
  | n :: ns => by
    unfold inI
    split
    · exact .refl _
    · exact ((inI_perm k ns).cons n).trans (.swap k n ns)
theorem inI_up (k : Int) : ∀ ns : List Int, ns.Pairwise (· ≤ ·) → (inI k ns).Pairwise (· ≤ ·)
  | [], _ => by simp [inI]
  | n :: ns, h => by
    obtain ⟨h1, h2⟩ := List.pairwise_cons.mp h
    unfold inI
    split
    · rename_i c
      refine List.pairwise_cons.mpr ⟨fun y hy => ?_, h⟩
      rcases List.mem_cons.mp hy with z | z
      · rw [z]; omega
      · have := h1 y z; omega
    · rename_i c
      refine List.pairwise_cons.mpr ⟨fun y hy => ?_, inI_up k ns h2⟩
      rcases List.mem_cons.mp ((inI_perm k ns).mem_iff.mp hy) with z | z
      · rw [z]; omega
      · exact h1 y z
theorem isI_ok (ns : List Int) : (isI ns).Pairwise (· ≤ ·) ∧ (isI ns).Perm ns := by
  have key : ∀ (ns acc : List Int), acc.Pairwise (· ≤ ·) → (ns.foldl (fun acc k => inI k acc) acc).Pairwise (· ≤ ·) ∧ (ns.foldl (fun acc k => inI k acc) acc).Perm (ns ++ acc) := by
    intro ns
    induction ns with
    | nil => intro acc h; exact ⟨h, .refl _⟩
    | cons k ns ih =>
      intro acc h
      obtain ⟨a, b⟩ := ih (inI k acc) (inI_up k acc h)
      refine ⟨a, ?_⟩
      rw [List.foldl_cons]
      exact b.trans (((inI_perm k acc).append_left ns).trans List.perm_middle)
  obtain ⟨a, b⟩ := key ns [] List.Pairwise.nil
  exact ⟨a, by rw [List.append_nil] at b; exact b⟩
theorem sort_one : ∀ (l m : List Int), l.Perm m → l.Pairwise (· ≤ ·) → m.Pairwise (· ≤ ·) → l = m
  | [], m, p, _, _ => (List.nil_perm.mp p).symm
  | x :: l, [], p, _, _ => by have := p.length_eq; cases this
  | x :: l, y :: m, p, hl, hm => by
    obtain ⟨l1, l2⟩ := List.pairwise_cons.mp hl
    obtain ⟨m1, m2⟩ := List.pairwise_cons.mp hm
    have e : x = y := by
      have hx : x ∈ y :: m := p.mem_iff.mp List.mem_cons_self
      have hy : y ∈ x :: l := p.mem_iff.mpr List.mem_cons_self
      rcases List.mem_cons.mp hx with z | z
      · exact z
      · rcases List.mem_cons.mp hy with q | q
        · exact q.symm
        · have := l1 y q
          have := m1 x z
          omega
    subst e
    rw [sort_one l m p.cons_inv l2 m2]
def fSrtX : List IV → Option (List IV)
  | [.lst xs] => match intsOf xs with
    | some ns => if ns.length < 64 then some ((isI ns).map .int) else none
    | none => if okL xs = true then some (isrt xs) else none
  | _ => none
def iSortX (J : EAv) : E := fun ρ => (J ρ).bind fun as ρ1 => match (rsA as ρ1).bind fSrtX with
  | some xs => .ok (.lst xs) ρ1
  | none => .no
theorem iSortX_fz (J : EAv) : ∀ ρ d ρ', iSortX J ρ = .ok d ρ' → canFz d = true := by
  intro ρ d ρ' h
  obtain ⟨xs, ρ1, _, h1⟩ := Rz.bind_ok h
  split at h1
  · cases h1; rfl
  · cases h1
theorem fz_intsV {F : AP1} {H : Hp} : ∀ {vs : List V} {ds : List IV} {ns : List Int}, FzA G F H vs ds → intsOf ds = some ns → vs = ns.map V.int
  | _, _, ns, .nil, e => by cases e; rfl
  | _, _, ns, @FzA.cons _ _ _ v vs d ds a b, e => by
    cases d with
    | int i =>
      unfold intsOf at e
      cases h : intsOf ds with
      | none => rw [h] at e; cases e
      | some ms =>
        rw [h] at e
        cases e
        cases a
        rw [fz_intsV b h]
        rfl
    | _ => cases e
theorem q_sortX {J : EAv} : ∀ σ H Q, toOf G W (iSortX J) σ H Q → tCB (fun xs H Q => rSortedL G.K xs H Q ∨ L2.rSorted G.K xs H Q) (tjOf G W J) σ H Q := by
  rintro σ H Q ⟨ρ, F, fp, e, h⟩
  refine ocO_bind e h fun xs as ρ1 H1 F1 fp1 s1 e1 r1 h1 => ?_
  cases hf : (rsA as ρ1).bind fSrtX with
  | none => rw [hf] at h1; exact h1.elim
  | some d =>
    rw [hf] at h1
    obtain ⟨ds, g1, g2⟩ := Option.bind_eq_some_iff.mp hf
    have bz := RAs.bz e1 r1 g1
    unfold fSrtX at g2
    split at g2
    · rename_i ys
      obtain ⟨v, ev, b⟩ := bz.one
      subst ev
      obtain ⟨p, vs, ev, hp, fa, hz⟩ := b.seqL
      subst ev
      split at g2
      · rename_i ns hns
        split at g2
        · rename_i h64
          cases g2
          have ev := fz_intsV fa hns
          subst ev
          refine Or.inr ⟨p, ns, rfl, SqL.of hp, h64, fun ns' a pm pw hn => ?_⟩
          obtain ⟨su, sp⟩ := isI_ok ns
          have es : ns' = isI ns := sort_one ns' (isI ns) (pm.trans sp.symm) pw su
          rw [es]
          refine ocO_new h1 e1 hn (fz_ints _) ?_
          rw [List.length_map, sp.length_eq]
          have h3 : (64 : Nat) ≤ big := by decide
          omega
        · cases g2
      · split at g2
        · rename_i ok
          cases g2
          obtain ⟨ok1, ok2⟩ : okG ys = true ∧ ys.all neT = true := by
            unfold okL at ok
            rw [Bool.and_eq_true] at ok
            exact ok
          have O := okG_ok ok1
          obtain ⟨ks, k1, k2⟩ := rows_eachG O fa fun d h => h
          have hks : ks.length = ys.length := by
            have a := fa.len
            rw [k1, List.length_map] at a
            exact a
          refine Or.inl ⟨p, ks, keysG ys, rfl, ?_, rows_okG O (fun r hr => by
            obtain ⟨d, d1, d2⟩ := each_mem k2 r hr
            exact ⟨d, d1, d2.1, d2.2⟩), fun k hk => ?_, fun k hk k' hk' => (keysG_lt O k hk k' hk').1, by rw [hks]; exact O.few, fun ks' a pm pw hn => ?_⟩
          · rw [← k1]; exact SqL.of hp
          · refine ⟨?_, (keysG_tup O k hk).2⟩
            obtain ⟨d, hd, ek⟩ := keysG_mem.mp hk
            exact data_ne ek (List.all_eq_true.mp ok2 d hd)
          · obtain ⟨ds', q1, q2⟩ := each_perm pm.symm k2
            have hm : ∀ d ∈ ds', d ∈ ys := fun d hd => q1.mem_iff.mpr hd
            obtain ⟨su, sp⟩ := isrt_ok ys
            have es : ds' = isrt ys := same_sort (r := leG ys) ds' (isrt ys) (q1.symm.trans sp.symm) (fun x hx y hy a b => (O.cmp x (hm x hx) y (hm y hy)).2.2 (by
              have a : ¬ rdG ys y < rdG ys x := a
              have b : ¬ rdG ys x < rdG ys y := b
              omega)) (each_up O q2 hm pw) su
            rw [es] at q2
            have fz := each_fza q2
            refine ocO_new h1 e1 hn fz ?_
            rw [List.length_map, pm.length_eq, hks]
            have h2 := O.few
            have h3 : (60 : Nat) ≤ big := by decide
            omega
        · cases g2
    · cases g2
theorem o_sortX (o : Ok X G W) {e : Expr} {p pos : Pos} {J : EAv} (hg : Gl X "sorted") (hm : X.mg "sorted" = none) (ha : PA X [e] (tjOf G W J)) (he : starEach [e] X.env = [(false, eval e X.env)] := by rfl) :
    PE X (.Call (.Name "sorted" p) [e] [] pos) (toOf G W (iSortX J)) := by
  have h : CallR X (.builtin "sorted") (fun xs H Q => rSortedL X.K xs H Q ∨ L2.rSorted X.K xs H Q) := CallR.or (cr_sortedL (by have := o.hu; omega)) cr_sorted
  rw [o.K] at h
  exact PE.imp (pe_callB h hg hm PyProof.Rows.boot_sorted ha (by decide) (by decide) he) q_sortX
theorem m_sortX (o : Ok X G W) {e : Expr} {p pos : Pos} {J : EAv} (hg : Gl X "sorted") (hm : X.mg "sorted" = none) (ha : PA X [e] (tjOf G W J)) (he : starEach [e] X.env = [(false, eval e X.env)] := by rfl) :
    PE X (.Call (.Name "sorted" p) [e] [] pos) (teOf G W (iSortX J)) := m_frz (o_sortX o hg hm ha he) (iSortX_fz J)
end
end MR
set_option maxRecDepth 100000
/-! SetTu: set(xs), xs a tuple of nested tuples -/
namespace NSet
open PySem PySem.Spec PyProof.Rows L2 PySem.SeqAt PySem.W
section
variable {P : Program} {w : World} {A : Around} {E : Value → Shared → Prop} {s : Shared}
variable {a : Addr} {L : List Row} {es : Array (Int × Value)} {ep : Nat} {t : SetTable} {C : List NestedKey}
set_option maxHeartbeats 3200000 in
/-- set(xs), xs a tuple of such tuples -/
theorem call_set_tu {l : Addr} {items : Array Value} (ks : List Row) {Q : Value → Shared → Prop} (hh : A.handled = none) (hl : s.heap.IsTuple l items) (hit : items.toList = ks.map fun r => Value.ref r.1)
    (hk : ∀ r ∈ ks, KAt s.heap r.2 r.1) (hC : Within C ks) (hu : A.units + 20 < cLine)
    (q : ∀ (h' : Heap) (tk : Nat) L es ep t, STab w h' s.heap.objs.size L es ep t → Has ks ks.length L → (∀ b o, s.heap.get? b = some o → h'.get? b = some o) → Q (.ref s.heap.objs.size) { s with heap := h', toks := tk }) :
    wpAny (model P w) A (call (.type "set") [.ref l]) Q E s := by
  have hisz : items.size = ks.length := by
    have z := congrArg List.length hit
    rwa [Array.length_toList, List.length_map] at z
  have hz0 : ∀ b, s.heap.objs.size ≤ b → s.heap.get? b = none := fun b hb => by
    cases z : s.heap.get? b with
    | none => rfl
    | some o => exact absurd (Nat.lt_of_lt_of_le (Heap.lt_size z) hb) (Nat.lt_irrefl _)
  obtain ⟨c, tl, hmro⟩ := F.called_set.mro
  have hmade := F.called_set.made
  have hsub := F.called_set.sub
  refine wpAny_call (codeAny_of_tree ?_)
  show wpAny _ _ (callAny (.type "set") _) _ _ _
  refine wpAny_pure ⟨Code.quiet_builtin _ (by decide +kernel), codeAny_builtin F.entry_type_call ?_⟩
  rw [Around.under_plain (weight_type_call_type "set" [.ref l] []) rfl]
  have p1 := F.called_set.notType
  have p2 := F.called_set.canCreate
  have p3 := F.typeCall_set_1 (.ref l)
  repeat (any_goals (first | assumption | wp_step))
  refine codeAny_mono (code_set_led1 (.ref l) (E := E) (Q₁ := fun v s1 => v = .ref s.heap.objs.size ∧ s1 = { s with heap := s.heap.push (freshSet w) }) ⟨rfl, rfl⟩) fun r s1 hr => ?_
  cases r with
  | error e => exact hr
  | ok fl =>
    cases fl with
    | ret obj =>
      obtain ⟨e1, e2⟩ := hr
      subst e1
      subst e2
      have hSn : (s.heap.push (freshSet w)).get? s.heap.objs.size = some (freshSet w) := Heap.get?_push_size _ rfl
      have hT : Shared.TypeIs { s with heap := s.heap.push (freshSet w) } (.ref s.heap.objs.size) "set" := ⟨_, hSn, rfl⟩
      have p4 := F.called_set.init.lookup
      have p5 := F.called_set.init.bind (.ref s.heap.objs.size)
      repeat (any_goals (first | assumption | wp_step))
      refine codeAny_mono (codeAny_call_builtin (R := wants (fun r s2 => r = .none ∧ ∃ h' tk L es ep t, s2 = { s with heap := h', toks := tk } ∧ STab w h' s.heap.objs.size L es ep t ∧ Has ks ks.length L ∧
          (∀ b o, s.heap.get? b = some o → h'.get? b = some o)) E) F.called_set.init.plain F.entry_set_init (check_set_init_1 hT ?_)) fun r2 s2 hr2 => ?_
      · obtain ⟨ol, hol, hcl, nl, hdl⟩ := hl
        obtain ⟨ocls, odict, odata, oslots⟩ := ol
        simp only at hcl hdl
        subst hcl
        subst hdl
        have hol1 : (s.heap.push (freshSet w)).get? l = some { cls := .type "tuple", dict := odict, data := .seq items nl, slots := oslots } := Heap.get?_push_of_some _ hol
        have p6 := F.sub_tuple_set
        have p7 := F.sub_tuple_frozenset
        have p8 : (Value.type "tuple" == Value.type "dict") = false := by decide
        have hl1 : (s.heap.push (freshSet w)).IsTuple l items := ⟨_, hol1, rfl, nl, rfl⟩
        unfold Builtin.«set.__init__» noKeywords Builtin.Frozenset.updateFrom
        generalize hPI : pyIter = PI
        wp_walk
        subst hPI
        refine wpAny_pyIter_tuple hl1 (wpAny_bind (wpAny_runValue ?_))
        have hlS : l < s.heap.objs.size := Heap.lt_size hol
        have hh3 : A.in1.in1.in1.handled = none := by simp [hh]
        have hz1 : (s.heap.push (freshSet w)).objs.size = s.heap.objs.size + 1 := Heap.size_push ..
        have hI : l ≠ (s.heap.push (freshSet w)).objs.size := by rw [hz1]; exact Nat.ne_of_lt (Nat.lt_succ_of_lt hlS)
        have hSf : s.heap.objs.size ∉ [(s.heap.push (freshSet w)).objs.size, l] := by
          rw [hz1]
          simp only [List.mem_cons, List.not_mem_nil, or_false, not_or]
          exact ⟨Nat.ne_of_lt (Nat.lt_succ_self _), Nat.ne_of_gt hlS⟩
        refine update_loop (C := C) ((Walks.tuple hh3 _ l hI items).toS) s.heap.objs.size hSf ks hisz hC (fun i v hv => ?_) s.heap hk (hz0 _ (Nat.le_refl _)) (fun b hb => hz0 b (by
            rw [List.mem_singleton.mp hb, hz1]
            exact Nat.le_succ _)) (by simp only [Around.in1_units]; omega) (items.size - 0) 0 _ (by omega) (Nat.zero_le _)
          ⟨⟨_, Heap.get?_push_size _ rfl, rfl, rfl⟩, (hl1.at fun o e => Heap.get?_push_of_some _ e)⟩ (fun b o e => Heap.get?_push_of_some _ (Heap.get?_push_of_some _ e)) ?start ?end_
        · have z : items.toList[i]? = some v := by rw [Array.getElem?_toList]; exact hv
          rw [hit, List.getElem?_map] at z
          cases hq : ks[i]? with
          | none => rw [hq] at z; cases z
          | some r =>
            rw [hq] at z
            exact ⟨r, rfl, (Option.some.inj z).symm⟩
        case start => exact ⟨[], #[], 0, _, stab_new (Heap.get?_push_of_some _ hSn), Has.nil ks⟩
        case end_ =>
          intro s' L es ep t hm T g kp
          obtain ⟨h', g2, d', tk', os'⟩ := s'
          have eg : g2 = s.gens := hm.gens
          have ed : d' = s.drawn := hm.drawn
          have eo : os' = s.os := hm.os
          subst eg
          subst ed
          subst eo
          show wpAny _ _ _ _ _ _
          refine wpAny_pure ?_
          show wpAny _ _ (ret Value.none) _ _ _
          rw [hisz] at g
          exact wpAny_pure ⟨rfl, h', tk', L, es, ep, t, rfl, T, g, kp⟩
      · cases r2 with
        | error e => exact hr2
        | ok fl2 =>
          cases fl2 with
          | ret r =>
            obtain ⟨e1, h', tk, L, es, ep, t, e2, T, g, kp⟩ := hr2
            subst e1
            subst e2
            repeat (any_goals (first | assumption | wp_step))
            exact q _ _ _ _ _ _ T g kp
          | _ => exact hr2.elim
    | _ => exact hr.elim
end
section
variable {X : Cx} {pins : List (Addr × Obj)} {σ : L2.St} {H : Hp}
def rSetTu (K : PySem.W.Frag) (w : World) : List V → Hp → VK → Prop := fun xs H Q => ∃ (l : Addr) (ks : List Row) (C : List NestedKey), xs = [V.ref l] ∧ SqT K H l (ks.map fun r => V.ref r.1) ∧ RowsOk K H C ks ∧ C.length < 60 ∧
  ∀ a L, H a = none → Has ks ks.length L → Q (.ref a) (upd H a (setO w a L))
theorem cr_setTu (calm : X.calm = true) (room : X.A.units + 20 < cLine) : CallR X (.type "set") (rSetTu X.K X.w) := by
  intro pins s σ H xs us Q I r h
  obtain ⟨l, ks, C, e, hl, hk, hC, q⟩ := h
  subst e
  rw [Vals.ref1 r]
  obtain ⟨its, rv, pl, hz⟩ := I.tuple hl
  have hn : H s.heap.objs.size = none := I.hok.fresh (Nat.le_refl _)
  refine call_set_tu (P := X.prog) (w := X.w) (C := C) ks (I.ok.hd calm) pl (by simpa using refs_rows rv) (hk.kats (K := X.K) I) ⟨hC, fun r hr => (hk r hr).2.2⟩ room fun h' tk L es ep t R g kp => ?_
  exact ⟨.ref s.heap.objs.size, upd H s.heap.objs.size (setO X.w s.heap.objs.size L), I.laid (t' := tk) kp (Nat.le_refl _) (setO_ok R.sobj), rfl, q _ L hn g⟩
end
end NSet
set_option maxRecDepth 100000
set_option maxHeartbeats 4000000
/-! MirLf: set(xs) of a tuple of outcomes; a, b = a list. -/
namespace MR
open PySem L2 PyProof.Rows NSet
section
variable {X : Cx} {G : Gx} {W : WX}
def fSetT : List IV → Option (List IV)
  | [.tup xs] => if xs.all okO = true then some xs else none
  | _ => none
def iSetT (J : EAv) : EL := fun ρ => (J ρ).bind fun as ρ1 => ofO ((rsA as ρ1).bind fSetT) ρ1
theorem q_setT {w : World} {J : EAv} : ∀ σ H Q, tsetOf w G W (iSetT J) σ H Q → tCB (rSetTu G.K w) (tjOf G W J) σ H Q := by
  rintro σ H Q ⟨ρ, F, fp, e, h⟩
  refine oc_bind e h fun xs as ρ1 H1 F1 fp1 s1 e1 r1 h1 => ?_
  cases hf : (rsA as ρ1).bind fSetT with
  | none => rw [hf] at h1; exact h1.elim
  | some d =>
    rw [hf] at h1
    have h1' : Oc (RS w) G W σ H1 F1 fp1 (.ok d ρ1) Q := h1
    obtain ⟨ds, g1, g2⟩ := Option.bind_eq_some_iff.mp hf
    have bz := RAs.bz e1 r1 g1
    unfold fSetT at g2
    split at g2
    · rename_i ys
      obtain ⟨v, ev, b⟩ := bz.one
      subst ev
      obtain ⟨p, vs, ev, hp, fa, hz⟩ := b.seqT
      subst ev
      split at g2
      · rename_i ok
        cases g2
        obtain ⟨ks, k1, k2, k3⟩ := rows_of fa ok
        refine ⟨p, ks, outK, rfl, ?_, rows_ok k2 ok, by decide, fun a L ha hL => ?_⟩
        · rw [← k1]; exact hp
        · have fr : Fr H1 F1 (upd H1 a (NSet.setO w a L)) F1 := Fr.new ha
          refine h1' _ _ F1 fp1 (fr.stp _) (e1.fr fr) (Or.inl ⟨a, L, rfl, upd_same, ok, fun r hr => ?_, fun d hd => ?_⟩)
          · obtain ⟨d, d1, d2, d3⟩ := k2 r (List.mem_of_mem_take (hL.from_ r hr))
            exact ⟨d, d1, d2.mono fr.stq, d3⟩
          · obtain ⟨r, r2, r3⟩ := k3 d hd
            exact ⟨r.2, r3, hL.got r (by rw [List.take_length]; exact r2)⟩
      · cases g2
    · cases g2
theorem s_setT (o : Ok X G W) {e : Expr} {p pos : Pos} {J : EAv} (hg : Gl X "set") (hm : X.mg "set" = none) (ha : PA X [e] (tjOf G W J)) (he : starEach [e] X.env = [(false, eval e X.env)] := by rfl) :
    PE X (.Call (.Name "set" p) [e] [] pos) (tsetOf X.w G W (iSetT J)) := by
  have h : CallR X (.type "set") (rSetTu X.K X.w) := cr_setTu o.calm (by have := o.hu; omega)
  rw [o.K] at h
  exact PE.imp (pe_callTy h hg hm PyProof.Rows.boot_set ha (by decide) (by decide) he) q_setT
/-! ### a, b = a list -/
def tgL (ts : List TM) : TM := fun d ρ => match d with
  | .lst ds => tgs ts ds ρ
  | _ => none
theorem g_lst (o : Ok X G W) {es : List Expr} {k : Nat} {pos : Pos} {l : List Nat} {ts : List TM} (h : PGs X es (tgsOf G l ts)) (hl : ts.length = es.length := by rfl)
    (hn : (assignEach es X.env).length = es.length := by rfl) (hst : (assignEach es X.env).findIdx? (·.1) = none := by rfl) : PG X (.Tuple es k pos) (tgOf G l (tgL ts)) :=
  PG.imp (pg_lst o.calm h hn hst) fun v σ H Q ⟨ρ, F, fp, d, e, r, w⟩ => by
    cases r with
    | @lst p vs ds f hq a z =>
      have tl : ∀ (ts : List TM) (ds : List IV) (ρ : Env) (ρ' : Env), tgs ts ds ρ = some ρ' → ds.length = ts.length := by
        intro ts
        induction ts with
        | nil => intro ds ρ ρ' h; cases ds with
          | nil => rfl
          | cons _ _ => cases h
        | cons t ts ih => intro ds ρ ρ' h; cases ds with
          | nil => cases h
          | cons d ds =>
            simp only [tgs] at h
            obtain ⟨ρ1, _, h2⟩ := Option.bind_eq_some_iff.mp h
            rw [List.length_cons, List.length_cons, ih ds ρ1 ρ' h2]
      have w' : match tgs ts ds ρ with | some ρ' => ∀ σ' fp', EnvR G F H σ' ρ' fp' → (∀ a, un fp' a → un fp a) → SetOnly l σ σ' → Q σ' H | none => False := w
      cases hs : tgs ts ds ρ with
      | none => rw [hs] at w'; exact w'.elim
      | some ρ2 =>
        rw [hs] at w'
        refine ⟨p, vs, rfl, SqL.of hq, by rw [a.len, tl _ _ _ _ hs, hl], ρ, F, fp, ds, e, a, ?_⟩
        rw [hs]
        exact w'
    | _ => exact w.elim
end
end MR
set_option maxRecDepth 100000
set_option maxHeartbeats 4000000
/-! MirEr: errors that are raised, caught and kept as values. -/
namespace MR
open PySem PySem.Spec PyProof.Rows L2
section
variable {X : Cx} {pins : List (Addr × Obj)} {σ : L2.St} {H : Hp} {s : Shared}
/-- a pinned error is tracked from now on -/
theorem inv_track {a : Addr} {oe : Obj} {vs : Array Value} {cls : Value} {d : Option Addr} (I : Inv X ((a, oe) :: pins) σ H s) (n0 : X.s_0.heap.get? a = none) (hz : Zc cls d oe) (hd : oe.data = .fields vs) (np : ∀ p ∈ X.pn ++ pins, p.1 ≠ a) :
    Inv X pins σ (upd H a (ErrO a cls d)) s := by
  obtain ⟨ha, hn, hl, hfs, hcl⟩ := I.pin (a, oe) (List.mem_append_right _ List.mem_cons_self)
  have ha' : s.heap.get? a = some oe := ha
  have hn' : H a = none := hn
  refine ⟨I.ok, I.os, I.bare, ⟨I.base.keep, I.base.slot, fun b ob q n hx => ?_, I.base.there, fun b xs e => ?_, fun b ob u e => ?_, fun b ps e => ?_⟩, I.loc, I.cell, ?_, fun x c e => ?_, fun p hp => ?_, fun b u e => ?_, I.len⟩
  · rw [upd_ne (fun z => by rw [z, n0] at q; cases q)]
    exact I.base.free b ob q n hx
  · have q := I.base.tups b xs e
    rw [upd_ne (ne_of_none q hn')]
    exact q
  · have q := I.base.frzs b ob u e
    rw [upd_ne (ne_of_none q hn')]
    exact q
  · obtain ⟨more, q⟩ := I.base.tbls b ps e
    exact ⟨more, by rw [upd_ne (ne_of_none q hn')]; exact q⟩
  · rw [upd_ne (fun z => hl z.symm)]
    exact I.free
  · obtain ⟨w, ob, hob, hdc⟩ := I.cell x c e
    rw [upd_ne (fun z => by rw [z, ha'] at hob; cases hob; exact hcl w hdc)]
    exact I.freeC x c e
  · obtain ⟨q1, q2, q3⟩ := I.pin p (by
      rcases List.mem_append.mp hp with z | z
      · exact List.mem_append_left _ z
      · exact List.mem_append_right _ (List.mem_cons_of_mem _ z))
    exact ⟨q1, by rw [upd_ne (np p hp)]; exact q2, q3⟩
  · by_cases hb : b = a
    · subst hb
      rw [upd_same] at e
      cases e
      exact ⟨⟨oe, vs, ha', hz, hd⟩, ⟨oe, ha'⟩, fun _ _ ⟨o, v, q, r⟩ k => ⟨o, v, k o q, r⟩⟩
    · rw [upd_ne hb] at e
      exact (I.hok b u e).stay (fun _ _ _ q => q) (fun c q => by rw [upd_ne (ne_of_none q hn')]; exact q) fun c xs q => by rw [upd_ne (ne_of_none q hn')]; exact q
/-- what 'except x as n: m = n' wishes; slots i: n, j: m -/
def wKeep (K : Frag) (c : Value) (i j : Nat) (Wout : WX) (D : Ends) : WX := fun cls d σ H =>
  ∃ b, PySem.W.exmOne K cls c = some b ∧ (b = true → ∀ a, H a = none → D.nx (((σ.set i (some (.ref a))).set j (some (.ref a))).set i none) (upd H a (ErrO a cls d))) ∧ (b = false → Wout cls d σ H)
theorem ps_try_keep {x n m : Str} {c : Value} {i j : Nat} {body : List Stmt} {ep pos pos' q1 q2 q3 : Pos} {tb : WX → TS} {Wout : WX} (hs : X.stack = X.env :: X.outer) (hf : X.env.frame = some X.env.locals) (hex : X.ex = []) (hN : X.N.Nodup)
    (hi : X.N[i]? = some n) (hln : X.env.kindOf n = some .local) (hlt : i < X.N.length) (hj : X.N[j]? = some m) (hlm : X.env.scope.names.lookup m = some .local) (hln2 : X.env.scope.names.lookup n = some .local) (hc : Names X x c) (tk : Takes X Wout)
    (hdn : (n == ("__debug__" : Str)) = false) (hcn : (n == ("__classdict__" : Str)) = false)
    (hb : ∀ (W : WX) (pn : List (Addr × Obj)) (xe : Value → Shared → Prop), Takes (X.tr pn xe) W → PassesOwn (model X.prog X.w) X.A X.env xe → PSs (X.tr pn xe) body (tb W)) :
    PS X (.Try body [.ExceptHandler (some (.Name x ep)) (some n) [.Assign [.Name m q1] (.Name n q2) q3] pos'] [] [] pos) (fun D σ H => tb (wKeep X.K c i j Wout D) D σ H) := by
  refine ⟨fun pins s σ H D In h => ?_⟩
  have ok := In.ok
  have frA : X.A.frames = some (X.env :: X.outer) := by rw [ok.frames, hs]
  have locn : Loc X.env.scope n := .inl hln
  refine wpAny_Try_except ?_
  have hbody := hb (wKeep X.K c i j Wout D) (X.pn ++ pins) (fun e s1 => wpAny (model X.prog X.w) X.A (noteFrame e X.env) (fun _ s2 => wpAny (model X.prog X.w) X.A (setFlight e none) (fun _ s3 =>
    wpAny (model X.prog X.w) X.A (handleBy e X.env [.ExceptHandler (some (.Name x ep)) (some n) [.Assign [.Name m q1] (.Name n q2) q3] pos']) (SP X pins D) X.xe s3) X.xe s2) X.xe s1) (fun u s' xx => ?_) PassesOwn.looking
  · refine wpAny_mono (hbody.run [] s σ H D (In.toTry _) h) (fun f s1 hsp => ?_) (fun e s1 he => he)
    cases f with
    | next => let ⟨σ', H', Jt, q⟩ := hsp; exact wpAny_execs_nil ⟨σ', H', Jt.ofTry ok, q⟩
    | brk => let ⟨σ', H', Jt, q⟩ := hsp; exact ⟨σ', H', Jt.ofTry ok, q⟩
    | cont => let ⟨σ', H', Jt, q⟩ := hsp; exact ⟨σ', H', Jt.ofTry ok, q⟩
    | ret u => let ⟨v, σ', H', Jt, r, q⟩ := hsp; exact ⟨v, σ', H', Jt.ofTry ok, r, q⟩
  · obtain ⟨a, B, sI, pins', σ', H', cls, d, rfl, Jt, nb, up, sky, na, os, ag, b, hb1, hyes, hno⟩ := xx
    have J : Inv X pins σ' H' sI := Jt.ofTry ok
    have skyL : Sky B (X.env :: X.outer) a (Zc cls d) X.env.locals s'.heap := by rw [← hs]; exact sky
    show wpAny (model X.prog X.w) X.A (noteFrame (.ref a) X.env) _ _ _
    refine Sky.land Zc.steady frA hf skyL fun hpa fla upa => ?_
    have Ja : Inv X pins σ' H' { s' with heap := hpa } := J.landed nb fla.1 (up.trans upa) os ag
    obtain ⟨oa, va, hea, hza, hda⟩ := fla.there
    have notF : a ∉ frs (X.env :: X.outer) := fun hm => by
      obtain ⟨_, o', e', hnf⟩ := fla.2.2.1.mem hm
      rw [hea] at e'
      cases e'
      exact hnf _ hda
    have neL : a ≠ X.env.locals := fun z => notF (List.mem_filterMap.mpr ⟨X.env, List.mem_cons_self, by rw [hf, z]⟩)
    have neF : a ∉ X.fs := fun hm => by
      obtain ⟨e, he, q⟩ := List.mem_filterMap.mp hm
      exact notF (List.mem_filterMap.mpr ⟨e, List.mem_cons_of_mem _ he, q⟩)
    have nI : sI.heap.get? a = none := by
      cases q : sI.heap.get? a with
      | none => rfl
      | some o =>
        have z := nb a o q (by rw [hs]; exact notF)
        rw [fla.2.1] at z
        cases z
    have n0 : X.s_0.heap.get? a = none := by
      cases q : X.s_0.heap.get? a with
      | none => rfl
      | some o =>
        obtain ⟨o', z⟩ := J.base.there a o q (by rw [hex]; exact fun z => nomatch z)
        rw [nI] at z
        cases z
    have np : ∀ p ∈ X.pn ++ pins, p.1 ≠ a := fun p hp z => by
      have q := (J.pin p hp).1
      rw [z, nI] at q
      cases q
    have Sa := Ja.suite hea hda na neL neF
    refine wpAny_handleBy_cons (codeAny_handlers_test ?_) (by intro q; cases q)
    have lookT : PySem.W.Looks (model X.prog X.w) hpa (typeOf (.ref a)) cls := fun A Q E s k q => wpAny_typeOf_ref (k _ _ hea) (by rw [hza.1]; exact q)
    have lookM := PySem.W.exm_one (M := model X.prog X.w) (Ja.kIn) lookT hb1
    have asked : ∀ {Q : Value → Shared → Prop} {E : Value → Shared → Prop}, Q c { s' with heap := hpa } → wpAny (model X.prog X.w) (X.A.mark (some (.ref a))) (eval (.Name x ep) X.env) Q E { s' with heap := hpa } := fun {Q E} q => by
      obtain ⟨hg, hdB, hm | ⟨hm, hv, hnn⟩⟩ := hc
      · exact ld_glob (X := X.suite a ((a, oa) :: (X.pn ++ pins))) Sa hg hm q hdB
      · exact ld_blt (X := X.suite a ((a, oa) :: (X.pn ++ pins))) Sa hg hm hv q hnn hdB
    refine asked (lookM.here ?_)
    cases b with
    | true =>
      refine codeAny_handlers_suite_as ?_
      refine HandSPX.lands_againZ fla fun hpb flb upb => ?_
      have Jb : Inv X pins σ' H' { s' with heap := hpb } := J.landed nb flb.1 ((up.trans upa).trans upb) os ag
      obtain ⟨oc, vb, heb, hzb, hdb4⟩ := flb.there
      have Sb := Jb.suite heb hdb4 na neL neF
      refine store_ok (X := X.suite a ((a, oc) :: (X.pn ++ pins))) (v := .ref a) Sb hN hi locn rfl (fun s5 Sc => ?_) (.inr hln)
      have hset : PSs (X.suite a ((a, oc) :: (X.pn ++ pins))) [.Assign [.Name m q1] (.Name n q2) q3] (tAsg (tVar i) (gName j)) :=
        pss_one (ps_set hN hj (.inl hlm) (pe_var hi (.inl hln2) hdn hcn) rfl (.inr hlm))
      have hl5 : i < σ'.length := by rw [J.len]; exact hlt
      refine wpAny_mono (hset.run [] s5 _ H' { nx := fun σ6 H6 => σ6 = (σ'.set i (some (.ref a))).set j (some (.ref a)) ∧ H6 = H', rt := fun _ _ => False, bk := fun _ _ => False, ct := fun _ _ => False } Sc ⟨.ref a, by rw [List.getElem?_set_self hl5], rfl, rfl⟩) (fun f s6 hsp => ?_) (fun _ _ z => False.elim z)
      cases f with
      | next =>
        obtain ⟨σ6, H6, Sd, e6, eH⟩ := hsp
        subst e6 eH
        have T6 : Inv X ((a, oc) :: pins) ((σ'.set i (some (.ref a))).set j (some (.ref a))) H6 s6 := by
          refine ⟨ok, Sd.os, Sd.bare, Sd.base, Sd.loc, Sd.cell, Sd.free, Sd.freeC, fun p hp => Sd.pin p ?_, Sd.hok, Sd.len⟩
          show p ∈ ((a, oc) :: (X.pn ++ pins)) ++ []
          rw [List.append_nil]
          rcases List.mem_append.mp hp with z | z
          · exact List.mem_cons_of_mem _ (List.mem_append_left _ z)
          · rcases List.mem_cons.mp z with z | z
            · rw [z]; exact List.mem_cons_self
            · exact List.mem_cons_of_mem _ (List.mem_append_right _ z)
        refine gone_ok T6 hN hi hln fun s7 Je => ?_
        exact ⟨_, _, inv_track Je n0 hzb hdb4 np, hyes rfl a na⟩
      | brk => let ⟨_, _, _, q⟩ := hsp; exact q.elim
      | cont => let ⟨_, _, _, q⟩ := hsp; exact q.elim
      | ret u => let ⟨_, _, _, _, _, q⟩ := hsp; exact q.elim
    | false =>
      show wpAny _ X.A (handleBy (.ref a) X.env []) _ _ _
      refine wpAny_handleBy_nil ?_
      obtain ⟨k1, k2, k3, oe, vs, T, oT, ts', he, hz, hd, h1, hr⟩ := id fla
      unfold PySem.passOn
      refine wpAny_bind (wpAny_field he hd h1 ?_)
      rw [if_neg (show ¬ ((Value.ref T == Value.none) = true) from by simp)]
      have fin : wpAny (model X.prog X.w) X.A (setFlight (.ref a) X.env.frame) (fun _ s4 => wpAny (model X.prog X.w) X.A (throw (.ref a) : Sem Flow) (SP X pins D) X.xe s4) X.xe { s' with heap := hpa } := by
        rw [hf]
        refine HandSPX.setFlight_upZ fla fun hpb hh4 upb => wpAny_throw (tk _ _ ?_)
        exact ⟨a, B, sI, pins, σ', H', cls, d, rfl, J, nb, (up.trans upa).trans upb, .inr (.inr (by rw [hs]; exact hh4)), na, os, ag, hno rfl⟩
      first
        | exact wpAny_bind (wpAny_pure (wpAny_bind fin))
        | exact wpAny_bind fin
end
end MR
set_option maxRecDepth 100000
set_option maxHeartbeats 4000000
/-! MirLam: a lambda without parameters, handed to a def that tries it. -/
namespace MR
open PySem PySem.Spec PyProof.Rows L2
/-! ### a lambda's acts, wherever it is called -/
/-- q: the lambda's qualified name -/
def Acts (P : Program) (w : World) (K : Frag) (mg : Str → Option Value) (base : Heap) (fs0 : List Addr) (s0 : Shared) (H0 : Hp) (f c' : Addr) (q : Str) (k : Nat) (tl : XK → Hp → VK → Prop) : Prop :=
  ∀ (A : Around) (outer : List PySem.Env) (s1 : Shared) (H1 : Hp) (Q : VK) (E : XK), Room k A → Env0 P w K mg base A outer s1 H1 → Un fs0 [] H0 H1 s0.heap s1.heap → H1 c' = some (LamX.CodeO c' q) → tl E H1 Q →
    codeAny (model P w) A (.call (.ref f) ⟨[], []⟩) (CR (L2.CX P w) outer P w H1 s1 Q E) s1
/-- .. and its object -/
structure LamAt (P : Program) (w : World) (K : Frag) (mg : Str → Option Value) (base : Heap) (fs0 : List Addr) (s0 : Shared) (H0 : Hp) (f c' : Addr) (q : Str) (k : Nat) (tl : XK → Hp → VK → Prop) : Prop where
  obj : ∃ (params : Arguments) (body : Expr) (scope : Scope) (cl : List (Str × Addr)) (pm ctv : Value), s0.heap.get? f = some (PySem.W.kla_obj "<lambda>" q params body scope cl pm c' ctv)
  hn : H0 f = none
  nf : f ∉ fs0
  acts : Acts P w K mg base fs0 s0 H0 f c' q k tl
  mono : ∀ (E E' : XK) (H : Hp) (Q Q' : VK), (∀ c d H1, E c d H1 → E' c d H1) → (∀ v H1, Q v H1 → Q' v H1) → tl E H Q → tl E' H Q'
theorem un_comp {fs0 fs1 : List Addr} {H0 H H1 : Hp} {h0 h h1 : Heap} (a : Un fs0 [] H0 H h0 h) (b : Un fs1 [] H H1 h h1) (hf : ∀ x ∈ fs1, x ∈ fs0 ∨ h0.get? x = none) : Un fs0 [] H0 H1 h0 h1 := by
  have out : ∀ (c : Addr) (o : Obj), h0.get? c = some o → c ∉ fs0 → c ∉ fs1 := fun c o e n m => (hf c m).elim n fun z => by rw [e] at z; cases z
  refine ⟨fun c o e n hc hx => b.keep c o (a.keep c o e n hc hx) (a.free c o e n hx) (out c o e hc) hx, fun c o e n hc hx => ?_, fun c o e n hx => ?_, fun c o e hx => ?_, fun c xs e => b.tups c xs (a.tups c xs e), fun c o xs e => b.frzs c o xs (a.frzs c o xs e), fun c ps e => ?_⟩
  · obtain ⟨sl, e1⟩ := a.slot c o e n hc hx
    obtain ⟨sl2, e2⟩ := b.any e1 (a.free c o e n hx) hx
    exact ⟨sl2, e2⟩
  · obtain ⟨o', e1⟩ := a.there c o e hx
    exact b.free c o' e1 (a.free c o e n hx) hx
  · obtain ⟨o', e1⟩ := a.there c o e hx
    exact b.there c o' e1 hx
  · obtain ⟨m1, e1⟩ := a.tbls c ps e
    obtain ⟨m2, e2⟩ := b.tbls c _ e1
    exact ⟨m1 ++ m2, by rw [e2, Array.append_assoc]⟩
theorem acts_of {X : Cx} {pins : List (Addr × Obj)} {σ : L2.St} {H : Hp} {s : Shared} {f c' : Addr} {pm ctv : Value} {params : Arguments} {body : Expr} {scope : Scope} {k : Nat} {t : XK → TE} (I : Inv X pins σ H s) (L : LamX.LamS X.env.scope scope)
    (hf : s.heap.get? f = some (PySem.W.kla_obj "<lambda>" (X.env.qual ++ "<lambda>") params body scope (cloFrom X.env.cells scope.names []) pm c' ctv)) (hfn : H f = none) (hfr : f ∉ frs X.stack)
    (hbind : bindArgs (PySem.W.kla_fn "<lambda>" (X.env.qual ++ "<lambda>") params body scope (cloFrom X.env.cells scope.names []) pm (.ref c') ctv) ⟨[], []⟩ = pure [])
    (hbody : ∀ (A : Around) (outer : List PySem.Env) (s1 : Shared) (H1 : Hp) (E : XK), Room k (A.deeper (LamX.lamEnv X scope s1.heap.objs.size f c')) → PE (LamX.lamCx X A outer s1 H1 E scope f c') body (t E))
    (hmono : ∀ (E E' : XK) (H : Hp) (Q Q' : VK), (∀ c d H1, E c d H1 → E' c d H1) → (∀ v H1, Q v H1 → Q' v H1) → t E σ H Q → t E' σ H Q') :
    LamAt X.prog X.w X.K X.mg X.base (frs X.stack) s H f c' (X.env.qual ++ "<lambda>") (k + 1) (fun E H' Q => t E σ H' Q) := by
  refine ⟨⟨_, _, _, _, _, _, hf⟩, hfn, hfr, fun A outer s1 H1 Q E hr e0 un hc ht => ?_, hmono⟩
  have of1 := un.keep f _ hf hfn hfr (fun z => nomatch z)
  obtain ⟨⟨oc, vs, t', hoc, hdc, hvc⟩, _, _⟩ := e0.hok c' _ hc
  refine PySem.W.kla_callFunE hr.depth of1 rfl L.co L.gen rfl ⟨c', oc, vs, t', rfl, hoc, hdc, hvc⟩ ?_
  rw [hbind]
  have lim : s1.heap.NoLimit := e0.mod.nolimit.keeps fun b o e => (e0.bs b o e).1
  refine wpAny_pure (wpAny_newFunctionEnv (fun y hy => (L.own y hy).2) (fun y hy => absurd hy (by simp)) (fun h2 hns hsb => ⟨lim.fresh _ hsb, ?_⟩) L.kind)
  have kp : ∀ b o, s1.heap.get? b = some o → h2.get? b = some o := fun b o e => hsb.extBut b o (Nat.ne_of_lt (Heap.lt_size e)) (Heap.get?_push_of_some _ e)
  have J : Inv (LamX.lamCx X A outer s1 H1 E scope f c') [] σ H1 { s1 with heap := h2, toks := s1.toks + ([] : List (Str × Value)).length } := LamX.lam_start2 I L e0 hr.hd un hns kp
  show codeAny _ _ (.expr body (LamX.lamEnv X scope s1.heap.objs.size f c')) _ _
  refine PySem.W.kla_codeExpr (wpAny_mono ((hbody _ _ s1 H1 E (hr.deeper _)).run [] _ _ H1 Q J ht) (fun v s' hq => ?_) fun e s' hq => hq)
  obtain ⟨w', H', J', rv, q⟩ := hq
  exact ⟨w', H', J'.os, J'.bare, J'.base, J'.hok, rv, q⟩
/-! ### the def that tries what it gets -/
/-- what is wished of a lambda that is tried: nothing caught gives None -/
def tCat (K : Frag) (CS : Value) (tl : XK → Hp → VK → Prop) (E : XK) : Hp → VK → Prop := fun H Q =>
  tl (fun cls d H' => ∃ b, PySem.W.exmOne K cls CS = some b ∧ (b = true → ∀ a, H' a = none → Q (.ref a) (upd H' a (ErrO a cls d))) ∧ (b = false → E cls d H')) H (fun _ H' => Q .non H')
/-- .. and what a def makes of the error or None -/
def tWrk (G : Gx) (CS : Value) (fw : IV → Option IV) (tl : XK → Hp → VK → Prop) (E : XK) : Hp → VK → Prop := fun H Q =>
  tCat G.K CS tl E H fun v H1 => ∃ F1 d d', (∀ a, F1 a → H1 a ≠ none) ∧ Fz G F1 H1 v d ∧ fw d = some d' ∧ ∀ v' H' F', Fr H1 F1 H' F' → Fz G F' H' v' d' → Q v' H'
def WrkOk (P : Program) (w : World) (K : Frag) (mg : Str → Option Value) (base : Heap) (G : Gx) (CS : Value) (k : Nat) (g : Addr) (fd : FuncData) (ps : List Str) (fw : IV → Option IV) : Prop :=
  ∀ (fs0 : List Addr) (s0 : Shared) (H0 : Hp) (f c' : Addr) (q : Str) (kL : Nat) (tl : XK → Hp → VK → Prop) (A : Around) (outer : List PySem.Env) (s : Shared) (H : Hp) (Q : VK) (E : XK) (args : Args),
    LamAt P w K mg base fs0 s0 H0 f c' q kL tl → Room (kL + k) A → Env0 P w K mg base A outer s H → Un fs0 [] H0 H s0.heap s.heap → (∀ b ∈ frs outer, b ∈ fs0 ∨ s0.heap.get? b = none) → H c' = some (LamX.CodeO c' q) →
    BindsTo s fd args (ps.zip [.ref f]) → tWrk G CS fw tl E H Q → codeAny (model P w) A (.call (.ref g) args) (CR (L2.CX P w) outer P w H s Q E) s
structure WrkM (P : Program) (w : World) (K : Frag) (mg : Str → Option Value) (base : Heap) (G : Gx) (CS : Value) (k : Nat) (x : Str) (fw : IV → Option IV) : Prop where
  ex : ∃ (f : Addr) (fd : FuncData) (ps : List Str), mg x = some (.ref f) ∧ PySem.W.keepIn K (.ref f) = true ∧ Binds K fd ps [] ∧ ps.length = 1 ∧ WrkOk P w K mg base G CS k f fd ps fw
/-- work(), in the try of the def that got it -/
theorem pe_tried {P : Program} {w : World} {K : Frag} {mg : Str → Option Value} {base : Heap} {fs0 : List Addr} {s0 : Shared} {H0 : Hp} {f c' : Addr} {q : Str} {kL : Nat} {tl : XK → Hp → VK → Prop} {Z : Cx} {W : WX} {a : Str} {p1 p2 : Pos}
    (L : LamAt P w K mg base fs0 s0 H0 f c' q kL tl) (hP : Z.prog = P) (hw : Z.w = w) (hK : Z.K = K) (hm : Z.mg = mg) (hbs : Z.base = base) (hr : Room kL Z.A) (tk : Takes Z W)
    (hun : ∀ pins σ H s, Inv Z pins σ H s → Un fs0 [] H0 H s0.heap s.heap) (hN : Z.N[0]? = some a) (hv : Vis Z.env.scope a) (hd : (a == ("__debug__" : Str)) = false) (hcd : (a == ("__classdict__" : Str)) = false) :
    PE Z (.Call (.Name a p1) [] [] p2) (fun σ H Q => σ[0]? = some (some (.ref f)) ∧ H c' = some (LamX.CodeO c' q) ∧ ∃ E : XK, (∀ cls d H', E cls d H' → W cls d σ H') ∧ tl E H Q) := by
  subst hP hw hK hm hbs
  refine ⟨fun pins s σ H Q I h => ?_⟩
  obtain ⟨h1, h2, E, hE, h3⟩ := h
  refine wpAny_Call_Name_kw (thn ((pe_var (pos := p1) (i := 0) hN hv hd hcd).run pins s σ H (fun v H1 => v = .ref f ∧ H1 = H) I ⟨.ref f, h1, rfl, rfl⟩) fun u s1 ⟨v, H1, I1, r1, ev, eH⟩ => ?_)
  subst ev eH
  obtain rfl : u = Value.ref f := r1
  have un := hun _ _ _ _ I1
  obtain ⟨pa, bd, sc, cl, pm, ctv, of0⟩ := L.obj
  have of1 := un.keep f _ of0 L.hn L.nf (fun z => nomatch z)
  refine PySem.W.callWith_F0 ⟨_, _, _, _, of1⟩ ?_
  have rc := L.acts Z.A Z.stack s1 H1 Q E hr I1.env0 un h2 h3
  refine wpAny_call (codeAny_mono rc fun r s' hq => ?_)
  cases r with
  | error e => exact tk e s' (XE.of_call I1 hE hq)
  | ok fl =>
    cases fl with
    | ret u => exact I1.after hq
    | _ => exact False.elim hq
/-- the usual def: m = None; try: a() except x as n: m = n; return m -/
def catBody (a m n x : Str) (j : Nat) (p1 p2 p3 p4 p5 p6 p7 p8 p9 p10 p11 p12 p13 p14 : Pos) : List Stmt :=
  [.Assign [.Name m p1] (.Constant .none j p2) p3, .Try [.Expr (.Call (.Name a p4) [] [] p5) p6] [.ExceptHandler (some (.Name x p7)) (some n) [.Assign [.Name m p8] (.Name n p9) p10] p11] [] [] p12, .Return (some (.Name m p13)) p14]
theorem cat_ok {P : Program} {w : World} {K : Frag} {mg : Str → Option Value} {base : Heap} {d : DefM} {fd : FuncData} {G : Gx} {CS : Addr} {j : Nat} {p1 p2 p3 p4 p5 p6 p7 p8 p9 p10 p11 p12 p13 p14 : Pos} (F : FunM K d fd)
    (S : FnScope ["_law_work", "_law_caught_here", "_law_error"] ["_law_work"] (defScope d.st)) (hK : G.K = K)
    (hb : defBody d.st = catBody "_law_work" "_law_caught_here" "_law_error" "HandError" j p1 p2 p3 p4 p5 p6 p7 p8 p9 p10 p11 p12 p13 p14)
    (l0 : (defScope d.st).names.lookup ("_law_work" : Str) = some NameKind.local) (l1 : (defScope d.st).names.lookup ("_law_caught_here" : Str) = some NameKind.local) (l2 : (defScope d.st).names.lookup ("_law_error" : Str) = some NameKind.local) (l3 : (defScope d.st).names.lookup ("HandError" : Str) = some NameKind.globalImplicit)
    (hm : mg "HandError" = some (.ref CS)) : WrkOk P w K mg base G (.ref CS) 1 (d.adr K) fd ["_law_work"] some := by
  subst hK
  intro fs0 s0 H0 f c' q kL tl A outer s H Q E args L hr e0 un hfs hc hbd ht
  obtain ⟨oc, od, dV, kV, doc, pm, an, cdv, ct, osl, rfl, lk, hcd, _, _⟩ := F.ex
  refine LamX.run_ofS (us := [.ref f]) (vs := [.ref f]) lk hcd S hr e0 hbd (.cons rfl .nil) rfl fun hr2 => ?_
  rw [hb]
  have hname : Names (cxOf (L2.CX P w) P w G.K mg base ["_law_work", "_law_caught_here", "_law_error"] d.qual (defScope d.st) (d.adr G.K) cdv A outer s H E) "HandError" (.ref CS) := ⟨l3, by decide, .inl hm⟩
  refine ⟨_, pss_cons (ps_set (i := 1) S.nd rfl (.inl l1) pe_non) (pss_cons (ps_try_keep (i := 2) (j := 1) rfl rfl rfl S.nd rfl l2 (show 2 < 3 by decide) rfl l1 l2 hname (takes_of rfl rfl rfl rfl) (by decide) (by decide)
    (tb := fun W => tDrop fun σ H Q => σ[0]? = some (some (.ref f)) ∧ H c' = some (LamX.CodeO c' q) ∧ ∃ E : XK, (∀ cls d H', E cls d H' → W cls d σ H') ∧ tl E H Q) fun W pn xe tk _ => ?_) (pss_one (ps_ret (pe_var (i := 1) rfl (.inl l1) (by decide) (by decide))))), ?_⟩
  · exact pss_one (ps_expr (pe_tried L rfl rfl rfl rfl rfl hr2 tk (fun pins σ H1 s1 I1 => un_comp un I1.base hfs) rfl (.inl l0) (by decide) (by decide)))
  · refine ⟨rfl, hc, fun cls d H' => ∃ b, PySem.W.exmOne G.K cls (.ref CS) = some b ∧ (b = true → ∀ a, H' a = none → Q (.ref a) (upd H' a (ErrO a cls d))) ∧ (b = false → E cls d H'), fun cls d H' ⟨b, e1, e2, e3⟩ => ⟨b, e1, fun hb2 a ha => ⟨.ref a, rfl, e2 hb2 a ha⟩, e3⟩, ?_⟩
    have weak : ∀ v H1, (∃ F1 d d', (∀ a, F1 a → H1 a ≠ none) ∧ Fz G F1 H1 v d ∧ some d = some d' ∧ ∀ v' H' F', Fr H1 F1 H' F' → Fz G F' H' v' d' → Q v' H') → Q v H1 := fun v H1 ⟨F1, d, d', _, r, e, k⟩ => by
      cases e
      exact k v H1 F1 (Fr.refl _ _) r
    refine L.mono _ _ _ _ _ (fun cls d H1 ⟨b, e1, e2, e3⟩ => ⟨b, e1, fun hb2 a ha => weak _ _ (e2 hb2 a ha), e3⟩) (fun _ H1 q1 => ⟨.non, rfl, weak _ _ q1⟩) ht
/-! ### a def that tells what the lambda's error is -/
theorem frs_self {e : PySem.Env} {l : List PySem.Env} {L : Addr} (h : e.frame = some L) : ∀ b ∈ frs (e :: l), b = L ∨ b ∈ frs l := fun b hb => by
  obtain ⟨e', he, q⟩ := List.mem_filterMap.mp hb
  rcases List.mem_cons.mp he with z | z
  · rw [z, h] at q
    exact Or.inl (Option.some.inj q).symm
  · exact Or.inr (List.mem_filterMap.mpr ⟨e', z, q⟩)
theorem pe_handOn {P : Program} {w : World} {K : Frag} {mg : Str → Option Value} {base : Heap} {fs0 : List Addr} {s0 : Shared} {H0 : Hp} {f c' : Addr} {q : Str} {kL k : Nat} {tl : XK → Hp → VK → Prop} {G : Gx} {CS : Value} {Z : Cx} {E : XK} {x a : Str} {fw : IV → Option IV} {p1 p2 pos : Pos}
    (L : LamAt P w K mg base fs0 s0 H0 f c' q kL tl) (Fo : WrkM P w K mg base G CS k x fw) (hP : Z.prog = P) (hw : Z.w = w) (hK : Z.K = K) (hm : Z.mg = mg) (hbs : Z.base = base) (hr : Room (kL + k) Z.A) (tk : Takes Z fun cls d _ H => E cls d H)
    (hun : ∀ pins σ H s, Inv Z pins σ H s → Un fs0 [] H0 H s0.heap s.heap) (hfs : ∀ b ∈ frs Z.stack, b ∈ fs0 ∨ s0.heap.get? b = none) (hg : Gl Z x) (hdb : (x == ("__debug__" : Str)) = false)
    (hN : Z.N[0]? = some a) (hv : Vis Z.env.scope a) (hd : (a == ("__debug__" : Str)) = false) (hcd : (a == ("__classdict__" : Str)) = false) :
    PE Z (.Call (.Name x p1) [.Name a p2] [] pos) (fun σ H Q => σ[0]? = some (some (.ref f)) ∧ H c' = some (LamX.CodeO c' q) ∧ tWrk G CS fw tl E H Q) := by
  subst hP hw hK hm hbs
  obtain ⟨g, fd, ps, g1, g2, g3, hl, g4⟩ := Fo.ex
  refine ⟨fun pins s σ H Q I h => ?_⟩
  obtain ⟨h1, h2, h3⟩ := h
  refine wpAny_Call_Name_kw (ld_glob I hg g1 ?_ hdb)
  have ha : PA Z [.Name a p2] (tCons (tVar 0) tNil) := pa_cons (pe_var hN hv hd hcd) pa_nil
  refine PySem.W.callWith_K (h₀ := Z.base) I.ok.mod.kin g2 (thn (ha.run pos pins s σ H (fun vs H1 => vs = [V.ref f] ∧ H = H1) I ⟨.ref f, h1, rfl, rfl⟩) fun us s1 hh => ?_)
  obtain ⟨vs, H1, I1, r1, ev, eH⟩ := hh
  subst ev
  rw [← eH] at I1
  refine ⟨I1.kIn, ?_⟩
  cases r1 with
  | cons ru rn =>
    cases rn
    cases ru
    have hbd : BindsTo s1 fd ⟨[.ref f], []⟩ (ps.zip [.ref f]) := by
      have z := g3 s1 [.ref f] I1.kIn (by rw [List.append_nil, hl]; rfl)
      simpa using z
    have rc := g4 fs0 s0 H0 f c' q kL tl Z.A Z.stack s1 H Q E _ L hr I1.env0 (hun _ _ _ _ I1) hfs h2 hbd h3
    refine wpAny_call (codeAny_mono rc fun r s' hq => ?_)
    cases r with
    | error e => exact tk e s' (XE.of_call I1 (fun cls d H' z => z) hq)
    | ok fl =>
      cases fl with
      | ret u => exact I1.after hq
      | _ => exact False.elim hq
/-- what the rest of the def makes of it; n: its slots -/
def fwOf (n : Nat) (body : S) (fw : IV → Option IV) : IV → Option IV := fun d => match fw d with
  | some d1 => (match body (.un :: .fz d1 :: List.replicate (n - 2) .un) with
    | .rt d' _ => some d'
    | _ => none)
  | none => none
theorem word_ok {P : Program} {w : World} {K : Frag} {mg : Str → Option Value} {base : Heap} {d : DefM} {fd : FuncData} {G : Gx} {CS : Value} {k : Nat} {N : List Str} {a e x : Str} {rest : List Stmt} {body : S} {fw : IV → Option IV} {p1 p2 p3 p4 p5 : Pos} (F : FunM K d fd)
    (S : FnScope N [a] (defScope d.st)) (hN : 2 ≤ N.length) (hN0 : N[0]? = some a) (hN1 : N[1]? = some e) (hb : defBody d.st = .Assign [.Name e p1] (.Call (.Name x p2) [.Name a p3] [] p4) p5 :: rest)
    (l0 : (defScope d.st).names.lookup a = some NameKind.local) (l1 : (defScope d.st).names.lookup e = some NameKind.local) (lx : (defScope d.st).names.lookup x = some NameKind.globalImplicit) (hd : (a == ("__debug__" : Str)) = false) (hcd : (a == ("__classdict__" : Str)) = false) (hdx : (x == ("__debug__" : Str)) = false)
    (Fo : WrkM P w K mg base G CS k x fw)
    (hrest : ∀ (cdv : Value) (A : Around) (outer : List PySem.Env) (s : Shared) (H : Hp) (E : XK), Room k (A.deeper (envOfC d.qual (defScope d.st) s.heap.objs.size (d.adr K) cdv)) →
      PSs (cxOf (L2.CX P w) P w K mg base N d.qual (defScope d.st) (d.adr K) cdv A outer s H E) rest (tsOf G (fun cls d _ H => E cls d H) [] body)) : WrkOk P w K mg base G CS (k + 1) (d.adr K) fd [a] (fwOf N.length body fw) := by
  intro fs0 s0 H0 f c' q kL tl A outer s H Q E args L hr e0 un hfs hc hbd ht
  obtain ⟨oc, od, dV, kV, doc, pm, an, cdv, ct, osl, rfl, lk, hcd2, _, _⟩ := F.ex
  refine LamX.run_ofS (us := [.ref f]) (vs := [.ref f]) lk hcd2 S hr e0 hbd (.cons rfl .nil) rfl fun hr2 => ?_
  rw [hb]
  have nL : s0.heap.get? s.heap.objs.size = none := by
    cases z : s0.heap.get? s.heap.objs.size with
    | none => rfl
    | some o =>
      obtain ⟨o', z2⟩ := un.there _ o z (fun z => nomatch z)
      exact absurd (Heap.lt_size z2) (Nat.lt_irrefl _)
  have hfs2 : ∀ b ∈ frs (envOfC d.qual (defScope d.st) s.heap.objs.size (d.adr K) cdv :: outer), b ∈ fs0 ∨ s0.heap.get? b = none := fun b hb2 => by
    rcases frs_self rfl b hb2 with z | z
    · exact Or.inr (by rw [z]; exact nL)
    · exact hfs b z
  have hσ : (start N [V.ref f]) = some (.ref f) :: List.replicate (N.length - 1) none := rfl
  refine ⟨_, pss_cons (ps_set (i := 1) S.nd hN1 (.inl l1) (pe_handOn L Fo rfl rfl rfl rfl rfl hr2 (takes_of rfl rfl rfl rfl) (fun pins σ H1 s1 I1 => un_comp un I1.base hfs) hfs2 lx hdx hN0 (.inl l0) hd hcd)) (hrest cdv A outer s H E (hr2.mono (Nat.le_add_left k kL))), ?_⟩
  refine ⟨rfl, hc, ?_⟩
  have key : ∀ v H1, (∃ F1 d1 d', (∀ a, F1 a → H1 a ≠ none) ∧ Fz G F1 H1 v d1 ∧ fwOf N.length body fw d1 = some d' ∧ ∀ v' H' F', Fr H1 F1 H' F' → Fz G F' H' v' d' → Q v' H') →
      ∃ F1 d1 d', (∀ a, F1 a → H1 a ≠ none) ∧ Fz G F1 H1 v d1 ∧ fw d1 = some d' ∧ ∀ v' H' F', Fr H1 F1 H' F' → Fz G F' H' v' d' →
        tsOf G (fun cls d _ H => E cls d H) [] body { nx := fun _ H' => Q .non H', rt := Q } ((start N [V.ref f]).set 1 (some v')) H' := by
    rintro v H1 ⟨F1, d1, d', ft, r, e1, k1⟩
    unfold fwOf at e1
    cases hd1 : fw d1 with
    | none => rw [hd1] at e1; cases e1
    | some d2 =>
      rw [hd1] at e1
      dsimp only at e1
      refine ⟨F1, d1, d2, ft, r, hd1, fun v' H' F' fr r' => ?_⟩
      have ft' : ∀ a, F' a → H' a ≠ none := fun a h => by
        rcases fr.fnew a h with g | ⟨_, g⟩
        · exact fun z => ft a g (fr.dom a z)
        · exact g
      have e0' : EnvR G F' H' ((start N [V.ref f]).set 1 (some v')) (.un :: .fz d2 :: List.replicate (N.length - 2) .un) (fun _ _ => False) := by
        refine ⟨fun j x z => ?_, fun j x z => ?_, fun _ _ _ h => h.elim, fun _ _ h => h.elim, fun _ _ h => h.elim, fun _ _ _ h => h.elim, ft', ?_⟩
        · match j with
          | 0 => cases z
          | 1 =>
            cases z
            refine ⟨v', List.getElem?_set_self ?_, r'⟩
            rw [hσ, List.length_cons, List.length_replicate]
            omega
          | j + 2 =>
            rw [List.getElem?_cons_succ, List.getElem?_cons_succ] at z
            have := List.eq_of_mem_replicate (List.mem_of_getElem? z)
            cases this
        · match j with
          | 0 => cases z
          | 1 => cases z
          | j + 2 =>
            rw [List.getElem?_cons_succ, List.getElem?_cons_succ] at z
            have := List.eq_of_mem_replicate (List.mem_of_getElem? z)
            cases this
        · rw [List.length_set, hσ]
          simp only [List.length_cons, List.length_replicate]
          omega
      refine ⟨_, F', _, e0', ?_⟩
      split at e1
      · rename_i d3 ρ3 hbd3
        cases e1
        rw [hbd3]
        intro v2 σ2 H2 F2 fp2 st en _ r2
        refine k1 v2 H2 F2 (fr.trans ⟨fun a o h => st.keep a o h fun ⟨_, z⟩ => z, st.frm, fun a h => ?_⟩) r2
        rcases st.fnew a h with g | ⟨_, g⟩ | g
        · exact Or.inl g
        · exact g.elim
        · exact Or.inr ⟨g, en.ft a h⟩
      · cases e1
  exact L.mono _ _ _ _ _ (fun cls d2 H1 ⟨b, e1, e2, e3⟩ => ⟨b, e1, fun hb2 a2 ha2 => key _ _ (e2 hb2 a2 ha2), e3⟩) (fun _ H1 q1 => key _ _ q1) ht
end MR
set_option maxRecDepth 100000
set_option maxHeartbeats 4000000
/-! MirLan: the making of a lambda; f(lambda: e). -/
namespace MR
open PySem PySem.Spec PyProof.Rows L2
theorem codeO_tbl {c : Addr} {q : Str} {ps : Array Value} : LamX.CodeO c q ≠ .tbl ps := LamX.codeO_ne ps
/-- the lambda is made: its code object is new and goes into the table, or it stands there -/
theorem lam_made {X : Cx} {pins : List (Addr × Obj)} {σ : L2.St} {H : Hp} {s : Shared} {c P : Addr} {q : Str} {ps : Array Value} {params : Arguments} {body : Expr} {scope : Scope} {pos : Pos} {E : Value → Shared → Prop} {Q : Value → Shared → Prop} (I : Inv X pins σ H s)
    (TB : LamX.TabB X.base X.mg c P) (hcode : X.env.code = .ref c) (hq : q = X.env.qual ++ "<lambda>") (hP : H P = some (.tbl ps)) (ht : TriplesOk ps.toList) (ha : ∀ (p' : Pos) (cv : Value), codeAmong p' ps.toList = some cv → ∃ c, cv = .ref c ∧ H c = some (LamX.CodeO c q))
    (hdef : defaultsOf params X.env = ([], [])) (hfree : ∀ y ∈ scope.names, y.2 = .free → ∃ c, X.env.cells.lookup y.1 = some c)
    (h : ∀ (f c' : Addr) (pm ctv : Value) (H1 : Hp) (t : Shared), Inv X pins σ H1 t → ((H1 = H ∧ codeAmong pos ps.toList = some (.ref c')) ∨ (H c' = none ∧ c' ≠ P ∧ H1 = upd (upd H P (.tbl (ps ++ #[rawInt pos.line, rawInt pos.col, .ref c']))) c' (LamX.CodeO c' q))) →
      t.heap.get? f = some (PySem.W.kla_obj "<lambda>" q params body scope (cloFrom X.env.cells scope.names []) pm c' ctv) → H1 f = none → f ∉ frs X.stack → H1 c' = some (LamX.CodeO c' q) → Q (.ref f) t) :
    wpAny (model X.prog X.w) X.A (eval (.Lambda params body scope pos) X.env) Q E s := by
  subst hq
  have hP2 : s.heap.get? P = some { cls := .none, data := .fields ps } := I.hok P _ hP
  have away : ∀ f, s.heap.objs.size ≤ f → f ∉ frs X.stack := fun f hf z => (List.mem_cons.mp (I.stkSub _ z)).elim (fun e => by
    have lt := I.lt
    rw [← e] at lt
    exact absurd (Nat.lt_of_lt_of_le lt hf) (Nat.lt_irrefl _)) fun e => I.nofs hf e
  refine PySem.W.kla_eval hdef ?_
  cases hc : codeAmong pos ps.toList with
  | some cv =>
    obtain ⟨c', e, hco⟩ := ha pos cv hc
    subst e
    refine PySem.W.kla_makeFunctionHit (mg := X.mg) (c := c) (P := P) (ps := ps) (closure_ok hfree) I.ok.glob (I.mod.glob.keeps I.bk) hcode (TB.code.keeps I.bk) hP2 ht hc (TB.bm.keeps I.bk) fun ctv hn tk hx hsz => ?_
    exact h hn.objs.size c' _ ctv H _ (I.kept fun b o e => Heap.get?_push_of_some _ (hx b o e)) (Or.inl ⟨rfl, hc⟩) (Heap.get?_push_size _ rfl) (I.hok.fresh hsz) (away _ hsz) hco
  | none =>
    refine PySem.W.kla_makeFunction (mg := X.mg) (c := c) (P := P) (ps := ps) (closure_ok hfree) I.ok.glob (I.mod.glob.keeps I.bk) hcode (TB.code.keeps I.bk) hP2 ht hc TB.gP (TB.bm.keeps I.bk) fun c' ctv hn tk hx hge hlt hrec htb => ?_
    obtain ⟨c2, oc, vs, tq, e2, hoc, hd, hv⟩ := hrec
    cases e2
    have grow : s.heap.objs.size ≤ hn.objs.size := Nat.le_trans hge (Nat.le_of_lt hlt)
    have newC : H c' = none := I.hok.fresh hge
    have cP : c' ≠ P := (ne_of_none hP newC).symm
    have I1 := LamX.inv_table (t' := tk) (more := #[rawInt pos.line, rawInt pos.col, .ref c']) (h' := hn.push (PySem.W.kla_obj "<lambda>" (X.env.qual ++ "<lambda>") params body scope (cloFrom X.env.cells scope.names []) ((X.mg "__name__").getD .none) c' ctv)) I hP
      (fun b o hb e => Heap.get?_push_of_some _ (hx b o hb e)) (Heap.get?_push_of_some _ htb) hge ⟨oc, vs, tq, Heap.get?_push_of_some _ hoc, hd, hv⟩
    refine h hn.objs.size c' _ ctv _ _ I1 (Or.inr ⟨newC, cP, rfl⟩) (Heap.get?_push_size _ rfl) ?_ (away _ grow) upd_same
    rw [upd_ne (Nat.ne_of_gt hlt), upd_ne (Nat.ne_of_gt (Nat.lt_of_lt_of_le (Heap.lt_size hP2) grow))]
    exact I.hok.fresh grow
section
variable {X : Cx} {G : Gx} {W : WX} {σ : L2.St} {H : Hp} {F : AP1} {fp : FPt} {ρ : Env}
/-- behind the making of a lambda: the frozen part grows by its code object -/
theorem env_made {i : Nat} {c' : Addr} {ps : Array Value} {pos : Pos} (e : EnvR G F H σ ρ fp) (hi : ρ[i]? = some (.ow .tab)) (hP : H G.tb.1 = some (.tbl ps)) (ht : TriplesOk ps.toList)
    (ha : ∀ (p' : Pos) (cv : Value), codeAmong p' ps.toList = some cv → ∃ c, cv = .ref c ∧ F c ∧ H c = some (LamX.CodeO c G.tb.2)) (own : fp i G.tb.1) (nC : H c' = none) (cP : c' ≠ G.tb.1) :
    EnvR G (fun a => F a ∨ a = c') (upd (upd H G.tb.1 (.tbl (ps ++ #[rawInt pos.line, rawInt pos.col, .ref c']))) c' (LamX.CodeO c' G.tb.2)) σ ρ fp ∧
    Stp H F (un fp) (upd (upd H G.tb.1 (.tbl (ps ++ #[rawInt pos.line, rawInt pos.col, .ref c']))) c' (LamX.CodeO c' G.tb.2)) (fun a => F a ∨ a = c') (un fp) := by
  have nF : ¬ F G.tb.1 := fun f => e.nf i _ own f
  have keep : ∀ a o, H a = some o → a ≠ G.tb.1 → (upd (upd H G.tb.1 (.tbl (ps ++ #[rawInt pos.line, rawInt pos.col, .ref c']))) c' (LamX.CodeO c' G.tb.2)) a = some o := fun a o h n => by
    rw [upd_ne (ne_of_none h nC), upd_ne n]
    exact h
  have tP : (upd (upd H G.tb.1 (.tbl (ps ++ #[rawInt pos.line, rawInt pos.col, .ref c']))) c' (LamX.CodeO c' G.tb.2)) G.tb.1 = some (.tbl (ps ++ #[rawInt pos.line, rawInt pos.col, .ref c'])) := by
    rw [upd_ne cP.symm, upd_same]
  have dom : ∀ a, H a ≠ none → (upd (upd H G.tb.1 (.tbl (ps ++ #[rawInt pos.line, rawInt pos.col, .ref c']))) c' (LamX.CodeO c' G.tb.2)) a ≠ none := fun a n => by
    by_cases h : a = G.tb.1
    · rw [h, tP]; exact fun z => by cases z
    · obtain ⟨o, ho⟩ := Option.ne_none_iff_exists'.mp n
      rw [keep a o ho h]; exact fun z => by cases z
  have sq : Stq H F (upd (upd H G.tb.1 (.tbl (ps ++ #[rawInt pos.line, rawInt pos.col, .ref c']))) c' (LamX.CodeO c' G.tb.2)) (fun a => F a ∨ a = c') :=
    ⟨fun a o h f => keep a o h fun z => nF (by rw [← z]; exact f), fun a o h m => keep a o h fun z => by
      rw [z, hP] at h
      cases h
      exact m, fun a f => Or.inl f⟩
  have other : ∀ j a, j ≠ i → fp j a → a ≠ G.tb.1 := fun j a n h z => n (e.dis j i a h (by rw [z]; exact own))
  refine ⟨⟨fun j d z => ?_, fun j d z => ?_, e.dis, fun j a h f => ?_, fun j a h => dom a (e.tr j a h), fun j a o h z => ?_, fun a f => ?_, e.len⟩, ⟨fun a o h n => keep a o h fun z => n ⟨i, by rw [z]; exact own⟩, fun a f => Or.inl f, fun a f => f.elim Or.inl fun z => Or.inr (Or.inr (by rw [z]; exact nC)), fun a p => Or.inl p, fun a z => Classical.byContradiction fun n => dom a n z⟩⟩
  · obtain ⟨w, e1, e2⟩ := e.fz j d z
    exact ⟨w, e1, e2.mono sq⟩
  · obtain ⟨w, e1, e2⟩ := e.ow j d z
    by_cases hj : j = i
    · subst hj
      rw [hi] at z
      cases z
      cases e2 with
      | tab h1 h2 h3 h4 =>
        rw [hP] at h1
        cases h1
        have eL : (ps ++ #[rawInt pos.line, rawInt pos.col, Value.ref c']).toList = ps.toList ++ [rawInt pos.line, rawInt pos.col, .ref c'] := by simp
        refine ⟨w, e1, .tab tP (by rw [eL]; exact PySem.TriplesOk_snoc _ _ _ _ ht) (fun p' cv hc => ?_) h4⟩
        rw [eL] at hc
        rcases LamX.among_app _ ht hc with z | z
        · obtain ⟨c0, g1, g2, g3⟩ := ha p' cv z
          exact ⟨c0, g1, Or.inl g2, keep c0 _ g3 fun z => by rw [z, hP] at g3; cases g3⟩
        · exact ⟨c', z, Or.inr rfl, upd_same⟩
    · exact ⟨w, e1, e2.mono sq fun a o h p => keep a o h (other j a hj p)⟩
  · rcases f with f | f
    · exact e.nf j a h f
    · exact e.tr j a h (by rw [f]; exact nC)
  · by_cases ha2 : a = G.tb.1
    · rw [ha2, tP] at z
      cases z
      exact fun z => z
    · cases hu : H a with
      | none => exact (e.tr j a h hu).elim
      | some u =>
        rw [keep a u hu ha2] at z
        cases z
        exact e.ni j a o h hu
  · rcases f with f | f
    · exact dom a (e.ft a f)
    · rw [f, upd_same]; exact fun z => by cases z
/-- f(lambda: e): the lambda's outcome, then what the def makes of it; i: the slot of the table; ok: the errors that it catches -/
def iLam (i : Nat) (ok : String → Bool) (fw : IV → Option IV) (B : E) : E := fun ρ => match ρ[i]? with
  | some (.ow .tab) => (match B ρ with
    | .ok _ ρ1 => ofO (fw .non) ρ1
    | .ex c p ρ1 => if ok c = true then ofO (fw (.err c p)) ρ1 else .no
    | .no => .no)
  | _ => .no
theorem tOf_mono {B : E} {E1 E2 : XK} {Q1 Q2 : VK} (hE : ∀ c d H1, E1 c d H1 → E2 c d H1) (hQ : ∀ v H1, Q1 v H1 → Q2 v H1) (h : teOf G (fun cls d _ H => E1 cls d H) B σ H Q1) : teOf G (fun cls d _ H => E2 cls d H) B σ H Q2 := by
  obtain ⟨ρ, F, fp, e, h⟩ := h
  refine ⟨ρ, F, fp, e, ?_⟩
  cases hB : B ρ with
  | ok d ρ1 => rw [hB] at h; exact fun v H' F' fp' s e' r => hQ _ _ (h v H' F' fp' s e' r)
  | ex c p ρ1 => rw [hB] at h; exact fun d H' F' fp' s e' r => hE _ _ _ (h d H' F' fp' s e' r)
  | no => rw [hB] at h; exact h
/-- what the law's context is to be -/
structure LamC (X : Cx) (G : Gx) : Prop where
  ex : ∃ c, X.env.code = .ref c ∧ LamX.TabB X.base X.mg c G.tb.1
  qual : G.tb.2 = X.env.qual ++ "<lambda>"
theorem m_lamcall (o : Ok X G W) (C : LamC X G) {i k kL : Nat} {x : Str} {CS : Value} {fw : IV → Option IV} {okc : String → Bool} {params : Arguments} {body : Expr} {scope : Scope} {B : E} {p lpos pos : Pos} (Fo : WrkM X.prog X.w X.K X.mg X.base G CS k x fw) (hr : Room (kL + 1 + k) X.A)
    (hok : ∀ c, okc c = true → PySem.W.exmOne G.K (G.ecl c) CS = some true) (L : LamX.LamS X.env.scope scope)
    (hbody : ∀ (A : Around) (outer : List PySem.Env) (s1 : Shared) (H1 : Hp) (E : XK) (f c' : Addr), Room kL (A.deeper (LamX.lamEnv X scope s1.heap.objs.size f c')) → PE (LamX.lamCx X A outer s1 H1 E scope f c') body (teOf G (fun cls d _ H => E cls d H) B))
    (hbind : ∀ (q : Str) (cl : List (Str × Addr)) (pm cv ctv : Value), bindArgs (PySem.W.kla_fn "<lambda>" q params body scope cl pm cv ctv) ⟨[], []⟩ = pure [] := by intros; rfl)
    (hg : Gl X x := by rfl) (hdb : (x == ("__debug__" : Str)) = false := by decide) (hdef : defaultsOf params X.env = ([], []) := by rfl) :
    PE X (.Call (.Name x p) [.Lambda params body scope lpos] [] pos) (teOf G W (iLam i okc fw B)) := by
  obtain ⟨g, fd, gps, g1, g2, g3, hl, g4⟩ := Fo.ex
  obtain ⟨c, hcode, TB⟩ := C.ex
  refine ⟨fun pins s σ H Q I h => ?_⟩
  obtain ⟨ρ, F, fp, e, h⟩ := h
  unfold iLam at h
  split at h
  · rename_i hi
    obtain ⟨w, hw, ow⟩ := e.ow i _ hi
    cases ow with
    | @tab _ ps q hP ht ha hq =>
      have own : fp i G.tb.1 := (hq _).mpr rfl
      refine wpAny_Call_Name_kw (ld_glob I hg g1 ?_ hdb)
      refine PySem.W.callWith_K (h₀ := X.base) I.ok.mod.kin g2 ?_ (by rfl) (by rfl)
      show wpAny _ _ (spliced ((false, eval (.Lambda params body scope lpos) X.env) :: backTo pos (starEach [] X.env))) _ _ s
      refine Calls.spliced_cons (lam_made I TB hcode C.qual hP ht (fun p' cv hc => let ⟨c0, z1, _, z3⟩ := ha p' cv hc; ⟨c0, z1, z3⟩) hdef (L.has I.ok) fun f c' pm ctv H1 t I1 alt hf hfn hfr hco => ?_)
      have env1 : ∃ F1, EnvR G F1 H1 σ ρ fp ∧ Stp H F (un fp) H1 F1 (un fp) := by
        rcases alt with ⟨rfl, _⟩ | ⟨nC, cP, rfl⟩
        · exact ⟨F, e, Stp.refl _ _ _⟩
        · exact ⟨_, (env_made e hi hP ht ha own nC cP).1, (env_made e hi hP ht ha own nC cP).2⟩
      obtain ⟨F1, e1, s1⟩ := env1
      rw [C.qual] at hf hco
      have LA := acts_of (k := kL) (t := fun E => teOf G (fun cls d _ H => E cls d H) B) I1 L hf hfn hfr (hbind _ _ _ _ _) (fun A outer s2 H2 E hr2 => hbody A outer s2 H2 E f c' hr2) (fun E1 E2 H2 Q1 Q2 hE hQ z => tOf_mono hE hQ z)
      refine Calls.spliced_nil ⟨I1.kIn, ?_⟩
      have hbd : BindsTo t fd ⟨[.ref f], []⟩ (gps.zip [.ref f]) := by
        have z := g3 t [.ref f] I1.kIn (by rw [List.append_nil, hl]; rfl)
        simpa using z
      have fin : ∀ (d d' : IV) (ρ1 : Env) (v : V) (H2 : Hp) (F2 : AP1) (fp2 : FPt), Stp H F (un fp) H2 F2 (un fp2) → EnvR G F2 H2 σ ρ1 fp2 → Fz G F2 H2 v d → fw d = some d' → Oc RV G W σ H F fp (.ok d' ρ1) Q →
          ∃ F1 d d', (∀ a, F1 a → H2 a ≠ none) ∧ Fz G F1 H2 v d ∧ fw d = some d' ∧ ∀ v' H' F', Fr H2 F1 H' F' → Fz G F' H' v' d' → Q v' H' := fun d d' ρ1 v H2 F2 fp2 st en r ew hQ =>
        ⟨F2, d, d', en.ft, r, ew, fun v' H' F' fr r' => hQ v' H' F' fp2 (st.trans (fr.stp _)) (en.fr fr) r'⟩
      have rd : tWrk G CS fw (fun E H' Q => teOf G (fun cls d _ H => E cls d H) B σ H' Q) (fun _ _ _ => False) H1 Q := by
        refine ⟨ρ, F1, fp, e1, ?_⟩
        cases hB : B ρ with
        | no => rw [hB] at h; exact h.elim
        | ok d0 ρ1 =>
          rw [hB] at h
          dsimp only at h
          cases hfw : fw .non with
          | none => rw [hfw] at h; exact h.elim
          | some d' =>
            rw [hfw] at h
            exact fun v H2 F2 fp2 st en _ => fin .non d' ρ1 .non H2 F2 fp2 (s1.trans st) en .non hfw h
        | ex cl pp ρ1 =>
          rw [hB] at h
          dsimp only at h
          by_cases hk : okc cl = true
          · rw [if_pos hk] at h
            cases hfw : fw (.err cl pp) with
            | none => rw [hfw] at h; exact h.elim
            | some d' =>
              rw [hfw] at h
              intro dd H2 F2 fp2 st en hx
              refine ⟨true, hok cl hk, fun _ a ha2 => ?_, fun z => by cases z⟩
              have fr : Fr H2 F2 (upd H2 a (ErrO a (G.ecl cl) dd)) (fun b => F2 b ∨ b = a) := Fr.newF ha2
              refine fin (.err cl pp) d' ρ1 (.ref a) _ _ fp2 ((s1.trans st).trans (fr.stp _)) (en.fr fr) ?_ hfw h
              rcases hx with ⟨z1, z2⟩ | ⟨dx, vs, z1, z2, z3, z4⟩
              · subst z1 z2
                exact .err0 (Or.inr rfl) upd_same
              · subst z1
                exact .errD (Or.inr rfl) upd_same (Or.inl z2) (fr.keep _ _ z3) (z4.mono fr.stq)
          · rw [if_neg hk] at h; exact h.elim
      have rc := g4 (frs X.stack) t H1 f c' _ (kL + 1) _ X.A X.stack t H1 Q (fun _ _ _ => False) ⟨[.ref f], []⟩ LA hr I1.env0 (Un.refl) (fun b hb => Or.inl hb) hco hbd rd
      refine wpAny_call (codeAny_mono rc fun r s2 hq2 => ?_)
      cases r with
      | error e2 => obtain ⟨_, _, _, _, _, _, _, _, _, _, _, _, hE⟩ := hq2; exact hE.elim
      | ok fl =>
        cases fl with
        | ret u => exact I1.after hq2
        | _ => exact False.elim hq2
  · exact h.elim
end
end MR
set_option maxRecDepth 100000
set_option maxHeartbeats 4000000
/-! MirLaw: a law that makes lambdas: its table of code objects, its entry, its end. -/
namespace MR
open PySem PySem.Spec PyProof.Rows L2
/-! ### a slot that no name has -/
theorem inv_ghost {X : Cx} {pins : List (Addr × Obj)} {σ : L2.St} {H : Hp} {s : Shared} {i : Nat} {g : Str} {w : V} (I : Inv X pins σ H s) (hg : X.N[i]? = some g) (nv : ¬ Vis X.env.scope g) : Inv X pins (σ.set i (some w)) H s := by
  obtain ⟨m, hn, hl⟩ := I.loc
  refine ⟨I.ok, I.os, I.bare, I.base, ⟨m, hn, fun j x v e1 e2 e3 => ?_⟩, I.cell, I.free, I.freeC, I.pin, I.hok, by rw [List.length_set]; exact I.len⟩
  by_cases hj : i = j
  · subst hj
    rw [hg] at e1
    cases e1
    exact (nv e3).elim
  · rw [List.getElem?_set_ne hj] at e2
    exact hl j x v e1 e2 e3
theorem pss_ghost {X : Cx} {st : List Stmt} {t : TS} {i : Nat} {g : Str} (hg : X.N[i]? = some g) (nv : ¬ Vis X.env.scope g) (h : PSs X st t) : PSs X st (fun D σ H => t D (σ.set i (some .non)) H) :=
  ⟨fun pins s _ H D I w => h.run pins s _ H D (inv_ghost I hg nv) w⟩
/-! ### the law's entry -/
def spT (G : Gx) (f : Fn) : Sp := fun vs H Q _ => ∃ v d F, vs = [v] ∧ Fz G F H v d ∧ (∀ a, F a → H a ≠ none) ∧ ¬ F G.tb.1 ∧ H G.tb.1 = some (.tbl #[]) ∧ (match f [d] with
  | .ok r _ => ∀ v H' F', Fz G F' H' v r → Q v H'
  | _ => False)
/-- n: its slots, the last one the table's -/
def fnT (n : Nat) (body : S) : Fn := fun ds => match ds with
  | [d] => (match body (.fz d :: (List.replicate (n - 2) .un ++ [.ow .tab])) with
    | .rt r _ => .ok r []
    | .nx _ => .ok .non []
    | _ => .no)
  | _ => .no
theorem t_body {G : Gx} {F : AP1} {H : Hp} {v : V} {d : IV} {N : List Str} (hN : 2 ≤ N.length) (r : Fz G F H v d) (ft : ∀ a, F a → H a ≠ none) (nF : ¬ F G.tb.1) (hP : H G.tb.1 = some (.tbl #[])) :
    EnvR G F H ((L2.start N [v]).set (N.length - 1) (some .non)) (.fz d :: (List.replicate (N.length - 2) .un ++ [.ow .tab])) (fun i a => i = N.length - 1 ∧ a = G.tb.1) := by
  obtain ⟨m, hm⟩ : ∃ m, N.length = m + 2 := ⟨N.length - 2, by omega⟩
  have hs : L2.start N [v] = some v :: List.replicate (m + 1) none := by
    unfold L2.start
    rw [hm]
    rfl
  rw [hs, hm]
  have e1 : m + 2 - 1 = m + 1 := rfl
  have e2 : m + 2 - 2 = m := rfl
  rw [e1, e2]
  have last : ∀ j, (List.replicate m Sl.un ++ [Sl.ow .tab])[j]? = some (.ow .tab) → j = m := fun j z => by
    by_cases hj : j < m
    · rw [List.getElem?_append_left (by simpa using hj)] at z
      have := List.eq_of_mem_replicate (List.mem_of_getElem? z)
      cases this
    · rw [List.getElem?_append_right (by simpa using hj)] at z
      have h2 := (List.getElem?_eq_some_iff.mp z).1
      simp at h2
      omega
  refine ⟨fun j x z => ?_, fun j x z => ?_, fun i j a h1 h2 => by rw [h1.1, h2.1], fun i a h f => nF (by rw [← h.2]; exact f), fun i a h z => ?_, fun i a o h z => ?_, ft, ?_⟩
  · cases j with
    | zero =>
      cases z
      exact ⟨v, by rw [List.set_cons_succ]; rfl, r⟩
    | succ j =>
      rw [List.getElem?_cons_succ] at z
      have := List.mem_of_getElem? z
      rw [List.mem_append] at this
      rcases this with h | h
      · cases List.eq_of_mem_replicate h
      · simp at h
  · cases j with
    | zero => cases z
    | succ j =>
      rw [List.getElem?_cons_succ] at z
      have hx : x = .tab := by
        have := List.mem_of_getElem? z
        rw [List.mem_append] at this
        rcases this with h | h
        · cases List.eq_of_mem_replicate h
        · simp at h; exact h
      subst hx
      have hj := last j z
      subst hj
      refine ⟨.non, by rw [List.getElem?_set_self (by simp)], .tab hP trivial (fun pos cv hc => ?_) fun a => ⟨fun h => h.2, fun h => ⟨rfl, h⟩⟩⟩
      have hc2 : codeAmong pos [] = some cv := hc
      simp [codeAmong] at hc2
  · rw [h.2, hP] at z; cases z
  · rw [h.2, hP] at z; cases z; exact fun z => z
  · simp
/-- a law's def -/
theorem fn_okT {P : Program} {w : World} {K : Frag} {mg : Str → Option Value} {base : Heap} {d : DefM} {fd : FuncData} {N : List Str} {a g : Str} {k : Nat} {G : Gx} {body : S} (F : FunM K d fd) (ha : d.adr K = He.fAd K ("law", none)) (S : FnScope N [a] (defScope d.st)) (hN : 2 ≤ N.length)
    (hg : N[N.length - 1]? = some g) (nv : ¬ Vis (defScope d.st) g) (hq : G.tb.2 = (d.qual ++ ".<locals>.") ++ "<lambda>") (TB : LamX.TabB base mg (He.codeOf K ("law", none)) G.tb.1)
    (hbody : ∀ (A : Around) (outer : List PySem.Env) (s : Shared) (H : Hp) (E : XK) (cdv : Value), LamC (cxOf (L2.CX P w) P w K mg base N d.qual (defScope d.st) (d.adr K) cdv A outer s H E) G → A.guards = some [] → Room k (A.deeper (envOfC d.qual (defScope d.st) s.heap.objs.size (d.adr K) cdv)) →
      PSs (cxOf (L2.CX P w) P w K mg base N d.qual (defScope d.st) (d.adr K) cdv A outer s H E) (defBody d.st) (tsOf G (fun cls d _ H => E cls d H) [] body)) : FnG P w K mg base (L2.CX P w) (k + 1) (d.adr K) fd [a] (spT G (fnT N.length body)) := by
  have hlen : ∀ vs H Q E, spT G (fnT N.length body) vs H Q E → vs.length = ([a] : List Str).length := fun vs H Q E ⟨v, _, _, e, _⟩ => by rw [e]; rfl
  refine ⟨hlen, fun A outer s H as us vs Q E hG hr he hb hv hs => ?_⟩
  obtain ⟨oc, od, dV, kV, doc, pm, an, cdv, ct, osl, rfl, lk, hcd, _, _⟩ := F.ex
  obtain ⟨c, ec⟩ := He.codeIn_ref hcd
  have hcode : He.codeOf K ("law", none) = c := He.codeOf_eq (by rw [← ha]; exact lk) ec
  refine LamX.run_ofS lk hcd S hr he hb hv (hlen _ _ _ _ hs) fun hr2 => ⟨_, pss_ghost hg nv (hbody A outer s H E cdv ⟨⟨c, ec, by rw [← hcode]; exact TB⟩, hq⟩ hG hr2), ?_⟩
  obtain ⟨v, d0, F0, rfl, r, ft, nF, hP, hm⟩ := hs
  refine ⟨_, F0, _, t_body hN r ft nF hP, ?_⟩
  unfold fnT at hm
  dsimp only at hm
  cases hb2 : body (.fz d0 :: (List.replicate (N.length - 2) .un ++ [.ow .tab])) with
  | rt r0 ρ0 =>
    rw [hb2] at hm
    exact fun v σ' H' F' fp' _ _ _ r => hm v H' F' r
  | nx ρ0 =>
    rw [hb2] at hm
    exact fun σ' H' F' fp' _ _ _ => hm .non H' F' .non
  | ex c p ρ0 => rw [hb2] at hm; exact hm.elim
  | bk ρ0 => rw [hb2] at hm; exact hm.elim
  | ct ρ0 => rw [hb2] at hm; exact hm.elim
  | no => rw [hb2] at hm; exact hm.elim
/-! ### the law's end -/
theorem law_callL {P : Program} {w : World} {K : Frag} {mg mb : Str → Option Value} {k : Nat} {fa a c T : Addr} {fd : FuncData} {x : Str} {sp : Sp} {s1 : Shared} {vs : List Value} {ns : List Int} (KX : K.In s1.heap) (hns : s1.heap.Ns mainGlobals mg) (hb : s1.heap.Ns builtinsNs mb)
    (hbb : ∀ x : Str, x ≠ "__name__" → mb x = bootBuiltins x) (hlim : s1.heap.NoLimit) (hg : s1.gens = #[]) (ha : s1.heap.get? a = some { cls := .type "list", data := .seq vs.toArray }) (hi : IntsAre vs ns) (hl : ns.length ≤ sizeLine) (hr : Room k callerA)
    (hbm : ∃ (bm : Addr) (ob : Obj), mg "__builtins__" = some (.ref bm) ∧ bm ≠ builtinsNs ∧ s1.heap.get? bm = some ob ∧ ob.cls = .type "module" ∧ ob.dict = some builtinsNs ∧ ob.data = .plain)
    (hT : s1.heap.get? T = some { cls := .none, data := .fields #[] }) (nT : K.lookup T = none) (C : PySem.W.CodeHd s1.heap c T)
    (F : ∀ base : Heap, K.In base → base.Ns mainGlobals mg → LamX.TabB base mg c T → FnG P w K mg base (L2.CX P w) k fa fd [x] sp) (hbind : ∀ (s : Shared) (u : Value), BindsTo s fd ⟨[u], []⟩ [(x, u)])
    (hsp : ∀ H : Hp, Only H → H T = none → SqL K (upd H T (.tbl #[])) a (ns.map V.int) → sp [.ref a] (upd H T (.tbl #[])) (fun v _ => v = .bl true) fun _ _ _ => False) :
    codeAny (model P w) callerA (.call (.ref fa) ⟨[.ref a], []⟩) (fun r s' => r = .ok (.ret (.bool true)) ∧ OldK s1.heap s'.heap ∧ s'.os = s1.os ∧ AllBare s'.gens) s1 := by
  obtain ⟨H0, hO, hS, hok0, hA, hK⟩ := script_at (P := P) (w := w) KX ha hi hl
  have aT : T ≠ a := fun z => by
    rw [z, ha] at hT
    cases hT
  have nH0 : H0 T = none := Classical.byContradiction fun z => aT (hA T z)
  have hok : HOk P w (upd H0 T (.tbl #[])) s1.heap := L2.HOk.laidN hok0 (fun _ _ e => e) nH0 hT
  have hS1 : SqL K (upd H0 T (.tbl #[])) a (ns.map V.int) := by
    rcases hS with (z | ⟨o, z⟩) | z
    · exact Or.inl (Or.inl (by rw [upd_ne aT.symm]; exact z))
    · exact Or.inl (Or.inr ⟨o, by rw [upd_ne aT.symm]; exact z⟩)
    · exact Or.inr z
  have hA1 : ∀ b, upd H0 T (.tbl #[]) b ≠ none → b = a ∨ b = T := fun b z => by
    by_cases h : b = T
    · exact Or.inr h
    · rw [upd_ne h] at z
      exact Or.inl (hA b z)
  have free : ∀ {b : Addr}, b ≠ a → b ≠ T → upd H0 T (.tbl #[]) b = none := fun {b} n n2 => Classical.byContradiction fun z => (hA1 b z).elim n n2
  have seen : ∀ {b : Addr} {o : Obj}, s1.heap.get? b = some o → (∀ its n, o.data ≠ .seq its n) → o.data ≠ .fields #[] → upd H0 T (.tbl #[]) b = none := fun {b o} e q1 q2 => free (fun z => by
    rw [z, ha] at e
    cases e
    exact q1 _ _ rfl) fun z => by
    rw [z, hT] at e
    cases e
    exact q2 rfl
  have nsK : ∀ {b : Addr} {m : Str → Option Value}, s1.heap.Ns b m → (hidT s1.heap (upd H0 T (.tbl #[]))).Ns b m := fun ⟨o, es, ep, e, q, r⟩ => ⟨o, es, ep, hidT_get e (seen e (fun _ _ z => by rw [q] at z; cases z) fun z => by rw [q] at z; cases z), q, r⟩
  have kin : K.In (hidT s1.heap (upd H0 T (.tbl #[]))) := fun b o e => hidT_get (KX b o e) (Classical.byContradiction fun z => by
    rcases hA1 b z with n | n
    · subst n
      rw [upd_ne aT.symm] at z
      rw [hK z] at e
      cases e
    · rw [n, nT] at e
      cases e)
  have TB : LamX.TabB (hidT s1.heap (upd H0 T (.tbl #[]))) mg c T := by
    refine ⟨?_, ?_, fun z => ?_⟩
    · obtain ⟨o, us, file, tf, flags, tg, inF, text, tt, e1, r1, r2, r3, r4⟩ := C
      refine ⟨o, us, file, tf, flags, tg, inF, text, tt, hidT_get e1 (seen e1 (fun _ _ z => by rw [r2] at z; cases z) fun z => ?_), r1, r2, r3, r4⟩
      rw [r2] at z
      cases z
      simp at r3
    · obtain ⟨bm, ob, b1, b2, b3, b4, b5, b6⟩ := hbm
      refine ⟨bm, ob, b1, b2, fun q => ?_, fun q => ?_, hidT_get b3 (seen b3 (fun _ _ z => by rw [b6] at z; cases z) fun z => by rw [b6] at z; cases z), b4, b5, b6⟩
      · obtain ⟨o, es, ep, e, hd, _⟩ := hns
        rw [q, e] at b3
        cases b3
        rw [hd] at b6
        cases b6
      · rw [q, hT] at b3
        cases b3
        cases b6
    · obtain ⟨o, es, ep, e, hd, _⟩ := hns
      rw [z, hT] at e
      cases e
      cases hd
  obtain ⟨mc, l1, l2⟩ := hlim
  have e0 : Env0 P w K mg (hidT s1.heap (upd H0 T (.tbl #[]))) callerA [] s1 (upd H0 T (.tbl #[])) := ⟨rfl, ⟨kin, nsK hns, ⟨mb, nsK hb, hbb⟩, ⟨mc, nsK l1, l2⟩⟩, fun b o e => of_hidT e, Nat.le_of_eq (hidT_size _ _), trivial, fun b z => (by cases z), hok, .of_eq hg⟩
  refine codeAny_mono ((F _ kin (nsK hns) TB).run callerA [] s1 _ ⟨[.ref a], []⟩ [.ref a] [.ref a] _ _ rfl hr e0 (hbind s1 (.ref a)) (.cons rfl .nil) (hsp H0 hO nH0 hS1)) fun r s' z => ?_
  have done : ∀ u, CE [] P w (upd H0 T (.tbl #[])) s1 (fun v _ => v = .bl true) u s' → u = Value.bool true ∧ OldK s1.heap s'.heap ∧ s'.os = s1.os ∧ AllBare s'.gens := fun u ⟨v, H', os, bare, un, hok', rel, q⟩ => by
    have q' : v = .bl true := q
    subst q'
    obtain rfl : u = Value.bool true := rel
    obtain ⟨more, zT⟩ := un.tbls T #[] upd_same
    have gT : s'.heap.get? T = some { cls := .none, data := .fields (#[] ++ more) } := hok' T _ zT
    have key : ∀ b o, b ≠ T → s1.heap.get? b = some o → s'.heap.get? b = some o := fun b o nb e => by
      rcases hO b with n | ⟨ob, xs, n⟩
      · exact un.keep b o e (by rw [upd_ne nb]; exact n) (by intro t; cases t) (by simp)
      · have t1 := (hok0 b _ n).1
        have t2 := (hok' b _ (un.frzs b ob _ (by rw [upd_ne nb]; exact n))).1
        rw [t1] at e
        cases e
        exact t2
    refine ⟨rfl, ⟨fun b o e => ?_, fun b o e => ?_⟩, os, bare⟩
    · by_cases hb2 : b = T
      · subst hb2
        rw [hT] at e
        cases e
        exact Or.inr (Or.inl ⟨(C.tab hT).isCodeTable, rfl, #[], more, rfl, gT⟩)
      · exact Or.inl (key b o hb2 e)
    · by_cases hb2 : b = T
      · subst hb2
        exact ⟨_, gT⟩
      · exact ⟨o, key b o hb2 e⟩
  cases r with
  | error e => obtain ⟨_, _, _, _, _, _, _, _, _, _, _, _, hE⟩ := z; exact hE.elim
  | ok fl =>
    cases fl with
    | ret u =>
      obtain ⟨rfl, q⟩ := done u z
      exact ⟨rfl, q⟩
    | _ => exact False.elim z
theorem walk_ofL {l : PySem.W.OpenLaw} {n k : Nat} {q : Program} {loose : List Str} {XP : (Str → Option Value) → Heap → Prop} {YP : World → Heap → Prop} {d : DefRec} {x : Str} (hn : l.most = some n) (hn2 : n ≤ sizeLine) (hdf : d.params.defaults = []) (hr : Room k callerA) (hrec : ((recsOf q).any fun e => e.name == d.name) = true)
    (F : ∀ (w : World) (mg : Str → Option Value) (fa : Addr) (h : Heap), YP w h → h.Ns mainGlobals mg → mg d.name = some (.ref fa) →
      ∃ (K : Frag) (fd : FuncData) (sp : Sp), K.In h ∧ fa = He.fAd K ("law", none) ∧ (∃ (ob : Obj) (fd0 : FuncData) (c : Addr) (oc : Obj) (vs : Array Value), K.lookup fa = some ob ∧ ob.data = .func fd0 ∧ fd0.code = .ref c ∧ K.lookup c = some oc ∧ oc.data = .fields vs) ∧ K.lookup (He.cT K ("law", none)).2 = none ∧ (∀ (s : Shared) (u : Value), BindsTo s fd ⟨[u], []⟩ [(x, u)]) ∧
        (∀ (H : Hp) (a : Addr) (ns : List Int), ns.length ≤ n → Only H → H (He.cT K ("law", none)).2 = none → SqL K (upd H (He.cT K ("law", none)).2 (.tbl #[])) a (ns.map V.int) → sp [.ref a] (upd H (He.cT K ("law", none)).2 (.tbl #[])) (fun v _ => v = .bl true) fun _ _ _ => False) ∧
        ∀ base : Heap, K.In base → base.Ns mainGlobals mg → LamX.TabB base mg (He.codeOf K ("law", none)) (He.cT K ("law", none)).2 → FnG l.prog w K mg base (L2.CX l.prog w) k fa fd [x] sp) :
    PySem.W.WalkO q loose XP YP l.row.toRowW d [] (fun f vs => PySem.call f vs) :=
  Att.attach_call hn hdf fun w _ s1 mg _ fa _ _ _ _ a _ ns G Y _ _ _ hmg hobj hints hlen hg => by
    obtain ⟨K, fd, sp, KX, hfa, ⟨ob, fd0, c, oc, vs, k1, k2, k3, k4, k5⟩, nT, hb, hsp, hF⟩ := F w mg fa _ Y G.T.g hmg
    obtain ⟨dL, hm, hn1⟩ := List.any_eq_true.mp hrec
    have hn3 : dL.name = d.name := beq_iff_eq.mp hn1
    obtain ⟨a', o', fd', c', P', h1, h2, h3, h4, h5, h6⟩ := G.T.tab dL hm
    have hc : He.codeOf K ("law", none) = c := by
      obtain ⟨oc1, od1, dt1, sl1⟩ := ob
      have k2' : dt1 = .func fd0 := k2
      subst k2'
      exact He.codeOf_eq (by rw [← hfa]; exact k1) k3
    have e1 : c' = c := by
      rw [hn3, hmg] at h1
      cases h1
      have g1 := KX _ _ k1
      rw [g1] at h2
      cases h2
      rw [k2] at h3
      cases h3
      rw [k3] at h4
      cases h4
      rfl
    subst e1
    have eP : (He.cT K ("law", none)).2 = P' := by
      obtain ⟨⟨o2, vs2, z1, z2, z3, z4⟩, _⟩ := h6
      have g2 := KX _ _ k4
      rw [g2] at z1
      cases z1
      show He.tabOf K (He.codeOf K ("law", none)) = P'
      rw [hc]
      unfold He.tabOf
      obtain ⟨oc1, od1, dt1, sl1⟩ := oc
      have z3' : dt1 = .fields vs2 := z3
      subst z3'
      rw [k4]
      dsimp only
      rw [Array.getD_eq_getD_getElem?, z4]
      rfl
    have hT : s1.heap.get? (He.cT K ("law", none)).2 = some { cls := .none, data := .fields #[] } := by rw [eP]; exact h6.2
    have C : PySem.W.CodeHd s1.heap (He.codeOf K ("law", none)) (He.cT K ("law", none)).2 := by rw [eP, hc]; exact PySem.W.CodeHd.of h5 h6
    exact law_callL KX G.T.g G.T.b G.T.builtins G.T.nolimit hg hobj hints (Nat.le_trans hlen hn2) hr G.T.bmain hT nT C hF hb fun H hO hP hS => hsp H a ns hlen hO hP hS
/-- the law's promise at its start -/
theorem law_spT {G : Gx} {H : Hp} {a : Addr} {ns : List Int} {fn : Fn} {outs : List IV} {E : XK} (hO : Only H) (hP : H G.tb.1 = none) (h : SqL G.K (upd H G.tb.1 (.tbl #[])) a (ns.map V.int)) (hl : ns.length ≤ 63) (hf : fn [.scr ns] = .ok (.bl true) outs) :
    spT G fn [.ref a] (upd H G.tb.1 (.tbl #[])) (fun v _ => v = .bl true) E := by
  have hS : StL G.K (upd H G.tb.1 (.tbl #[])) a (ns.map V.int) := by
    rcases h with (h | ⟨o, h⟩) | h
    · by_cases e : a = G.tb.1
      · rw [e, upd_same] at h; cases h
      · rw [upd_ne e] at h
        rcases hO a with z | ⟨o, xs, z⟩
        · rw [z] at h; cases h
        · rw [z] at h; cases h
    · exact Or.inl ⟨o, h⟩
    · exact Or.inr h
  refine ⟨.ref a, .scr ns, fun _ => False, rfl, .scr hS hl, fun _ h => h.elim, fun h => h, upd_same, ?_⟩
  rw [hf]
  exact fun v H' F' r => r.bl_inv
end MR
set_option maxRecDepth 100000
set_option maxHeartbeats 4000000
/-! MirRz: raise C('..'); isinstance of caught errors. -/
namespace MR
open PySem PySem.Spec PyProof.Rows L2
/-! ### what the written part says of the errors' classes -/
/-- all are of the first one's kind, each of its own -/
def subE (c c' : String) : Bool := c == c' || c' == "HandError"
structure ErC (G : Gx) (cs : List String) : Prop where
  ecl : ∀ c, G.ecl c = .ref (G.cls c)
  xc : ∀ c ∈ cs, ExcC G.K (G.cls c)
  rs : ∀ c ∈ cs, PySem.W.keepIn G.K (.ref (G.cls c)) = true ∧ PySem.W.subIn G.K (.ref (G.cls c)) (.type "BaseException") = some true ∧ PySem.W.typeIn G.K (.ref (G.cls c)) = some (.type "type")
  kk : ∀ c ∈ cs, ∀ c' ∈ cs, PySem.W.kitOne G.K (.ref (G.cls c)) (.ref (G.cls c')) = some (subE c c')
  kn : ∀ c ∈ cs, PySem.W.kitOne G.K (.type "NoneType") (.ref (G.cls c)) = some false
  xm : ∀ c ∈ cs, PySem.W.exmOne G.K (G.ecl c) (.ref (G.cls "HandError")) = some true
theorem erC_of {K : Frag} {cs : List String} (inj : ∀ c ∈ cs, ∀ c' ∈ cs, subS (Str.ofString c) (Str.ofString c') = subE c c') (h : errB K (cs.map Str.ofString) = true) : ErC (gx K) cs := by
  obtain ⟨h1, h2⟩ := He.ba h
  obtain ⟨h3, h4⟩ := He.ba h2
  have at_ : ∀ c ∈ cs, _ := fun c hc => List.all_eq_true.mp h1 (Str.ofString c) (List.mem_map.mpr ⟨c, hc, rfl⟩)
  simp only [Bool.and_eq_true, decide_eq_true_eq, List.all_eq_true, List.mem_map, forall_exists_index, and_imp, forall_apply_eq_imp_iff₂] at at_
  refine ⟨fun _ => rfl, fun c hc => ?_, fun c hc => ?_, fun c hc c' hc' => ?_, fun c hc => ?_, fun c hc => ?_⟩
  · obtain ⟨a1, a2, a3, a4, a5, a6, a7, a8, a9, a10, a11⟩ := at_ c hc
    exact ⟨a4, a5, a2, a6, a7, of_decide_eq_true h3, of_decide_eq_true h4, a8⟩
  · obtain ⟨a1, a2, a3, a4, a5, a6, a7, a8, a9, a10, a11⟩ := at_ c hc
    exact ⟨a1, a2, a3⟩
  · obtain ⟨a1, a2, a3, a4, a5, a6, a7, a8, a9, a10, a11⟩ := at_ c hc
    rw [← inj c hc c' hc']
    exact a9 c' hc'
  · obtain ⟨a1, a2, a3, a4, a5, a6, a7, a8, a9, a10, a11⟩ := at_ c hc
    exact a10
  · obtain ⟨a1, a2, a3, a4, a5, a6, a7, a8, a9, a10, a11⟩ := at_ c hc
    exact a11
/-! ### raise C('..') -/
section
variable {X : Cx} {G : Gx} {W : WX} {pin : List Nat} {cs : List String}
def sRaise (c : String) : S := fun ρ => .ex c [] ρ
theorem s_raise (o : Ok X G W) (k : ErC G cs) {c : String} {x m : Str} {j : Nat} {p p2 pos pos' : Pos} (hc : c ∈ cs) (hx : X.mg x = some (.ref (G.cls c))) (q : PySem.W.excIn G.K (G.cls c) [.type "ValueError", .type "Exception", .type "BaseException", .type "object"] "ValueError.__new__" = true)
    (hg : Gl X x := by rfl) (hdb : (x == ("__debug__" : Str)) = false := by decide) : PS X (.Raise (some (.Call (.Name x p) [.Constant (.str m) j p2] [] pos)) none pos') (tsOf G W pin (sRaise c)) := by
  obtain ⟨r1, r2, r3⟩ := k.rs c hc
  rw [← o.K] at q r1 r2 r3
  refine PS.imp (ps_raise o.calm o.tk (pmk_own PySem.F.excBase_ValueError q hx r1 (raises_own r2 r3) hg hdb)) ?_
  rintro D σ H ⟨ρ, F, fp, e, h⟩
  show W (.ref (G.cls c)) none σ H
  have h2 := h none σ H F fp (Stp.refl _ _ _) e (Pn.refl _ _) (Or.inl ⟨rfl, rfl⟩)
  rw [k.ecl] at h2
  exact h2
/-! ### isinstance(err, C) -/
def rIsX (K : Frag) : List V → Hp → VK → Prop := fun xs H Q => ∃ (x c : V) (t cv : Value) (b : Bool), xs = [x, c] ∧ (∀ u, RelV c u → u = cv) ∧ ((x = .non ∧ t = .type "NoneType") ∨ ∃ p D, x = .ref p ∧ t = .ref D ∧ (H p = some (ErrO p (.ref D) none) ∨ ∃ dd vs, H p = some (ErrO p (.ref D) (some dd)) ∧ H dd = some (.xd vs)) ∧ ExcC K D) ∧
  PySem.W.kitOne K t cv = some b ∧ Q (.bl b) H
theorem call_isX : CallR X (.builtin "isinstance") (rIsX X.K) := by
  intro pins s σ H xs us Q I r h
  obtain ⟨x, c, t, cv, b, rfl, hcv, alt, e, q⟩ := h
  obtain ⟨u1, u2, rfl, r1, r2⟩ := vals2 r
  have ec := hcv _ r2
  subst ec
  rcases alt with ⟨rfl, rfl⟩ | ⟨p, D, rfl, rfl, hp, hD⟩
  · obtain ⟨P, Z, pz, hx⟩ := kit_of I r1 (.base .non)
    exact PySem.W.kia_one Z I.kIn pz e hx fun tk => ⟨.bl b, H, I.tok tk, rfl, q⟩
  · cases r1
    have inst : ∃ ob od, PySem.W.InstAt s.heap p ob D od := by
      rcases hp with hp | ⟨dd, fs, hp, hx⟩
      · obtain ⟨⟨oe, vs, hget, hz, hd⟩, _, _⟩ := I.hok p _ hp
        obtain ⟨oc, od, oda, osl⟩ := oe
        obtain ⟨h1, h2⟩ := hz
        dsimp only at h1 h2 hd
        subst h1 h2 hd
        exact ⟨_, none, hget, rfl, rfl, trivial⟩
      · obtain ⟨⟨oe, vs, hget, hz, hd⟩, _, _⟩ := I.hok p _ hp
        have hxd : ObjOk X.prog X.w H s.heap dd (.xd fs) := I.hok dd _ hx
        obtain ⟨mA, hns, _⟩ := hxd
        obtain ⟨od, ho, _⟩ := lookIn_ns hns
        exact ⟨oe, some od, hget, hz.1, by unfold PySem.W.notCls; rw [hd] <;> rfl, by rw [hz.2]; exact ho⟩
    obtain ⟨ob, od, J⟩ := inst
    have hcl : (PySem.W.clsIn X.K D).isSome = true := by
      obtain ⟨cd, hc, _⟩ := PySem.W.any_some hD.hd
      rw [hc]
      rfl
    exact PySem.W.kia_one (PySem.W.kitx_exc hcl hD.hg hD.hk hD.hs hD.ha hD.hn hD.ht hD.hm) I.kIn J e (fun z => nomatch z) fun tk => ⟨.bl b, H, I.tok tk, rfl, q⟩
def isX (cs : List String) (d : IV) (k : String) : Option Bool := if k ∈ cs then (match d with
  | .non => some false
  | .err c _ => if c ∈ cs then some (subE c k) else none
  | _ => none) else none
def fIsX (cs : List String) : List IV → Option IV
  | [d, .cl k] => (isX cs d k).map IV.bl
  | _ => none
theorem Fz.err_inv {F : AP1} {H : Hp} {v : V} {c : String} {ds : List (Str × IV)} (h : Fz G F H v (.err c ds)) : ∃ p, v = .ref p ∧ (H p = some (ErrO p (G.ecl c) none) ∨ ∃ dd vs, H p = some (ErrO p (G.ecl c) (some dd)) ∧ H dd = some (.xd vs)) := by
  cases h with
  | err0 f h => exact ⟨_, rfl, Or.inl h⟩
  | errD f h f2 h2 a => exact ⟨_, rfl, Or.inr ⟨_, _, h, h2⟩⟩
theorem b_isX (k : ErC G cs) : CallB G (rIsX G.K) (fIsX cs) := by
  intro F H xs ds d Q hx hf kk
  unfold fIsX at hf
  split at hf
  · rename_i d0 c
    obtain ⟨b, e1, e2⟩ := Option.map_eq_some_iff.mp hf
    subst e2
    obtain ⟨v, w, rfl, h1, h2⟩ := hx.two
    have hw : w = .ref (G.cls c) := by
      have := h2.cls (Or.inr ⟨c, rfl⟩)
      cases this
      rfl
    subst hw
    unfold isX at e1
    split at e1
    · rename_i hc
      split at e1
      · cases e1
        have hv : v = .non := by
          have := h1.isN
          simpa [MR.isN] using this
        subst hv
        exact ⟨.non, .ref (G.cls c), _, .ref (G.cls c), false, rfl, fun u r => r, Or.inl ⟨rfl, rfl⟩, k.kn c hc, kk _ _ _ (Fr.refl _ _) (.bl _)⟩
      · rename_i c0 ds0
        split at e1
        · rename_i hc0
          cases e1
          have hz : Fz G F H v (.err c0 ds0) := by
            cases h1 with
            | fz h => exact h
          obtain ⟨p, rfl, hp⟩ := hz.err_inv
          rw [k.ecl] at hp
          exact ⟨.ref p, .ref (G.cls c), .ref (G.cls c0), .ref (G.cls c), _, rfl, fun u r => r, Or.inr ⟨p, _, rfl, rfl, hp, k.xc c0 hc0⟩, k.kk c0 hc0 c hc, kk _ _ _ (Fr.refl _ _) (.bl _)⟩
        · cases e1
      · cases e1
    · cases e1
  · cases hf
theorem m_isX (o : Ok X G W) (k : ErC G cs) {e c : Expr} {p pos : Pos} {J : EAv} (hg : Gl X "isinstance") (hm : X.mg "isinstance" = none) (ha : PA X [e, c] (tjOf G W J))
    (he : starEach [e, c] X.env = (false, eval e X.env) :: starEach [c] X.env := by rfl) (hpl : (backTo pos (starEach [c] X.env)).any (·.1) = false := by rfl) : PE X (.Call (.Name "isinstance" p) [e, c] [] pos) (teOf G W (iCallJ (fIsX cs) J)) := by
  have h := call_isX (X := X)
  rw [o.K] at h
  exact m_callJ h (b_isX k) hg hm rfl ha (by decide) (by decide) he hpl
theorem ok_lam {scope : Scope} {f c' : Addr} {A : Around} {outer : List PySem.Env} {s1 : Shared} {H1 : Hp} {E : XK} {k : Nat} (hr : Room k (A.deeper (LamX.lamEnv X scope s1.heap.objs.size f c'))) (hK : X.K = G.K) :
    Ok (LamX.lamCx X A outer s1 H1 E scope f c') G (fun cls d _ H => E cls d H) := ⟨hK, rfl, takes_of rfl rfl rfl rfl, by have := hr.un; show (A.deeper (LamX.lamEnv X scope s1.heap.objs.size f c')).units + 80 < cLine; omega⟩
end
/-- what walk_ofL wants of the law's def -/
theorem law_code {K : Frag} {d : DefM} {fd : FuncData} (F : FunM K d fd) : ∃ (ob : Obj) (fd0 : FuncData) (c : Addr) (oc : Obj) (vs : Array Value), K.lookup (d.adr K) = some ob ∧ ob.data = .func fd0 ∧ fd0.code = .ref c ∧ K.lookup c = some oc ∧ oc.data = .fields vs := by
  obtain ⟨oc, od, dV, kV, doc, pm, an, cdv, ct, osl, rfl, lk, hcd, _, _⟩ := F.ex
  obtain ⟨c, ec⟩ := He.codeIn_ref hcd
  subst ec
  have h2 : (match K.lookup c with
    | some ⟨_, _, .fields vs, _⟩ => (match vs.toList with | _ :: .str n _ :: _ => n == d.qual | _ => false)
    | _ => false) = true := hcd
  split at h2
  · rename_i hk
    exact ⟨_, _, c, _, _, lk, rfl, rfl, hk, rfl⟩
  · cases h2
end MR
set_option maxRecDepth 100000
set_option maxHeartbeats 4000000
/-! MirSup: an error whose __init__ says super().__init__(m); self.f = f. -/
namespace MR
open PySem PySem.Spec PyProof.Rows L2 PySem.W PySem.Calls
def supBody (m f : Str) (j : Nat) (p0 p1 p2 p3 p4 p5 p6 p7 p8 p9 : Pos) : List Stmt :=
  [.Expr (.Call (.Attribute (.Call (.Name "super" p0) [] [] p1) "__init__" p2) [.Constant (.str m) j p3] [] p4) p5,
   .Assign [.Attribute (.Name "self" p6) f p7] (.Name f p8) p9]
section
variable {P : Program} {w : World} {A : Around} {E : Value → Shared → Prop} {h : Heap} {g : Array GenState} {d : Drawn} {t : Nat} {os : OsState}
/-- the bound ValueError.__init__ called -/
theorem call_mw {u x C t0 : Addr} {rest : List Value} {Q : Value → Shared → Prop} {nm q : Str} {N : Addr} {bs bm : List Value} {hdct : Bool} {sn : List Str} {sub : List Value} {ab : Bool} {col : Option Bool} {dd : Option Addr} {k0 k1 k2 k3 k5 : Option Value}
    (hC : h.get? C = some (excClassObj nm q C N bs bm hdct sn sub ab col dd k0 k1 k2 k3 k5 "ValueError.__new__")) (hx : h.get? x = some (HandSPX.excO C t0)) (hu : h.get? u = some (kxs_mw "ValueError.__init__" x)) (hz : rest.length ≤ sizeLine)
    (fin : ∀ h' t1, (∀ b o, b ≠ x → h.get? b = some o → h'.get? b = some o) → h'.get? x = some (HandSPX.excO C t1) → Q .none ⟨h', g, d, t, os⟩) : wpAny (model P w) A (call (.ref u) rest) Q E ⟨h, g, d, t, os⟩ := by
  refine wpAny_call (codeAny_of_tree ?_)
  show wpAny _ A.in1 (callAny (.ref u) ⟨rest, []⟩) _ _ _
  simp only [callAny]
  refine wpAny_bind (wpAny_load hu ?_)
  simp only [kxs_mw, show (Value.type "method-wrapper" == Value.type "method" || Value.type "method-wrapper" == Value.type "builtin_function_or_method" || Value.type "method-wrapper" == Value.type "method-wrapper") = true by decide, if_true]
  refine KFB.if_so (by decide) ?_
  refine wpAny_bind (check_bound_init PySem.F.excBase_ValueError.toExcCallFacts hC hx rfl ?_)
  refine wpAny_bind (wpAny_pure (wpAny_pure ?_))
  refine ⟨plainId_quiet PySem.F.excBase_ValueError.init.plain _, codeAny_builtin PySem.F.excBase_ValueError.initEntry ?_⟩
  exact exc_init_tree (cls := .ref C) (t0 := t0) (dv := none) (c2 := .none) (c3 := .none) (b4 := .bool false) hx hz fun h' k e _ => fin h' _ k e
end
theorem ev_sup {env : PySem.Env} {p0 p1 p2 p3 p4 : Pos} {m : Str} {j : Nat} (hpos : (p2.endLine == p4.line) = true) : eval (.Call (.Attribute (.Call (.Name "super" p0) [] [] p1) "__init__" p2) [.Constant (.str m) j p3] [] p4) env = (do
      let ov ← attributeBase (.Call (.Name "super" p0) [] [] p1) "__init__" env (eval (.Call (.Name "super" p0) [] [] p1) env)
      standAt p2.atName
      let (f, first) ← holding [ov] (getMethod ov "__init__" (do return (← importBound (.Call (.Name "super" p0) [] [] p1) env).getD true))
      callWith p4 f first (backTo p4 (starEach [.Constant (.str m) j p3] env)) []) := by
  have e1 : methodCallForm 1 (backTo p4 (starEach [.Constant (.str m) j p3] env)) [] = true := rfl
  have e2 : methodCallPos true (.Call (.Name "super" p0) [] [] p1) env p2 p4 = pure p4 := by
    unfold methodCallPos
    rw [if_pos (by rw [hpos]; rfl)]
  show (do
      let ov ← attributeBase (.Call (.Name "super" p0) [] [] p1) "__init__" env (eval (.Call (.Name "super" p0) [] [] p1) env)
      standAt p2.atName
      methodCall (.Call (.Name "super" p0) [] [] p1) "__init__" p2 p4 env ov 1 (backTo p4 (starEach [.Constant (.str m) j p3] env)) []) = _
  have e3 : ∀ ov, methodCall (.Call (.Name "super" p0) [] [] p1) "__init__" p2 p4 env ov 1 (backTo p4 (starEach [.Constant (.str m) j p3] env)) [] = (do
      let (f, first) ← holding [ov] (getMethod ov "__init__" (do return (← importBound (.Call (.Name "super" p0) [] [] p1) env).getD true))
      callWith p4 f first (backTo p4 (starEach [.Constant (.str m) j p3] env)) []) := fun ov => by
    unfold methodCall
    rw [e1, e2]
    unfold calleeOf
    rw [if_pos rfl]
    simp only [pure_bind]
  simp only [e3]
theorem run_sup {P : Program} {w : World} {A : Around} {K : Frag} {R : Result → Shared → Prop} {C fI cda cc x t0 : Addr} {name qual f m : Str} {params : Arguments} {scope : Scope} {j : Nat} {p0 p1 p2 p3 p4 p5 p6 p7 p8 p9 : Pos} {dV kV doc pm ct oc ccl cl : Value} {an od cdd cld : Option Addr} {osl ccs csl : Array (Option Value)}
    {vs : Array Value} {file : Str} {tf : Tok} {ar : Arg} {s : Shared} {v : Value} {mg mb : Str → Option Value}
    (KX : K.In s.heap) (lim : s.heap.NoLimit) (hg : s.heap.Ns mainGlobals mg) (hb : s.heap.Ns builtinsNs mb) (hmb : mb "super" = some (.type "super")) (hmg : mg "super" = none) (hroom : A.depth < recursionLimit)
    (T : OexC K C) (hno : findIn K (.ref C) f = some none) (lk : K.lookup fI = some ⟨oc, od, .func (ksFn name qual params (supBody m f j p0 p1 p2 p3 p4 p5 p6 p7 p8 p9) scope dV kV doc pm an (.ref cda) ct cc), osl⟩) (hcd : codeIn K (.ref cda) qual = true)
    (hcode : K.lookup cda = some ⟨ccl, cdd, .fields vs, ccs⟩) (hvs : vs[2]? = some (.str file tf)) (hfile : ((P.main.file : Str) == file) = true) (hcell : K.lookup cc = some ⟨cl, cld, .cell (some (.ref C)), csl⟩)
    (hp : (params.posonlyargs ++ params.args).head? = some ar) (har : ar.arg = "self") (hbind : BindsTo s (ksFn name qual params (supBody m f j p0 p1 p2 p3 p4 p5 p6 p7 p8 p9) scope dV kV doc pm an (.ref cda) ct cc) ⟨[.ref x, v], []⟩ [("self", .ref x), (f, v)])
    (hks : scope.names.lookup ("super" : Str) = some .globalImplicit) (hkc : scope.names.lookup ("__class__" : Str) = some .free) (hka : scope.names.lookup ("self" : Str) = some .local) (hkf : scope.names.lookup f = some .local) (hfs : (("self" : Str) == f) = false)
    (hnc : ∀ x ∈ scope.names, x.2 ≠ .cell) (hco : scope.isCoroutine = false) (hgen : scope.isGenerator = false) (hk : scope.kind = .function) (hfd : (f == ("__debug__" : Str)) = false) (hpos : (p2.endLine == p4.line) = true)
    (sup : ks_superIn K C C "__init__" = some (some (.builtin "ValueError.__init__"))) (subV : subIn K (.ref C) (.type "ValueError") = some true) (hmro : mroIn K C (.ref C) = some true) (op : nsIn K cStatics "thirdparty.any" = some none) (htop : (P.main.scope.names.lookup ("super" : Str)).isSome = false)
    (hx : s.heap.get? x = some (HandSPX.excO C t0)) (hKx : K.lookup x = none)
    (hR : ∀ h' tk' dx t1, (∀ b o, b ≠ x → s.heap.get? b = some o → h'.get? b = some o) → s.heap.objs.size ≤ dx → dx ≠ x → h'.get? x = some ({ cls := .ref C, dict := some dx, data := .fields #[.ref t1, .none, .none, .none, .bool false, .none] } : Obj) →
      h'.Ns1 dx (fun y => if y = f then some v else none) → R (.ok (.ret .none)) { s with heap := h', toks := tk' }) :
    codeAny (model P w) A (.call (.ref fI) ⟨[.ref x, v], []⟩) R s := by
  obtain ⟨nm, q, N, bs, bm, sn, sub, ab, col, dd, k0, k1, k2, k3, k5, hCK, hbm⟩ := T.cls
  have hcl : clsIn K C = some { name := nm, bases := bs, mro := .ref C :: bm, ns := N, qualname := q, hasDict := true, slotNames := sn, subclasses := sub, abstract := ab, collection := col, hasDel := false } := by unfold clsIn; rw [hCK] <;> rfl
  refine ks_codeAny_call_defAt (fd := ksFn name qual params (supBody m f j p0 p1 p2 p3 p4 p5 p6 p7 p8 p9) scope dV kV doc pm an (.ref cda) ct cc) (body := supBody m f j p0 p1 p2 p3 p4 p5 p6 p7 p8 p9) (binds := [("self", .ref x), (f, v)]) hroom (KX _ _ lk) rfl lim (codeRec_of KX hcd) rfl hbind hnc
    (fun y hy => ?_) (fun h₁ hns hk₁ => ?_) hco hgen hk
  · simp only [List.mem_cons, List.not_mem_nil, or_false] at hy
    rcases hy with rfl | rfl
    · exact hka
    · exact hkf
  have xs : x < s.heap.objs.size := Heap.lt_size hx
  have K1 : K.In h₁ := fun b o e => hk₁ b o (KX b o e)
  have x1 := hk₁ _ _ hx
  have vself : ([(("self" : Str), Value.ref x), (f, v)].reverse).lookup ("self" : Str) = some (.ref x) := by
    show (match (("self" : Str) == f) with | true => some v | false => ([(("self" : Str), Value.ref x)]).lookup ("self" : Str)) = _
    rw [hfs]
    rfl
  have vf : ([(("self" : Str), Value.ref x), (f, v)].reverse).lookup f = some v := by
    show (match (f == f) with | true => some v | false => _) = _
    rw [show (f == f) = true from beq_iff_eq.mpr rfl]
  refine ks_wpAt_execs_cons (ks_wpAt_Expr_any (ks_wpAt_MethodCall (pl := (do return (← importBound (.Call (.Name "super" p0) [] [] p1) (ksEnv qual scope s.heap.objs.size fI (.ref cda) cc)).getD true)) ?_ (ev_sup hpos)) (by
    unfold interactive
    rw [show (callEnv (ksFn name qual params (supBody m f j p0 p1 p2 p3 p4 p5 p6 p7 p8 p9) scope dV kV doc pm an (.ref cda) ct cc) s.heap.objs.size fI).scope.kind = .function from hk]
    rfl) rfl)
  refine ks_wpAt_super_base (env := ksEnv qual scope s.heap.objs.size fI (.ref cda) cc) hks hkc (by decide) rfl (K1 _ _ lk) rfl hp rfl (K1 _ _ hcode) rfl hvs hfile htop ?_
  refine ks_loadName_global hk hks (loadGlobal_builtin (env := ksEnv qual scope s.heap.objs.size fI (.ref cda) cc) (hg.keeps hk₁) hmg (hb.keeps hk₁) hmb ⟨rfl, ?_⟩)
  refine wpAny_loadName_free hk hkc rfl ⟨_, K1 _ _ hcell, rfl⟩ ?_
  rw [har]
  refine wpAny_loadName_local hk hka hns vself ?_
  refine ks_wpAny_isType_cls (K1 _ _ hCK) rfl ⟨rfl, ?_⟩
  refine ks_wpAny_call_super (K1 _ _ hCK) rfl x1 rfl (fun c e => by cases e) (looks_mroIn K1 hmro) (fun h2 e2 hk2 => ?_)
  have K2 : K.In h2 := fun b o e => hk2 b o (K1 b o e)
  have x2 := hk2 _ _ x1
  have I2 : InstAt h2 x (HandSPX.excO C t0) C none := ⟨x2, rfl, rfl, trivial⟩
  have hI : Looks (model P w) h2 (isInstance (.ref x) (.type "ValueError")) true := I2.type.andThen (looks_subIn K2 subV)
  have sup' := sup
  unfold ks_superIn at sup'
  rw [hcl] at sup'
  refine kxs_getMethod kxs_ValueError e2 (looks_opaque K2 op) (l₀ := .ref C :: bm) (fun A Q E s k q => wpAny_bind ((looks_clsIn K2 hcl) A _ E s k (wpAny_pure q))) rfl K2 sup' hI (ks_ne K2 I2 hcl) (by decide) ?_
  have hk3 : ∀ b o, h2.get? b = some o → (h2.push (kxs_mw "ValueError.__init__" x)).get? b = some o := fun b o e => Heap.get?_push_of_some _ e
  have u3 : (h2.push (kxs_mw "ValueError.__init__" x)).get? h2.objs.size = some (kxs_mw "ValueError.__init__" x) := Heap.get?_push_at rfl rfl
  have x3 := hk3 _ _ x2
  refine kxs_callWith (i := "ValueError.__init__") (x := x) rfl ?_
  refine evalArgs_plain ?_
  show wpAny _ _ (spliced (backTo p4 (starEach [.Constant (.str m) j p3] _))) _ _ _
  refine spliced_lits [.Constant (.str m) j p3] [.str m] _ _ rfl fun us tk hus => ?_
  have hlen : us.length ≤ sizeLine := by
    rw [dataAre_len hus, sizeLine_eq]
    show 1 ≤ 16777216
    decide
  refine ⟨u3, ?_⟩
  refine call_mw (hk3 _ _ (hk2 _ _ (K1 _ _ hCK))) x3 u3 hlen fun h4 t1 hk4 x4 => ?_
  have keep4 : ∀ b o, b ≠ x → s.heap.get? b = some o → h4.get? b = some o := fun b o hb e => hk4 b o hb (hk3 _ _ (hk2 _ _ (hk₁ _ _ e)))
  have xC : x ≠ C := ks_ne K2 I2 hcl
  have K4 : K.In h4 := fun b o e => hk4 b o (fun z => by rw [z, hKx] at e; cases e) (hk3 _ _ (K2 b o e))
  have L4 : h4.Ns s.heap.objs.size (fun y => ([(("self" : Str), Value.ref x), (f, v)].reverse).lookup y) := by
    obtain ⟨oL, es, ep, hL, r⟩ := hns
    exact ⟨oL, es, ep, hk4 _ _ (fun z => absurd xs (by rw [← z]; exact Nat.lt_irrefl _)) (hk3 _ _ (hk2 _ _ hL)), r⟩
  refine ks_wpAt_execs_cons (ks_wpAt_Assign_Attr (wpAt_of_wpAny ?_))
  refine wpAny_Name (wpAny_loadName_local (env := ksEnv qual scope s.heap.objs.size fI (.ref cda) cc) hk hkf L4 vf ?_) hfd
  refine wpAny_Name (wpAny_loadName_local (env := ksEnv qual scope s.heap.objs.size fI (.ref cda) cc) hk hka L4 vself ?_) (by decide)
  refine PySem.W.set_plain K4 (ox := { cls := .ref C, dict := none, data := .fields #[.ref t1, .none, .none, .none, .bool false, .none] }) (od := none) ⟨x4, rfl, rfl, trivial⟩ T.sa ?_
  refine HandSPX.exc_osa K4 x4 hcl (show HandSPX.refsVE (.ref C :: bm) = true from hbm) rfl hno (fun h' tk' dx k5' dn dne hx5 hn => ?_)
  refine wpAt_of_wpAny (wpAny_execs_nil ?_)
  have hsz : s.heap.objs.size ≤ h4.objs.size := by
    obtain ⟨oL, es, ep, hL, r⟩ := L4
    exact Nat.le_of_lt (Heap.lt_size hL)
  exact hR h' _ dx t1 (fun b o hb e => k5' b o hb (keep4 b o hb e)) (Nat.le_trans hsz dn) dne hx5 hn
/-- what the written part says of such a class -/
structure SupC (P : Program) (K : Frag) (C : Addr) (f : Str) : Prop where
  T : OexC K C
  no : findIn K (.ref C) f = some none
  sup : ks_superIn K C C "__init__" = some (some (.builtin "ValueError.__init__"))
  subV : subIn K (.ref C) (.type "ValueError") = some true
  mro : mroIn K C (.ref C) = some true
  op : nsIn K cStatics "thirdparty.any" = some none
  top : (P.main.scope.names.lookup ("super" : Str)).isSome = false
  ini : ∃ (fI cda cc : Addr) (name qual m : Str) (params : Arguments) (scope : Scope) (j : Nat) (p0 p1 p2 p3 p4 p5 p6 p7 p8 p9 : Pos) (dV kV doc pm ct oc ccl cl : Value) (an od cdd cld : Option Addr) (osl ccs csl : Array (Option Value)) (vs : Array Value) (file : Str) (tf : Tok) (ar : Arg),
    findIn K (.ref C) "__init__" = some (some (.ref fI)) ∧ typeIn K (.ref fI) = some (.type "function") ∧
    K.lookup fI = some ⟨oc, od, .func (ksFn name qual params (supBody m f j p0 p1 p2 p3 p4 p5 p6 p7 p8 p9) scope dV kV doc pm an (.ref cda) ct cc), osl⟩ ∧ codeIn K (.ref cda) qual = true ∧
    K.lookup cda = some ⟨ccl, cdd, .fields vs, ccs⟩ ∧ vs[2]? = some (.str file tf) ∧ ((P.main.file : Str) == file) = true ∧ K.lookup cc = some ⟨cl, cld, .cell (some (.ref C)), csl⟩ ∧
    (params.posonlyargs ++ params.args).head? = some ar ∧ ar.arg = "self" ∧ (∀ (s : Shared) (u v : Value), BindsTo s (ksFn name qual params (supBody m f j p0 p1 p2 p3 p4 p5 p6 p7 p8 p9) scope dV kV doc pm an (.ref cda) ct cc) ⟨[u, v], []⟩ [("self", u), (f, v)]) ∧
    scope.names.lookup ("super" : Str) = some .globalImplicit ∧ scope.names.lookup ("__class__" : Str) = some .free ∧ scope.names.lookup ("self" : Str) = some .local ∧ scope.names.lookup f = some .local ∧ (("self" : Str) == f) = false ∧
    (∀ x ∈ scope.names, x.2 ≠ .cell) ∧ scope.isCoroutine = false ∧ scope.isGenerator = false ∧ scope.kind = .function ∧ (f == ("__debug__" : Str)) = false ∧ (p2.endLine == p4.line) = true
/-- C(e): its dict has e at f -/
def tMkS (C : Addr) (f : Str) (ta : TA) : L2.St → Hp → XK → Prop := fun σ H Q => ta σ H fun vs H1 => ∃ y, vs = [y] ∧ ∀ dx, H1 dx = none → Q (.ref C) (some dx) (upd H1 dx (.xd [(f, y)]))
section
variable {X : Cx} {e : PySem.Expr} {ta : TA} {p pos : Pos}
theorem pmk_sup {x f : Str} {C : Addr} (S : SupC X.prog X.K C f) (hr : Room 2 X.A) (hs : X.mg "super" = none) (hg : Gl X x) (hm : X.mg x = some (.ref C)) (ha : PA X [e] ta)
    (hdb : (x == ("__debug__" : Str)) = false := by decide) (he : starEach [e] X.env = (false, eval e X.env) :: starEach [] X.env := by rfl) (hpl : (backTo pos (starEach [] X.env)).any (·.1) = false := by rfl) :
    PMk X (.Call (.Name x p) [e] [] pos) (tMkS C f ta) := by
  intro pins s σ H Q I h
  have T := S.T
  obtain ⟨nm, q, N, bs, bm, sn, sub, ab, col, dd, k0, k1, k2, k3, k5, hC, hbm⟩ := T.cls
  obtain ⟨fI, cda, cc, name, qual, m, params, scope, j, p0, p1, p2, p3, p4, p5, p6, p7, p8, p9, dV, kV, doc, pm, ct, oc, ccl, cl, an, od, cdd, cld, osl, ccs, csl, vs0, file, tf, ar, g1, g2, g3, g4, g5, g6, g7, g8, g9, g10, g11, g12, g13, g14, g15, g16, g17, g18, g19, g20, g21, g22⟩ := S.ini
  refine wpAny_Call_Name_kw (ld_glob I hg hm ?_ hdb)
  refine callWith_K (h₀ := X.base) I.ok.mod.kin T.kC (thn (ha.run pos pins s σ H _ I h) fun us s1 ⟨vs, H1, I1, r1, y, ev, q1⟩ => ⟨I1.kIn, ?_⟩) he hpl
  subst ev
  cases r1 with
  | @cons _ u _ ur ru rn =>
  cases rn
  show wpAny _ _ (call (.ref C) [u]) _ _ _
  obtain ⟨hp, gs, dr, tk, os⟩ := s1
  have hsz : hp.objs.size ≤ hp.objs.size + 1 := Nat.le_succ _
  have hn : H1 (hp.objs.size + 1) = none := I1.hok.fresh hsz
  have kk : ∀ b o, hp.get? b = some o → ((hp.push (kdv_tup [u])).push (HandSPX.excO C hp.objs.size)).get? b = some o := fun b o e => Heap.get?_push_of_some _ (Heap.get?_push_of_some _ e)
  have hget : ((hp.push (kdv_tup [u])).push (HandSPX.excO C hp.objs.size)).get? (hp.objs.size + 1) = some (HandSPX.excO C hp.objs.size) := by heap_get
  have I2 : Inv X pins σ (upd H1 (hp.objs.size + 1) (exo (hp.objs.size + 1) C none)) ⟨(hp.push (kdv_tup [u])).push (HandSPX.excO C hp.objs.size), gs, dr, tk, os⟩ :=
    I1.laid (t' := tk) (a := hp.objs.size + 1) (o := exo (hp.objs.size + 1) C none) (h' := (hp.push (kdv_tup [u])).push (HandSPX.excO C hp.objs.size)) kk hsz (exo_ok hget)
  generalize ea : hp.objs.size + 1 = a at *
  have e0 := I2.env0
  obtain ⟨mb, hb1, hb2⟩ := e0.mod.blt
  have bk : ∀ b o, X.base.get? b = some o → ((hp.push (kdv_tup [u])).push (HandSPX.excO C hp.objs.size)).get? b = some o := fun b o e => (e0.bs b o e).1
  have hKx : X.K.lookup a = none := by
    cases z : X.K.lookup a with
    | none => rfl
    | some o => exact absurd (Heap.lt_size (I1.kIn _ _ z)) (by rw [← ea]; show ¬ (hp.objs.size + 1 < hp.objs.size); omega)
  refine wpAny_call (HandSPX.call_own PySem.F.excBase_ValueError (fun Y => HandSPX.refsVE_contains Y bm hbm) (I1.kIn _ _ hC) (looks_findIn I1.kIn g1) (fun self => bind_fn I1.kIn self g2) (by rw [sizeLine_eq]; show 1 ≤ 16777216; decide) ?_)
  rw [ea]
  refine run_sup (s := ⟨(hp.push (kdv_tup [u])).push (HandSPX.excO C hp.objs.size), gs, dr, tk, os⟩) I2.kIn (e0.mod.nolimit.keeps bk) (e0.mod.glob.keeps bk) (hb1.keeps bk) ((hb2 _ (by decide +kernel)).trans (by first | boot_by_name | rfl | kernel_rfl)) hs (hr.make C [u] []).depth T S.no g3 g4 g5 g6 g7 g8 g9 g10 (g11 _ _ _) g12 g13 g14 g15 g16 g17 g18 g19 g20 g21 g22 S.sup S.subV S.mro S.op S.top hget hKx fun h' tk' dx t1 k dn dne hx5 hn5 => ⟨rfl, ?_⟩
  have asz : hp.objs.size ≤ a := by omega
  have eA : (upd H1 a (exo a C none)) a = some (exo a C none) := upd_same
  have hnd : (upd H1 a (exo a C none)) dx = none := I2.hok.fresh dn
  have hnd1 : H1 dx = none := by rw [upd_ne dne] at hnd; exact hnd
  have nd : ∀ {b : Addr} {o : Obj}, ((hp.push (kdv_tup [u])).push (HandSPX.excO C hp.objs.size)).get? b = some o → b ≠ dx := fun {b o} q => Nat.ne_of_lt (Nat.lt_of_lt_of_le (Heap.lt_size q) dn)
  have na : ∀ {b : Addr}, (upd H1 a (exo a C none)) b = none → b ≠ a := fun {b} n z => by
    rw [z, eA] at n
    cases n
  have Un1 : Un (frs X.stack) [] (upd H1 a (exo a C none)) (upd (upd (upd H1 a (exo a C none)) dx (exd dx [(f, y)])) a (exo a C (some dx))) ((hp.push (kdv_tup [u])).push (HandSPX.excO C hp.objs.size)) h' := {
    keep := fun b o q n _ _ => k b o (na n) q
    slot := fun b o q n _ _ => ⟨o.slots, k b o (na n) q⟩
    free := fun b o q n _ => by rw [upd_ne (na n), upd_ne (nd q)]; exact n
    there := fun b o q _ => by
      by_cases hb : b = a
      · exact ⟨_, by rw [hb]; exact hx5⟩
      · exact ⟨o, k b o hb q⟩
    tups := fun b xs q => by rw [upd_ne (at_ne eA q exo_tup), upd_ne (ne_of_none q hnd)]; exact q
    frzs := fun b o v q => by rw [upd_ne (at_ne eA q exo_frz), upd_ne (ne_of_none q hnd)]; exact q
    tbls := fun b ps q => ⟨#[], by rw [upd_ne (at_ne eA q exo_tbl), upd_ne (ne_of_none q hnd), q]; simp⟩ }
  have hok : HOk X.prog X.w (upd (upd (upd H1 a (exo a C none)) dx (exd dx [(f, y)])) a (exo a C (some dx))) h' := fun b o q => by
    by_cases hb : b = a
    · subst hb
      rw [upd_same] at q
      cases q
      exact exo_ok hx5
    · rw [upd_ne hb] at q
      by_cases hd : b = dx
      · subst hd
        rw [upd_same] at q
        cases q
        exact exd_ok hn5 (relO_put (fs := []) ru fun g => True.intro)
      · rw [upd_ne hd] at q
        exact (I2.hok b o q).stay (fun c v hc z => k c v (by
            rcases hc with hc | hc
            · rw [hc]
              exact hb
            · exact at_ne eA hc exo_own) z)
          (fun c hc => by rw [upd_ne (at_ne eA hc exo_own), upd_ne (ne_of_none hc hnd)]; exact hc) (fun c xs hc => by rw [upd_ne (at_ne eA hc exo_tup), upd_ne (ne_of_none hc hnd)]; exact hc)
  have eq1 : upd (del (upd (upd (upd H1 a (exo a C none)) dx (exd dx [(f, y)])) a (exo a C (some dx))) a) dx (.xd [(f, y)]) = upd H1 dx (.xd [(f, y)]) := by
    funext b
    by_cases hb : b = dx
    · rw [hb, upd_same, upd_same]
    · rw [upd_ne hb, upd_ne hb]
      by_cases hb2 : b = a
      · rw [hb2, del_same, hn]
      · rw [del_ne hb2, upd_ne hb2, upd_ne hb, upd_ne hb2]
  exact mk_end (raises_own T.exC T.tyC) I1 asz kk Un1 hok rfl I1.bare upd_same (by rw [upd_ne dne, upd_same]) hnd1 (by rw [eq1]; exact q1 dx hnd1)
end
end MR
set_option maxRecDepth 100000
set_option maxHeartbeats 4000000
/-! MirSue: raise C(e); the attribute of an error; what the head tells of an __init__ that says super(). -/
namespace MR
open PySem PySem.Spec PyProof.Rows L2
section
variable {X : Cx} {G : Gx} {W : WX} {pin : List Nat}
def sRaiseE (c : String) (f : Str) (A : E) : S := fun ρ => match A ρ with
  | .ok d ρ1 => .ex c [(f, d)] ρ1
  | .ex c' p ρ1 => .ex c' p ρ1
  | .no => .no
/-- a new dict of an error, frozen -/
theorem Fr.newF1 {H : Hp} {F : AP1} {p : Addr} {o : HO} (h : H p = none) : Fr H F (upd H p o) (fun a => F a ∨ a = p) := Fr.newF h
theorem s_raiseE (o : Ok X G W) {cs : List String} (k : ErC G cs) {c : String} {x f : Str} {e : PySem.Expr} {A : E} {p pos pos' : Pos} (S : SupC X.prog G.K (G.cls c) f) (hr : Room 2 X.A) (hs : X.mg "super" = none) (hx : X.mg x = some (.ref (G.cls c))) (he : PE X e (teOf G W A))
    (hg : Gl X x := by rfl) (hdb : (x == ("__debug__" : Str)) = false := by decide) (hst : starEach [e] X.env = (false, eval e X.env) :: starEach [] X.env := by rfl) (hpl : (backTo pos (starEach [] X.env)).any (·.1) = false := by rfl) :
    PS X (.Raise (some (.Call (.Name x p) [e] [] pos)) none pos') (tsOf G W pin (sRaiseE c f A)) := by
  rw [← o.K] at S
  refine PS.imp (ps_raise o.calm o.tk (pmk_sup S hr hs hg hx (pa_cons he pa_nil hst) hdb hst hpl)) ?_
  rintro D σ H ⟨ρ, F, fp, en, h⟩
  show teOf G W A σ H fun y H1 => _
  refine ⟨ρ, F, fp, en, ?_⟩
  unfold sRaiseE at h
  cases hA : A ρ with
  | ok d ρ1 =>
    rw [hA] at h
    intro y H1 F1 fp1 s1 e1 r1
    show (fun vs H1 => ∃ y, vs = [y] ∧ ∀ dx, H1 dx = none → W (.ref (G.cls c)) (some dx) σ (upd H1 dx (.xd [(f, y)]))) [y] H1
    refine ⟨y, rfl, fun dx hn => ?_⟩
    have fr : Fr H1 F1 (upd H1 dx (.xd [(f, y)])) (fun a => F1 a ∨ a = dx) := Fr.newF hn
    have := h (some dx) σ (upd H1 dx (.xd [(f, y)])) (fun a => F1 a ∨ a = dx) fp1 (s1.trans (fr.stp _)) (e1.fr fr) (Pn.refl _ _) (Or.inr ⟨dx, [(f, y)], rfl, Or.inr rfl, upd_same, .cons (r1.mono fr.stq) .nil⟩)
    rw [k.ecl] at this
    exact this
  | ex c' p' ρ1 =>
    rw [hA] at h
    exact fun d H' F' fp' s e' r => h d σ H' F' fp' s e' (Pn.refl _ _) r
  | no => rw [hA] at h; exact h
/-! ### err.f -/
def iFldX (cs : List String) (A : EV) (f : Str) : E := fun ρ => (A ρ).bind fun a ρ1 => match rs a ρ1 with
  | some (.err c fs) => if c ∈ cs then ofO (fs.lookup f) ρ1 else .no
  | _ => .no
def tFldX (K : Frag) (te : TE) (f : Str) : TE := fun σ H Q => te σ H fun x H1 => ∃ (p C dd : Addr) (fs : List (Str × V)) (v : V), x = .ref p ∧ ExcC K C ∧ PySem.W.findIn K (.ref C) f = some none ∧ H1 p = some (ErrO p (.ref C) (some dd)) ∧ H1 dd = some (.xd fs) ∧ fs.lookup f = some v ∧ Q v H1
theorem pe_fldX {e : PySem.Expr} {te : TE} {f : Str} {pos : Pos} (he : PE X e te) (hb : attributeBase e f X.env (eval e X.env) = eval e X.env) : PE X (.Attribute e f pos) (tFldX X.K te f) := by
  refine ⟨fun pins s σ H Q I h => ?_⟩
  refine attr_of hb (thn (he.run pins s σ H _ I h) fun u s1 hh => ?_)
  obtain ⟨x, H1, I1, rx, p, C, dd, fs, v, ex, T, hno, hp, hd, l, q⟩ := hh
  subst ex
  obtain rfl : u = Value.ref p := rx
  obtain ⟨⟨oe, vs, hget, hz, hdt⟩, _, _⟩ := I1.hok p _ hp
  have hxd : ObjOk X.prog X.w H1 s1.heap dd (.xd fs) := I1.hok dd _ hd
  obtain ⟨mA, hns, hr⟩ := hxd
  obtain ⟨od, ho, hl⟩ := lookIn_ns hns
  obtain ⟨u, hu, ru⟩ := RelO.some_of (v := v) (o := mA f) (by rw [← l]; exact hr f)
  have J : PySem.W.InstAt s1.heap p oe C (some od) := ⟨hget, hz.1, by unfold PySem.W.notCls; rw [hdt] <;> rfl, by rw [hz.2]; exact ho⟩
  exact HandSPX.exc_get I1.kIn J T.hg T.hk T.hs (PySem.W.findObj_own T.hd hno rfl (by rw [hl, hu])) (handed_of ru) ⟨v, H1, I1.tok _, ru, q⟩
theorem m_fldX (o : Ok X G W) {cs : List String} (k : ErC G cs) {e : PySem.Expr} {f : Str} {A : EV} {pos : Pos} (hn : ∀ c ∈ cs, NoAttr G.K (G.cls c) f) (he : PE X e (tvOf G W A)) (hb : attributeBase e f X.env (eval e X.env) = eval e X.env := by rfl) :
    PE X (.Attribute e f pos) (teOf G W (iFldX cs A f)) :=
  PE.imp (pe_fldX he hb) fun σ H Q ⟨ρ, F, fp, en, h⟩ => by
    refine oc_bind en h fun x a ρ1 H1 F1 fp1 s1 e1 r1 h1 => ?_
    split at h1
    · rename_i c fs hd
      split at h1
      · rename_i hc
        cases hl : fs.lookup f with
        | none => rw [hl] at h1; exact h1.elim
        | some d =>
          rw [hl] at h1
          have b := RAv.bz e1 r1 hd
          have hz : Fz G F1 H1 x (.err c fs) := by
            cases b with
            | fz h => exact h
          cases hz with
          | err0 _ _ => cases hl
          | @errD p dx _ vs _ f1 hp f2 hdx fa =>
            obtain ⟨v, l, r⟩ := fa.lookup hl
            rw [k.ecl] at hp
            exact ⟨p, G.cls c, dx, vs, v, rfl, by rw [o.K]; exact k.xc c hc, by rw [o.K]; exact hn c hc, hp, hdx, l, oc_ok h1 e1 (Fr.refl _ _) r⟩
      · exact h1.elim
    · exact h1.elim
end
/-! ### the head's word -/
theorem oexB_ok {K : Frag} {C : Addr} (h : oexB K C = true) : OexC K C := by
  obtain ⟨h1, h2⟩ := He.ba h
  obtain ⟨h3, h4⟩ := He.ba h2
  obtain ⟨h5, h6⟩ := He.ba h4
  obtain ⟨h7, h8⟩ := He.ba h6
  refine ⟨?_, of_decide_eq_true h3, of_decide_eq_true h5, of_decide_eq_true h7, h8⟩
  split at h1
  · rename_i T dd cd sl ho
    split at h1
    · rename_i C' bm k0 k1 k2 k3 n k5 hm hs
      simp only [Bool.and_eq_true, decide_eq_true_eq, Bool.not_eq_true'] at h1
      obtain ⟨rfl, rfl, rfl, hdel, hhd, hv⟩ := h1
      obtain ⟨nm, bs, mro, ns, qn, hd, sn, sub, ab, col, del⟩ := cd
      dsimp only at hm hdel hhd
      subst hm hdel hhd
      have hsl : sl = #[k0, k1, k2, k3, some (.builtin "ValueError.__new__"), k5] := by
        obtain ⟨l⟩ := sl
        simp only at hs
        rw [hs]
      subst hsl
      exact ⟨nm, qn, ns, bs, bm, sn, sub, ab, col, dd, k0, k1, k2, k3, k5, ho, hv⟩
    · cases h1
  · cases h1
theorem supC_of {P : Program} {K : Frag} {d : DefM} {c f m : Str} {j : Nat} {p0 p1 p2 p3 p4 p5 p6 p7 p8 p9 : Pos} {ar : Arg} (h : supB K P.main.file c f = true) (had : d.adr K = He.ma K (He.ga K c) "__init__") (hclo : d.clo = [("__class__" : Str)])
    (F : ∃ (oc : Value) (od : Option Addr) (dV kV doc pm : Value) (an : Option Addr) (cdv ct : Value) (cl : List (Str × Addr)) (osl : Array (Option Value)),
      K.lookup (d.adr K) = some ⟨oc, od, .func (PySem.W.fnX d.name d.qual (defArgs d.st) (defBody d.st) (defScope d.st) cl dV kV doc pm an cdv ct), osl⟩ ∧ PySem.W.codeIn K cdv d.qual = true ∧ cl.map (·.1) = d.clo)
    (htop : (P.main.scope.names.lookup ("super" : Str)).isSome = false) (hbody : defBody d.st = supBody m f j p0 p1 p2 p3 p4 p5 p6 p7 p8 p9) (g9 : ((defArgs d.st).posonlyargs ++ (defArgs d.st).args).head? = some ar) (g10 : ar.arg = "self")
    (g11 : ∀ (dV kV doc pm ct : Value) (an : Option Addr) (cda cc : Addr) (s : Shared) (u v : Value), BindsTo s (PySem.W.fnX d.name d.qual (defArgs d.st) (defBody d.st) (defScope d.st) [("__class__", cc)] dV kV doc pm an (.ref cda) ct) ⟨[u, v], []⟩ [("self", u), (f, v)])
    (g12 : (defScope d.st).names.lookup ("super" : Str) = some .globalImplicit) (g13 : (defScope d.st).names.lookup ("__class__" : Str) = some .free) (g14 : (defScope d.st).names.lookup ("self" : Str) = some .local) (g15 : (defScope d.st).names.lookup f = some .local) (g16 : (("self" : Str) == f) = false)
    (g17 : ∀ x ∈ (defScope d.st).names, x.2 ≠ .cell) (g18 : (defScope d.st).isCoroutine = false) (g19 : (defScope d.st).isGenerator = false) (g20 : (defScope d.st).kind = .function) (g21 : (f == ("__debug__" : Str)) = false) (g22 : (p2.endLine == p4.line) = true) : SupC P K (He.ga K c) f := by
  obtain ⟨h1, h⟩ := He.ba h
  obtain ⟨h2, h⟩ := He.ba h
  obtain ⟨h3, h⟩ := He.ba h
  obtain ⟨h4, h⟩ := He.ba h
  obtain ⟨h5, h⟩ := He.ba h
  obtain ⟨h6, h⟩ := He.ba h
  obtain ⟨h7, h⟩ := He.ba h
  obtain ⟨h8, h⟩ := He.ba h
  obtain ⟨oc, od, dV, kV, doc, pm, an, cdv, ct, cl, osl, lk, hcd, hcl⟩ := F
  refine ⟨oexB_ok h1, of_decide_eq_true h2, of_decide_eq_true h3, of_decide_eq_true h4, of_decide_eq_true h5, of_decide_eq_true h6, htop, ?_⟩
  rw [← had] at h
  rw [lk] at h
  dsimp only at h
  rw [hclo] at hcl
  match cl, hcl with
  | [(n, cc)], hcl =>
    have hn : n = "__class__" := by simpa using hcl
    subst hn
    obtain ⟨cda, ec⟩ := He.codeIn_ref hcd
    subst ec
    dsimp only at h
    obtain ⟨ha, hb⟩ := He.ba h
    split at ha
    · rename_i e1
      split at ha
      · rename_i e2
        split at hb
        · rename_i e3
          have hD := of_decide_eq_true hb
          subst hD
          refine ⟨_, cda, cc, d.name, d.qual, m, defArgs d.st, defScope d.st, j, p0, p1, p2, p3, p4, p5, p6, p7, p8, p9, dV, kV, doc, pm, ct, oc, _, _, an, od, _, _, osl, _, _, _, _, _, ar, of_decide_eq_true h7, of_decide_eq_true h8, ?_, hcd, e1, e2, ha, e3, g9, g10, ?_, g12, g13, g14, g15, g16, g17, g18, g19, g20, g21, g22⟩
          · rw [← had, ← hbody]
            exact lk
          · intro s u v
            rw [← hbody]
            exact g11 _ _ _ _ _ _ _ _ s u v
        · cases hb
      · cases ha
    · cases ha
end MR
set_option maxRecDepth 100000
set_option maxHeartbeats 0
namespace MR
open PySem L2 PyProof.Rows
namespace K41
def b__law_is_number : S := (sRet (iAnd (iCallJ (fIsi KCS) (jCons (iVar 0) (jCons (iC (.ty "int")) jNil))) (iNot (iCallJ (fIsi KCS) (jCons (iVar 0) (jCons (iC (.ty "bool")) jNil))))))
def fn__law_is_number : Fn := fnOf 1 [false] b__law_is_number
def b__law_mixed : S := (sSeq (sDrTurn 0 (iBin oPlus (iDrTurn 0) (iC (.int 1)))) (sSeq (sPar2 1 false (iCallJ fInt (jCons (iDrTurn 0) jNil)) 2 false (iC (.int 0))) (sSeq (sFor (iSeq (iLst (iCons (iC (.int 2147483629)) (iCons (iC (.int 2147483587)) (iCons (iC (.int 2147483579)) iNil))))) (tgN 3) (sSeq (sSet 4 (iBin oMod (iBin oPlus (iBin oMul (iVar 1) (iC (.int 69621))) (iBin oDiv (iVar 3) (iC (.int 7)))) (iVar 3))) (sSeq (sFor (iSeq (iDrCells 0)) (tgN 5) (sSet 4 (iBin oMod (iBin oPlus (iBin oMul (iVar 4) (iC (.int 48271))) (iCallJ fInt (jCons (iVar 5) jNil))) (iVar 3)))) (sSet 2 (iBin oPlus (iBin oMul (iVar 2) (iC (.int 2147483647))) (iBin oMod (iBin oPow (iVar 4) (iC (.int 5))) (iVar 3))))))) (sRet (iVar 2)))))
abbrev fn__law_mixed : Fn := mixF
def b__law_take : S := (sSeq (sIf (iCmp oEq (iDrRest 0) (iC (.int 0))) (sDrRest 0 (iIf (iDrLg 0) (iDrPop 0) (iCallF [true] fn__law_mixed (jSlot 0 jNil)))) sNx) (sSeq (sSet 2 (iBin oMod (iCallJ fInt (jCons (iDrRest 0) jNil)) (iVar 1))) (sSeq (sDrRest 0 (iBin oDiv (iCallJ fInt (jCons (iDrRest 0) jNil)) (iVar 1))) (sRet (iVar 2)))))
abbrev fn__law_take : Fn := takeF
def b__law_pick : S := (sRet (iBin oIt (iVar 1) (iCallF [true, false] fn__law_take (jSlot 0 (jCons (iCallJ fLen (jCons (iVar 1) jNil)) jNil)))))
def fn__law_pick : Fn := fnOf 2 [true, false] b__law_pick
def b__law_odd : S := (sSeq (sSet 1 (iLst (iCons (iC .non) (iCons (iC (.bl true)) (iCons (iC (.bl false)) (iCons (iC (.int 0)) (iCons (iC (.int 1)) (iCons (iNeg (iC (.int 1))) (iCons (iC (.int 7)) (iCons (iC (.int 61)) (iCons (iBin oPow (iC (.int 10)) (iC (.int 40))) (iCons (iC (.str "")) (iCons (iC (.str "a")) (iCons (iC (.str "settle")) (iCons (iTup iNil) (iCons (iLst iNil) (iCons (fun ρ => .ok (.dic []) ρ) (iCons (iTup (iCons (iC (.int 0)) (iCons (iC (.int 0)) iNil))) (iCons (iTup (iCons (iC (.int 1)) (iCons (iC (.int 0)) (iCons (iC (.int 0)) iNil)))) (iCons (iLst (iCons (iC (.int 1)) (iCons (iC (.int 0)) (iCons (iC (.int 0)) iNil)))) iNil)))))))))))))))))))) (sSeq (sSet 1 (iBin oAdd4 (iVar 1) (iLst (iCons (iTup (iCons (iC (.int 1)) (iCons (iC (.int 1)) (iCons (iC (.int 0)) iNil)))) (iCons (iTup (iCons (iC (.int 0)) (iCons (iC (.int 1)) (iCons (iC (.int 1)) iNil)))) (iCons (iTup (iCons (iC (.int 1)) (iCons (iC (.int 1)) (iCons (iC (.int 1)) iNil)))) (iCons (iTup (iCons (iC (.bl true)) (iCons (iC (.int 0)) (iCons (iC (.int 0)) iNil)))) (iCons (iTup (iCons (iC (.int 0)) (iCons (iNeg (iC (.int 1))) (iCons (iC (.int 2)) iNil)))) (iCons (iTup (iCons (iTup (iCons (iC (.str "settle")) iNil)) (iCons (iC (.int 0)) iNil))) iNil))))))))) (sRet (iCallF [true, false] fn__law_pick (jSlot 0 (jCons (iBin oAdd4 (iVar 1) (iLst (iCons (iTup (iCons (iC (.int 0)) (iCons (iC (.int 0)) (iCons (iC (.int 0)) (iCons (iC (.int 0)) iNil))))) iNil))) jNil))))))
def fn__law_odd : Fn := fnOf 2 [true] b__law_odd
def b__law_place : S := (sSeq (sIf (iOrT (iCmp oEq (iVar 1) (iC (.int 0))) (iCmp oEq (iVar 1) (iVar 0))) (sRet (iIf (iCmp oEq (iVar 1) (iC (.int 0))) (iC (.int 0)) (iC (.int 13)))) sNx) (sRet (iBin oIt (iLc (iOn r2Of (iCons (iC (.int 1)) (iCons (iC (.int 13)) iNil))) (tgN 2) (iChainT oLe oLt (iBin oMul4 (iBin oSub (iVar 2) (iC (.int 1))) (iVar 0)) (iBin oMul4 (iC (.int 12)) (iVar 1)) (iBin oMul4 (iVar 2) (iVar 0))) (iVar 2) [2]) (iC (.int 0)))))
def fn__law_place : Fn := fnOf 3 [false, false] b__law_place
def b__law_word : S := (sSeq (sSet 2 (iLst (iCons (iTup (iCons (iC (.str "number")) (iCons (iCallJ (fIsX ECS) (jCons (iVar 1) (jCons (iC (.cl "BadNumber")) jNil))) iNil))) (iCons (iTup (iCons (iC (.str "ones")) (iCons (iCallJ (fIsX ECS) (jCons (iVar 1) (jCons (iC (.cl "BadOnes")) jNil))) iNil))) iNil)))) (sSeq (sSet 2 (iBin oAdd4 (iVar 2) (iLst (iCons (iTup (iCons (iC (.str "lot")) (iCons (iCallJ (fIsX ECS) (jCons (iVar 1) (jCons (iC (.cl "BadLot")) jNil))) iNil))) (iCons (iTup (iCons (iC (.str "place")) (iCons (iCallJ (fIsX ECS) (jCons (iVar 1) (jCons (iC (.cl "BadPlace")) jNil))) iNil))) iNil))))) (sSeq (sSet 3 (iLc (iSeq (iVar 2)) (tgT ((tgN 4) :: ((tgN 5) :: []))) (iTest (iVar 5)) (iVar 4) [4, 5])) (sRet (iIf (iCmp oIs (iVar 1) (iC .non)) (iC (.str "none")) (iIf (iCmp oEq (iCallJ fLen (jCons (iVar 3) jNil)) (iC (.int 1))) (iBin oIt (iVar 3) (iC (.int 0))) (iC (.str "other"))))))))
def fw__law_word : IV → Option IV := fwOf 6 b__law_word some
def b_is_number : S := (sRet (iAnd (iCallJ (fIsi KCS) (jCons (iVar 0) (jCons (iC (.ty "int")) jNil))) (iNot (iCallJ (fIsi KCS) (jCons (iVar 0) (jCons (iC (.ty "bool")) jNil))))))
def fn_is_number : Fn := fnOf 1 [false] b_is_number
def b_need_number : S := (sIf (iOrT (iNotT (iTest (iCallF [false] fn_is_number (jCons (iVar 0) jNil)))) (iNotT (iChainT oLe oLe (iC (.int 1)) (iVar 0) (iC cv_MOST_HANDS)))) (sRaise "BadNumber") sNx)
def fn_need_number : Fn := fnOf 1 [false] b_need_number
def b_place_of : S := (sSeq (sDrop (iCallF [false] fn_need_number (jCons (iVar 0) jNil))) (sSeq (sIf (iOrT (iNotT (iTest (iCallF [false] fn_is_number (jCons (iVar 1) jNil)))) (iNotT (iChainT oLe oLe (iC (.int 0)) (iVar 1) (iVar 0)))) (sRaise "BadOnes") sNx) (sSeq (sIf (iCmp (oIn false) (iVar 1) (iTup (iCons (iC (.int 0)) (iCons (iVar 0) iNil)))) (sRet (iIf (iCmp oEq (iVar 1) (iC (.int 0))) (iC (.int 0)) (iBin oAdd4 (iC cv_CELLS) (iC (.int 1))))) sNx) (sRet (iBin oAdd4 (iBin oDiv (iBin oMul4 (iC cv_CELLS) (iVar 1)) (iVar 0)) (iC (.int 1)))))))
def fn_place_of : Fn := fnOf 2 [false, false] b_place_of
def b_law : S := (sSeq (sSetO 1 (iBeg (iVar 0))) (sSeq (sSet 2 (iBin oAdd4 (iLst (iCons (iC (.int 1)) (iCons (iC (.int 2)) (iCons (iC (.int 12)) (iCons (iC (.int 60)) iNil))))) (iLc (iOn r1Of (iCons (iBin oAdd4 (iC (.int 4)) (iCallJ (fMx false) (jCons (iCallJ fLen (jCons (iVar 0) jNil)) (jCons (iC (.int 10)) jNil)))) iNil)) (tgN 3) iYes (iBin oAdd4 (iC (.int 1)) (iCallF [true, false] fn__law_take (jSlot 1 (jCons (iC (.int 60)) jNil)))) [3]))) (sSeq (sFor (iSeq (iVar 2)) (tgN 4) (sSeq (sFor (iOn r1Of (iCons (iBin oAdd4 (iVar 4) (iC (.int 1))) iNil)) (tgN 5) (sSeq (sSet 6 (iCallF [false, false] fn__law_place (jCons (iVar 4) (jCons (iVar 5) jNil)))) (sIf (iCmp oNe (iCallJ fRepr (jCons (iLst (iCons (iCallF [false, false] fn_place_of (jCons (iVar 4) (jCons (iVar 5) jNil))) (iCons (iCallK 2 fn_place_of [1, 0] iNil (iCons (iVar 5) (iCons (iVar 4) iNil))) iNil))) jNil)) (iCallJ fRepr (jCons (iLst (iCons (iVar 6) (iCons (iVar 6) iNil))) jNil))) (sRet (iC (.bl false))) sNx))) (sSeq (sSet 7 (iCallF [true, false] fn__law_pick (jSlot 1 (jCons (iLst (iCons (iC (.int 0)) (iCons (iC (.int 61)) (iCons (iNeg (iC (.int 1))) (iCons (iCallF [true] fn__law_odd (jSlot 1 jNil)) iNil))))) jNil)))) (sSeq (sSet 8 (iAnd (iCallF [false] fn__law_is_number (jCons (iVar 7) jNil)) (iChain oLe oLe (iC (.int 1)) (iVar 7) (iC (.int 60))))) (sSeq (sSetO 9 (iLst (iCons (iLam 10 (fun c => decide (c ∈ ECS)) fw__law_word (iCallF [false, false] fn_place_of (jCons (iVar 7) (jCons (iC (.int 0)) jNil)))) iNil))) (sSeq (sApp 9 (iLam 10 (fun c => decide (c ∈ ECS)) fw__law_word (iCallF [false, false] fn_place_of (jCons (iVar 7) (jCons (iC .non) jNil))))) (sSeq (sIf (iAndT (iNotT (iTest (iVar 8))) (iCmpV oNe (vS 9) (vE (iBin oMul4 (iLst (iCons (iC (.str "number")) iNil)) (iC (.int 2)))))) (sRet (iC (.bl false))) sNx) (sSeq (sSet 7 (iCallF [true, false] fn__law_pick (jSlot 1 (jCons (iLst (iCons (iBin oAdd4 (iVar 4) (iC (.int 1))) (iCons (iNeg (iC (.int 1))) (iCons (iC (.bl true)) (iCons (iC .non) (iCons (iCallF [true] fn__law_odd (jSlot 1 jNil)) iNil)))))) jNil)))) (sSeq (sSet 8 (iAnd (iCallF [false] fn__law_is_number (jCons (iVar 7) jNil)) (iChain oLe oLe (iC (.int 0)) (iVar 7) (iVar 4)))) (sIf (iAndT (iNotT (iTest (iVar 8))) (iCmp oNe (iLam 10 (fun c => decide (c ∈ ECS)) fw__law_word (iCallF [false, false] fn_place_of (jCons (iVar 4) (jCons (iVar 7) jNil)))) (iC (.str "ones")))) (sRet (iC (.bl false))) sNx)))))))))) (sRet (iC (.bl true))))))
def fn_law : Fn := fnT 11 b_law
end K41
end MR
set_option maxRecDepth 100000
set_option maxHeartbeats 0
namespace MR
open PySem L2 PyProof.Rows
namespace K41
structure Sx (P : Program) (w : World) (K : Frag) (mg : Str → Option Value) (base : Heap) : Prop where
  kc : KC (gx K) KCS
  fr_abs : mg "abs" = none
  fr_bool : mg "bool" = none
  fr_int : mg "int" = none
  fr_isinstance : mg "isinstance" = none
  fr_len : mg "len" = none
  fr_min : mg "min" = none
  fr_range : mg "range" = none
  fr_repr : mg "repr" = none
  gc_HandError : mg "HandError" = some (.ref ((gx K).cls "HandError"))
  gc_BadNumber : mg "BadNumber" = some (.ref ((gx K).cls "BadNumber"))
  gc_BadLot : mg "BadLot" = some (.ref ((gx K).cls "BadLot"))
  gc_BadOnes : mg "BadOnes" = some (.ref ((gx K).cls "BadOnes"))
  gc_BadPlace : mg "BadPlace" = some (.ref ((gx K).cls "BadPlace"))
  gv_CELLS : GV (gx K) mg "CELLS" cv_CELLS
  gv_MOST_HANDS : GV (gx K) mg "MOST_HANDS" cv_MOST_HANDS
  er : ErC (gx K) ECS
  nt : K.lookup (He.cT K ("law", none)).2 = none
  pe_BadNumber : PySem.W.excIn (gx K).K ((gx K).cls "BadNumber") [.type "ValueError", .type "Exception", .type "BaseException", .type "object"] "ValueError.__new__" = true
  pe_BadOnes : PySem.W.excIn (gx K).K ((gx K).cls "BadOnes") [.type "ValueError", .type "Exception", .type "BaseException", .type "object"] "ValueError.__new__" = true
section
variable {P : Program} {w : World} {K : Frag} {mg : Str → Option Value} {base : Heap}
theorem sc_self {st : Stmt} (h1 : (defScope st).kind = .function := by rfl) (h2 : (defScope st).isCoroutine = false := by rfl) (h3 : (defScope st).isGenerator = false := by rfl) (h4 : ∀ x ∈ (["self"] : List Str), (defScope st).names.lookup x = some .local ∨ (defScope st).names.lookup x = some .cell := by decide +kernel) (h5 : ∀ y ∈ (defScope st).names, y.2 ≠ .free := by decide +kernel) : FnScope ["self"] ["self"] (defScope st) := ⟨h1, h2, h3, by decide +kernel, rfl, h4, h5⟩
theorem sx_of (Y : Sy faL fnL exL K mg) : Sx P w K mg base := by
  have e := Y.ex_
  unfold exL at e
  obtain ⟨e_kc, e⟩ := He.ba e
  obtain ⟨e_gv_CELLS, e⟩ := He.ba e
  obtain ⟨e_gv_MOST_HANDS, e⟩ := He.ba e
  obtain ⟨e_er, e⟩ := He.ba e
  obtain ⟨e_nt, e⟩ := He.ba e
  obtain ⟨e_pe_BadNumber, e⟩ := He.ba e
  have e_pe_BadOnes := e
  have kc : KC (gx K) KCS := kc_of (by decide +kernel) e_kc
  exact ⟨kc, (Y.free 18), (Y.free 19), (Y.free 20), (Y.free 21), (Y.free 22), (Y.free 23), (Y.free 24), (Y.free 25), (Y.glo 13), (Y.glo 14), (Y.glo 15), (Y.glo 16), (Y.glo 17), (gv_of Y.ns e_gv_CELLS), (gv_of Y.ns e_gv_MOST_HANDS), (erC_of (by decide +kernel) e_er), (Option.isNone_iff_eq_none.mp e_nt), e_pe_BadNumber, e_pe_BadOnes⟩
theorem sc__law_begun : FnScope ["_law_script", "_law_large", "_law_grain"] ["_law_script"] (defScope (top 14)) := ⟨rfl, rfl, rfl, by decide +kernel, rfl, by decide +kernel, by decide +kernel⟩
theorem k__law_begun (Y : Sy faL fnL exL K mg) (S : Sx P w K mg base) : BegM P w K mg base (gx K) 1 "_law_begun" := by
  obtain ⟨fd, F⟩ := Y.def_ 0 (d := dm__law_begun) rfl
  have sc := sc__law_begun
  have bi : Binds K fd ["_law_script"] [] := FunD.bindsN F (fun _ _ _ _ _ _ us hl => match us, hl with | [_], _ => rfl)
  refine ⟨_, fd, ["_law_script"], Y.glo 0, F.kp, bi, beg_okD (N := ["_law_script", "_law_large", "_law_grain"]) (d := dm__law_begun) (k := 0) F sc rfl rfl fun cdv A outer s H E hr => ?_⟩
  have o : Ok (cxOf (L2.CX P w) P w K mg base ["_law_script", "_law_large", "_law_grain"] dm__law_begun.qual (defScope dm__law_begun.st) (dm__law_begun.adr K) cdv A outer s H E) (gx K) (fun cls d _ H => E cls d H) := ok_of hr rfl
  have hpa : PassesOwn (model P w) _ _ _ := passes_of (X := cxOf (L2.CX P w) P w K mg base ["_law_script", "_law_large", "_law_grain"] dm__law_begun.qual (defScope dm__law_begun.st) (dm__law_begun.adr K) cdv A outer s H E) rfl
  exact pss_cons (s_setLcO o 1 (own := [("_law_grain", 2)]) sc.nd (i_seq o (m_var 0)) (show BlkOk ["_law_script", "_law_large", "_law_grain"] (defScope dm__law_begun.st) _ _ from ⟨rfl, by decide +kernel, by decide +kernel, by decide +kernel, by decide +kernel⟩) (fun s H C cl fp => (g_name 2 sc.nd)) (fun s H C cl fp => (ts_one (n_ge (m_abs rfl (S.fr_abs) (j_cons (m_var 2) j_nil)) (m_pow m_int m_int)))) (fun s H C cl fp => (m_sub (m_abs rfl (S.fr_abs) (j_cons (m_var 2) j_nil)) (m_pow m_int m_int)))) (pss_one (ps_ret (pe_disp (pps_cons pe_str (pv 1) (pps_cons pe_str pe_int (pps_cons pe_str (o_lc o (own := [("_law_grain", 2)]) sc.nd (i_seq o (m_var 0)) (show BlkOk ["_law_script", "_law_large", "_law_grain"] (defScope dm__law_begun.st) _ _ from ⟨rfl, by decide +kernel, by decide +kernel, by decide +kernel, by decide +kernel⟩) (fun s H C cl fp => (g_name 2 sc.nd)) (fun s H C cl fp => ts_nil) (fun s H C cl fp => (m_abs rfl (S.fr_abs) (j_cons (m_var 2) j_nil)))) (pps_cons pe_str pe_int pps_nil)))) rfl rfl (fun z => by cases z) (by decide))))
theorem sc__law_is_number : FnScope ["_law_item"] ["_law_item"] (defScope (top 20)) := ⟨rfl, rfl, rfl, by decide +kernel, rfl, by decide +kernel, by decide +kernel⟩
theorem k__law_is_number (Y : Sy faL fnL exL K mg) (S : Sx P w K mg base) : FnM P w K mg base (gx K) 1 "_law_is_number" [false] fn__law_is_number := by
  obtain ⟨fd, F⟩ := Y.def_ 1 (d := dm__law_is_number) rfl
  have sc := sc__law_is_number
  have bi : Binds K fd ["_law_item"] [] := FunD.bindsN F (fun _ _ _ _ _ _ us hl => match us, hl with | [_], _ => rfl)
  have hF : FnOk P w K mg base (L2.CX P w) 1 (dm__law_is_number.adr K) fd ["_law_item"] (spOf (gx K) [false] (fnOf 1 [false] b__law_is_number)) := by
    refine fn_okD (N := ["_law_item"]) (d := dm__law_is_number) (k := 0) (ks := [false]) (body := b__law_is_number) F sc rfl (by decide) fun cdv A outer s H E hr => ?_
    have o : Ok (cxOf (L2.CX P w) P w K mg base ["_law_item"] dm__law_is_number.qual (defScope dm__law_is_number.st) (dm__law_is_number.adr K) cdv A outer s H E) (gx K) (fun cls d _ H => E cls d H) := ok_of hr rfl
    have hpa : PassesOwn (model P w) _ _ _ := passes_of (X := cxOf (L2.CX P w) P w K mg base ["_law_item"] dm__law_is_number.qual (defScope dm__law_is_number.st) (dm__law_is_number.adr K) cdv A outer s H E) rfl
    exact (b_one (s_ret (m_and o (m_isi o S.kc rfl (S.fr_isinstance) (j_cons (m_var 0) (j_cons (m_ty rfl (S.fr_int) rfl) j_nil))) (m_one (m_not o (m_isi o S.kc rfl (S.fr_isinstance) (j_cons (m_var 0) (j_cons (m_ty rfl (S.fr_bool) rfl) j_nil))))))))
  exact ⟨_, fd, ["_law_item"], Y.glo 1, F.kp, bi, hF⟩
theorem sc__law_mixed : FnScope ["_law_draw", "_law_turn", "_law_found", "_law_prime", "_law_blend", "_law_grain"] ["_law_draw"] (defScope (top 15)) := ⟨rfl, rfl, rfl, by decide +kernel, rfl, by decide +kernel, by decide +kernel⟩
theorem k__law_mixed (Y : Sy faL fnL exL K mg) (S : Sx P w K mg base) : FnM P w K mg base (gx K) 1 "_law_mixed" [true] fn__law_mixed := by
  obtain ⟨fd, F⟩ := Y.def_ 2 (d := dm__law_mixed) rfl
  have sc := sc__law_mixed
  have bi : Binds K fd ["_law_draw"] [] := FunD.bindsN F (fun _ _ _ _ _ _ us hl => match us, hl with | [_], _ => rfl)
  have hF : FnOk P w K mg base (L2.CX P w) 1 (dm__law_mixed.adr K) fd ["_law_draw"] (spOf (gx K) [true] (fnOf 6 [true] mixB)) := by
    refine fn_okD (N := ["_law_draw", "_law_turn", "_law_found", "_law_prime", "_law_blend", "_law_grain"]) (d := dm__law_mixed) (k := 0) (ks := [true]) (body := mixB) F sc rfl (by decide) fun cdv A outer s H E hr => ?_
    have o : Ok (cxOf (L2.CX P w) P w K mg base ["_law_draw", "_law_turn", "_law_found", "_law_prime", "_law_blend", "_law_grain"] dm__law_mixed.qual (defScope dm__law_mixed.st) (dm__law_mixed.adr K) cdv A outer s H E) (gx K) (fun cls d _ H => E cls d H) := ok_of hr rfl
    have hpa : PassesOwn (model P w) _ _ _ := passes_of (X := cxOf (L2.CX P w) P w K mg base ["_law_draw", "_law_turn", "_law_found", "_law_prime", "_law_blend", "_law_grain"] dm__law_mixed.qual (defScope dm__law_mixed.st) (dm__law_mixed.adr K) cdv A outer s H E) rfl
    exact (b_cons (s_drTurn o 0 (m_plus o (m_drTurn o 0) m_int))
      (b_cons (s_par2 o 1 2 sc.nd (k_f (m_intC rfl (S.fr_int) (j_cons (m_drTurn o 0) j_nil))) (k_f m_int))
      (b_cons (s_for o hpa (i_seq o (m_lst (a_cons m_int (a_cons m_int (a_cons m_int a_nil))))) (g_name 3 sc.nd) (b_cons (s_set 4 sc.nd (m_mod (m_plus o (m_mul (m_var 1) m_int) (m_div (m_var 3) m_int)) (m_var 3)))
      (b_cons (s_for o hpa (i_seq o (m_drCells o 0)) (g_name 5 sc.nd) (b_one (s_set 4 sc.nd (m_mod (m_plus o (m_mul (m_var 4) m_int) (m_intC rfl (S.fr_int) (j_cons (m_var 5) j_nil))) (m_var 3)))))
      (b_one (s_set 2 sc.nd (m_plus o (m_mul (m_var 2) m_int) (m_mod (m_pow (m_var 4) m_int) (m_var 3))))))))
      (b_one (s_ret (m_var 2))))))
  exact FnM.imp ⟨_, fd, ["_law_draw"], Y.glo 2, F.kp, bi, hF⟩ mixB_ok
theorem sc__law_take : FnScope ["_law_draw", "_law_amount", "_law_found"] ["_law_draw", "_law_amount"] (defScope (top 16)) := ⟨rfl, rfl, rfl, by decide +kernel, rfl, by decide +kernel, by decide +kernel⟩
theorem k__law_take (Y : Sy faL fnL exL K mg) (S : Sx P w K mg base) : FnM P w K mg base (gx K) 2 "_law_take" [true, false] fn__law_take := by
  obtain ⟨fd, F⟩ := Y.def_ 3 (d := dm__law_take) rfl
  have sc := sc__law_take
  have F__law_mixed := k__law_mixed (P := P) (w := w) (base := base) Y S
  have bi : Binds K fd ["_law_draw", "_law_amount"] [] := FunD.bindsN F (fun _ _ _ _ _ _ us hl => match us, hl with | [_, _], _ => rfl)
  have hF : FnOk P w K mg base (L2.CX P w) 2 (dm__law_take.adr K) fd ["_law_draw", "_law_amount"] (spOf (gx K) [true, false] (fnOf 3 [true, false] takeB)) := by
    refine fn_okD (N := ["_law_draw", "_law_amount", "_law_found"]) (d := dm__law_take) (k := 1) (ks := [true, false]) (body := takeB) F sc rfl (by decide) fun cdv A outer s H E hr => ?_
    have o : Ok (cxOf (L2.CX P w) P w K mg base ["_law_draw", "_law_amount", "_law_found"] dm__law_take.qual (defScope dm__law_take.st) (dm__law_take.adr K) cdv A outer s H E) (gx K) (fun cls d _ H => E cls d H) := ok_of hr rfl
    have hpa : PassesOwn (model P w) _ _ _ := passes_of (X := cxOf (L2.CX P w) P w K mg base ["_law_draw", "_law_amount", "_law_found"] dm__law_take.qual (defScope dm__law_take.st) (dm__law_take.adr K) cdv A outer s H E) rfl
    exact (b_cons (s_if (n_eq o (m_drRest o 0) m_int) (b_one (s_drRest o 0 (m_if (n_drLg o 0) (m_drPop o 0) (m_callM o F__law_mixed (hr.mono (by decide)) (j_slot 0 j_nil))))) b_nil)
      (b_cons (s_set 2 sc.nd (m_mod (m_intC rfl (S.fr_int) (j_cons (m_drRest o 0) j_nil)) (m_var 1)))
      (b_cons (s_drRest o 0 (m_div (m_intC rfl (S.fr_int) (j_cons (m_drRest o 0) j_nil)) (m_var 1)))
      (b_one (s_ret (m_var 2))))))
  exact FnM.imp ⟨_, fd, ["_law_draw", "_law_amount"], Y.glo 3, F.kp, bi, hF⟩ takeB_ok
theorem sc__law_pick : FnScope ["_law_draw", "_law_some"] ["_law_draw", "_law_some"] (defScope (top 17)) := ⟨rfl, rfl, rfl, by decide +kernel, rfl, by decide +kernel, by decide +kernel⟩
theorem k__law_pick (Y : Sy faL fnL exL K mg) (S : Sx P w K mg base) : FnM P w K mg base (gx K) 3 "_law_pick" [true, false] fn__law_pick := by
  obtain ⟨fd, F⟩ := Y.def_ 4 (d := dm__law_pick) rfl
  have sc := sc__law_pick
  have F__law_take := k__law_take (P := P) (w := w) (base := base) Y S
  have bi : Binds K fd ["_law_draw", "_law_some"] [] := FunD.bindsN F (fun _ _ _ _ _ _ us hl => match us, hl with | [_, _], _ => rfl)
  have hF : FnOk P w K mg base (L2.CX P w) 3 (dm__law_pick.adr K) fd ["_law_draw", "_law_some"] (spOf (gx K) [true, false] (fnOf 2 [true, false] b__law_pick)) := by
    refine fn_okD (N := ["_law_draw", "_law_some"]) (d := dm__law_pick) (k := 2) (ks := [true, false]) (body := b__law_pick) F sc rfl (by decide) fun cdv A outer s H E hr => ?_
    have o : Ok (cxOf (L2.CX P w) P w K mg base ["_law_draw", "_law_some"] dm__law_pick.qual (defScope dm__law_pick.st) (dm__law_pick.adr K) cdv A outer s H E) (gx K) (fun cls d _ H => E cls d H) := ok_of hr rfl
    have hpa : PassesOwn (model P w) _ _ _ := passes_of (X := cxOf (L2.CX P w) P w K mg base ["_law_draw", "_law_some"] dm__law_pick.qual (defScope dm__law_pick.st) (dm__law_pick.adr K) cdv A outer s H E) rfl
    exact (b_one (s_ret (m_it o (m_var 1) (m_callM o F__law_take (hr.mono (by decide)) (j_slot 0 (j_cons (m_len o rfl (S.fr_len) (j_cons (m_var 1) j_nil)) j_nil))))))
  exact ⟨_, fd, ["_law_draw", "_law_some"], Y.glo 4, F.kp, bi, hF⟩
theorem sc__law_odd : FnScope ["_law_draw", "_law_some"] ["_law_draw"] (defScope (top 19)) := ⟨rfl, rfl, rfl, by decide +kernel, rfl, by decide +kernel, by decide +kernel⟩
theorem k__law_odd (Y : Sy faL fnL exL K mg) (S : Sx P w K mg base) : FnM P w K mg base (gx K) 4 "_law_odd" [true] fn__law_odd := by
  obtain ⟨fd, F⟩ := Y.def_ 5 (d := dm__law_odd) rfl
  have sc := sc__law_odd
  have F__law_pick := k__law_pick (P := P) (w := w) (base := base) Y S
  have bi : Binds K fd ["_law_draw"] [] := FunD.bindsN F (fun _ _ _ _ _ _ us hl => match us, hl with | [_], _ => rfl)
  have hF : FnOk P w K mg base (L2.CX P w) 4 (dm__law_odd.adr K) fd ["_law_draw"] (spOf (gx K) [true] (fnOf 2 [true] b__law_odd)) := by
    refine fn_okD (N := ["_law_draw", "_law_some"]) (d := dm__law_odd) (k := 3) (ks := [true]) (body := b__law_odd) F sc rfl (by decide) fun cdv A outer s H E hr => ?_
    have o : Ok (cxOf (L2.CX P w) P w K mg base ["_law_draw", "_law_some"] dm__law_odd.qual (defScope dm__law_odd.st) (dm__law_odd.adr K) cdv A outer s H E) (gx K) (fun cls d _ H => E cls d H) := ok_of hr rfl
    have hpa : PassesOwn (model P w) _ _ _ := passes_of (X := cxOf (L2.CX P w) P w K mg base ["_law_draw", "_law_some"] dm__law_odd.qual (defScope dm__law_odd.st) (dm__law_odd.adr K) cdv A outer s H E) rfl
    exact (b_cons (s_set 1 sc.nd (m_lst (a_cons m_non (a_cons m_bl (a_cons m_bl (a_cons m_int (a_cons m_int (a_cons (m_neg m_int) (a_cons m_int (a_cons m_int (a_cons (m_pow m_int m_int) (a_cons m_str (a_cons m_str (a_cons m_str (a_cons (m_tup a_nil) (a_cons (m_lst a_nil) (a_cons (m_frz o_dict0 (fun _ _ _ h => by cases h; rfl)) (a_cons (m_tup (a_cons m_int (a_cons m_int a_nil))) (a_cons (m_tup (a_cons m_int (a_cons m_int (a_cons m_int a_nil)))) (a_cons (m_lst (a_cons m_int (a_cons m_int (a_cons m_int a_nil)))) a_nil))))))))))))))))))))
      (b_cons (s_set 1 sc.nd (m_add4 o (m_var 1) (m_lst (a_cons (m_tup (a_cons m_int (a_cons m_int (a_cons m_int a_nil)))) (a_cons (m_tup (a_cons m_int (a_cons m_int (a_cons m_int a_nil)))) (a_cons (m_tup (a_cons m_int (a_cons m_int (a_cons m_int a_nil)))) (a_cons (m_tup (a_cons m_bl (a_cons m_int (a_cons m_int a_nil)))) (a_cons (m_tup (a_cons m_int (a_cons (m_neg m_int) (a_cons m_int a_nil)))) (a_cons (m_tup (a_cons (m_tup (a_cons m_str a_nil)) (a_cons m_int a_nil))) a_nil)))))))))
      (b_one (s_ret (m_callM o F__law_pick (hr.mono (by decide)) (j_slot 0 (j_cons (m_add4 o (m_var 1) (m_lst (a_cons (m_tup (a_cons m_int (a_cons m_int (a_cons m_int (a_cons m_int a_nil))))) a_nil))) j_nil)))))))
  exact ⟨_, fd, ["_law_draw"], Y.glo 5, F.kp, bi, hF⟩
theorem sc__law_place : FnScope ["_law_size", "_law_count", "_law_k"] ["_law_size", "_law_count"] (defScope (top 21)) := ⟨rfl, rfl, rfl, by decide +kernel, rfl, by decide +kernel, by decide +kernel⟩
theorem k__law_place (Y : Sy faL fnL exL K mg) (S : Sx P w K mg base) : FnM P w K mg base (gx K) 1 "_law_place" [false, false] fn__law_place := by
  obtain ⟨fd, F⟩ := Y.def_ 6 (d := dm__law_place) rfl
  have sc := sc__law_place
  have bi : Binds K fd ["_law_size", "_law_count"] [] := FunD.bindsN F (fun _ _ _ _ _ _ us hl => match us, hl with | [_, _], _ => rfl)
  have hF : FnOk P w K mg base (L2.CX P w) 1 (dm__law_place.adr K) fd ["_law_size", "_law_count"] (spOf (gx K) [false, false] (fnOf 3 [false, false] b__law_place)) := by
    refine fn_okD (N := ["_law_size", "_law_count", "_law_k"]) (d := dm__law_place) (k := 0) (ks := [false, false]) (body := b__law_place) F sc rfl (by decide) fun cdv A outer s H E hr => ?_
    have o : Ok (cxOf (L2.CX P w) P w K mg base ["_law_size", "_law_count", "_law_k"] dm__law_place.qual (defScope dm__law_place.st) (dm__law_place.adr K) cdv A outer s H E) (gx K) (fun cls d _ H => E cls d H) := ok_of hr rfl
    have hpa : PassesOwn (model P w) _ _ _ := passes_of (X := cxOf (L2.CX P w) P w K mg base ["_law_size", "_law_count", "_law_k"] dm__law_place.qual (defScope dm__law_place.st) (dm__law_place.adr K) cdv A outer s H E) rfl
    exact (b_cons (s_if (n_w (w_or (n_eq o (m_var 1) m_int) (w_or1 (n_eq o (m_var 1) (m_var 0))))) (b_one (s_ret (m_if (n_eq o (m_var 1) m_int) m_int m_int))) b_nil)
      (b_one (s_ret (m_it o (m_frz (o_lc o (own := [("_law_k", 2)]) sc.nd (i_rng2 rfl (S.fr_range) (a_cons m_int (a_cons m_int a_nil))) (show BlkOk ["_law_size", "_law_count", "_law_k"] (defScope dm__law_place.st) _ _ from ⟨rfl, by decide +kernel, by decide +kernel, by decide +kernel, by decide +kernel⟩) (fun s H C cl fp => (g_name 2 sc.nd)) (fun s H C cl fp => (ts_one (n_chain op_le op_lt (of_I fun _ _ _ _ => .bl _) (of_I fun _ _ _ _ => .bl _) (m_mul4 (m_sub (m_var 2) m_int) (m_var 0)) (m_mul4 m_int (m_var 1)) (m_mul4 (m_var 2) (m_var 0))))) (fun s H C cl fp => (m_var 2))) (iLc_fz _ _ _ _ _)) m_int))))
  exact ⟨_, fd, ["_law_size", "_law_count"], Y.glo 6, F.kp, bi, hF⟩
theorem sc__law_caught : FnScope ["_law_work", "_law_caught_here", "_law_error"] ["_law_work"] (defScope (top 18)) := ⟨rfl, rfl, rfl, by decide +kernel, rfl, by decide +kernel, by decide +kernel⟩
theorem k__law_caught (Y : Sy faL fnL exL K mg) (S : Sx P w K mg base) : WrkM P w K mg base (gx K) (.ref ((gx K).cls "HandError")) 1 "_law_caught" some := by
  obtain ⟨fd, F⟩ := Y.def_ 7 (d := dm__law_caught) rfl
  have sc := sc__law_caught
  have bi : Binds K fd ["_law_work"] [] := FunD.bindsN F (fun _ _ _ _ _ _ us hl => match us, hl with | [_], _ => rfl)
  exact ⟨_, fd, ["_law_work"], Y.glo 7, F.kp, bi, rfl, cat_ok F sc rfl rfl rfl rfl rfl rfl S.gc_HandError⟩
theorem sc__law_word : FnScope ["_law_work", "_law_error", "_law_some", "_law_hits", "_law_word_here", "_law_is_so"] ["_law_work"] (defScope (top 22)) := ⟨rfl, rfl, rfl, by decide +kernel, rfl, by decide +kernel, by decide +kernel⟩
theorem k__law_word (Y : Sy faL fnL exL K mg) (S : Sx P w K mg base) : WrkM P w K mg base (gx K) (.ref ((gx K).cls "HandError")) 2 "_law_word" fw__law_word := by
  obtain ⟨fd, F⟩ := Y.def_ 8 (d := dm__law_word) rfl
  have sc := sc__law_word
  have F__law_caught := k__law_caught (P := P) (w := w) (base := base) Y S
  have bi : Binds K fd ["_law_work"] [] := FunD.bindsN F (fun _ _ _ _ _ _ us hl => match us, hl with | [_], _ => rfl)
  have hF : WrkOk P w K mg base (gx K) (.ref ((gx K).cls "HandError")) (1 + 1) (dm__law_word.adr K) fd ["_law_work"] (fwOf 6 b__law_word some) := by
    refine word_ok (N := ["_law_work", "_law_error", "_law_some", "_law_hits", "_law_word_here", "_law_is_so"]) (d := dm__law_word) (k := 1) (body := b__law_word) (fw := some) F sc (by decide) rfl rfl rfl rfl rfl rfl (by decide) (by decide) (by decide) F__law_caught fun cdv A outer s H E hr => ?_
    have o : Ok (cxOf (L2.CX P w) P w K mg base ["_law_work", "_law_error", "_law_some", "_law_hits", "_law_word_here", "_law_is_so"] dm__law_word.qual (defScope dm__law_word.st) (dm__law_word.adr K) cdv A outer s H E) (gx K) (fun cls d _ H => E cls d H) := ok_of hr rfl
    have hpa : PassesOwn (model P w) _ _ _ := passes_of (X := cxOf (L2.CX P w) P w K mg base ["_law_work", "_law_error", "_law_some", "_law_hits", "_law_word_here", "_law_is_so"] dm__law_word.qual (defScope dm__law_word.st) (dm__law_word.adr K) cdv A outer s H E) rfl
    exact (b_cons (s_set 2 sc.nd (m_lst (a_cons (m_tup (a_cons m_str (a_cons (m_isX o S.er rfl (S.fr_isinstance) (j_cons (m_var 1) (j_cons (m_cls rfl S.gc_BadNumber) j_nil))) a_nil))) (a_cons (m_tup (a_cons m_str (a_cons (m_isX o S.er rfl (S.fr_isinstance) (j_cons (m_var 1) (j_cons (m_cls rfl S.gc_BadOnes) j_nil))) a_nil))) a_nil))))
      (b_cons (s_set 2 sc.nd (m_add4 o (m_var 2) (m_lst (a_cons (m_tup (a_cons m_str (a_cons (m_isX o S.er rfl (S.fr_isinstance) (j_cons (m_var 1) (j_cons (m_cls rfl S.gc_BadLot) j_nil))) a_nil))) (a_cons (m_tup (a_cons m_str (a_cons (m_isX o S.er rfl (S.fr_isinstance) (j_cons (m_var 1) (j_cons (m_cls rfl S.gc_BadPlace) j_nil))) a_nil))) a_nil)))))
      (b_cons (s_setLc o 3 (own := [("_law_word_here", 4), ("_law_is_so", 5)]) sc.nd (i_seq o (m_var 2)) (show BlkOk ["_law_work", "_law_error", "_law_some", "_law_hits", "_law_word_here", "_law_is_so"] (defScope dm__law_word.st) _ _ from ⟨rfl, by decide +kernel, by decide +kernel, by decide +kernel, by decide +kernel⟩) (fun s H C cl fp => (g_tup (Ok.blk o) (gs_cons (g_name 4 sc.nd) (gs_cons (g_name 5 sc.nd) gs_nil)))) (fun s H C cl fp => (ts_one (n_truth (Ok.blk o) (m_var 5)))) (fun s H C cl fp => (m_var 4)))
      (b_one (s_ret (m_if (n_is (m_var 1) m_non) m_str (m_if (n_eq o (m_len o rfl (S.fr_len) (j_cons (m_var 3) j_nil)) m_int) (m_it o (m_var 3) m_int) m_str)))))))
  exact ⟨_, fd, ["_law_work"], Y.glo 8, F.kp, bi, rfl, hF⟩
theorem sc_is_number : FnScope ["thing"] ["thing"] (defScope (top 8)) := ⟨rfl, rfl, rfl, by decide +kernel, rfl, by decide +kernel, by decide +kernel⟩
theorem k_is_number (Y : Sy faL fnL exL K mg) (S : Sx P w K mg base) : FnM P w K mg base (gx K) 1 "is_number" [false] fn_is_number := by
  obtain ⟨fd, F⟩ := Y.def_ 9 (d := dm_is_number) rfl
  have sc := sc_is_number
  have bi : Binds K fd ["thing"] [] := FunD.bindsN F (fun _ _ _ _ _ _ us hl => match us, hl with | [_], _ => rfl)
  have hF : FnOk P w K mg base (L2.CX P w) 1 (dm_is_number.adr K) fd ["thing"] (spOf (gx K) [false] (fnOf 1 [false] b_is_number)) := by
    refine fn_okD (N := ["thing"]) (d := dm_is_number) (k := 0) (ks := [false]) (body := b_is_number) F sc rfl (by decide) fun cdv A outer s H E hr => ?_
    have o : Ok (cxOf (L2.CX P w) P w K mg base ["thing"] dm_is_number.qual (defScope dm_is_number.st) (dm_is_number.adr K) cdv A outer s H E) (gx K) (fun cls d _ H => E cls d H) := ok_of hr rfl
    have hpa : PassesOwn (model P w) _ _ _ := passes_of (X := cxOf (L2.CX P w) P w K mg base ["thing"] dm_is_number.qual (defScope dm_is_number.st) (dm_is_number.adr K) cdv A outer s H E) rfl
    exact (b_one (s_ret (m_and o (m_isi o S.kc rfl (S.fr_isinstance) (j_cons (m_var 0) (j_cons (m_ty rfl (S.fr_int) rfl) j_nil))) (m_one (m_not o (m_isi o S.kc rfl (S.fr_isinstance) (j_cons (m_var 0) (j_cons (m_ty rfl (S.fr_bool) rfl) j_nil))))))))
  exact ⟨_, fd, ["thing"], Y.glo 9, F.kp, bi, hF⟩
theorem sc_need_number : FnScope ["n"] ["n"] (defScope (top 9)) := ⟨rfl, rfl, rfl, by decide +kernel, rfl, by decide +kernel, by decide +kernel⟩
theorem k_need_number (Y : Sy faL fnL exL K mg) (S : Sx P w K mg base) : FnM P w K mg base (gx K) 2 "need_number" [false] fn_need_number := by
  obtain ⟨fd, F⟩ := Y.def_ 10 (d := dm_need_number) rfl
  have sc := sc_need_number
  have F_is_number := k_is_number (P := P) (w := w) (base := base) Y S
  have bi : Binds K fd ["n"] [] := FunD.bindsN F (fun _ _ _ _ _ _ us hl => match us, hl with | [_], _ => rfl)
  have hF : FnOk P w K mg base (L2.CX P w) 2 (dm_need_number.adr K) fd ["n"] (spOf (gx K) [false] (fnOf 1 [false] b_need_number)) := by
    refine fn_okD (N := ["n"]) (d := dm_need_number) (k := 1) (ks := [false]) (body := b_need_number) F sc rfl (by decide) fun cdv A outer s H E hr => ?_
    have o : Ok (cxOf (L2.CX P w) P w K mg base ["n"] dm_need_number.qual (defScope dm_need_number.st) (dm_need_number.adr K) cdv A outer s H E) (gx K) (fun cls d _ H => E cls d H) := ok_of hr rfl
    have hpa : PassesOwn (model P w) _ _ _ := passes_of (X := cxOf (L2.CX P w) P w K mg base ["n"] dm_need_number.qual (defScope dm_need_number.st) (dm_need_number.adr K) cdv A outer s H E) rfl
    exact (b_one (s_if (n_w (w_or (n_not (n_truth o (m_callM o F_is_number (hr.mono (by decide)) (j_cons (m_var 0) j_nil)))) (w_or1 (n_not (n_chain op_le op_le (of_I fun _ _ _ _ => .bl _) (of_I fun _ _ _ _ => .bl _) m_int (m_var 0) (m_gv S.gv_MOST_HANDS)))))) (b_one (s_raise o S.er (by decide) S.gc_BadNumber S.pe_BadNumber)) b_nil))
  exact ⟨_, fd, ["n"], Y.glo 10, F.kp, bi, hF⟩
theorem sc_place_of : FnScope ["n", "v"] ["n", "v"] (defScope (top 12)) := ⟨rfl, rfl, rfl, by decide +kernel, rfl, by decide +kernel, by decide +kernel⟩
theorem kx_place_of (Y : Sy faL fnL exL K mg) (S : Sx P w K mg base) : ∃ fd, FunM K dm_place_of fd ∧ FnOk P w K mg base (L2.CX P w) 3 (dm_place_of.adr K) fd ["n", "v"] (spOf (gx K) [false, false] fn_place_of) := by
  obtain ⟨fd, F⟩ := Y.def_ 11 (d := dm_place_of) rfl
  have sc := sc_place_of
  have F_is_number := k_is_number (P := P) (w := w) (base := base) Y S
  have F_need_number := k_need_number (P := P) (w := w) (base := base) Y S
  have hF : FnOk P w K mg base (L2.CX P w) 3 (dm_place_of.adr K) fd ["n", "v"] (spOf (gx K) [false, false] (fnOf 2 [false, false] b_place_of)) := by
    refine fn_okD (N := ["n", "v"]) (d := dm_place_of) (k := 2) (ks := [false, false]) (body := b_place_of) F sc rfl (by decide) fun cdv A outer s H E hr => ?_
    have o : Ok (cxOf (L2.CX P w) P w K mg base ["n", "v"] dm_place_of.qual (defScope dm_place_of.st) (dm_place_of.adr K) cdv A outer s H E) (gx K) (fun cls d _ H => E cls d H) := ok_of hr rfl
    have hpa : PassesOwn (model P w) _ _ _ := passes_of (X := cxOf (L2.CX P w) P w K mg base ["n", "v"] dm_place_of.qual (defScope dm_place_of.st) (dm_place_of.adr K) cdv A outer s H E) rfl
    exact (b_cons (s_expr (m_callM o F_need_number (hr.mono (by decide)) (j_cons (m_var 0) j_nil)))
      (b_cons (s_if (n_w (w_or (n_not (n_truth o (m_callM o F_is_number (hr.mono (by decide)) (j_cons (m_var 1) j_nil)))) (w_or1 (n_not (n_chain op_le op_le (of_I fun _ _ _ _ => .bl _) (of_I fun _ _ _ _ => .bl _) m_int (m_var 1) (m_var 0)))))) (b_one (s_raise o S.er (by decide) S.gc_BadOnes S.pe_BadOnes)) b_nil)
      (b_cons (s_if (n_in o (m_var 1) (m_tup (a_cons m_int (a_cons (m_var 0) a_nil)))) (b_one (s_ret (m_if (n_eq o (m_var 1) m_int) m_int (m_add4 o (m_gv S.gv_CELLS) m_int)))) b_nil)
      (b_one (s_ret (m_add4 o (m_div (m_mul4 (m_gv S.gv_CELLS) (m_var 1)) (m_var 0)) m_int))))))
  exact ⟨fd, F, hF⟩
theorem kk_0 (Y : Sy faL fnL exL K mg) (S : Sx P w K mg base) : FnK P w K mg base (gx K) 3 "place_of" 2 fn_place_of 0 ["v", "n"] [1, 0] := by
  obtain ⟨fd, F, hF⟩ := kx_place_of (P := P) (w := w) (base := base) Y S
  have bi : KBp K fd ["n", "v"] 0 ["v", "n"] [1, 0] := FunM.kbp F (by decide) rfl (fun _ _ _ _ _ _ us ws h1 h2 => match us, ws, h1, h2 with | [], [_, _], _, _ => rfl)
  exact ⟨_, fd, ["n", "v"], Y.glo 11, F.kp, bi, hF⟩
theorem k_place_of (Y : Sy faL fnL exL K mg) (S : Sx P w K mg base) : FnM P w K mg base (gx K) 3 "place_of" [false, false] fn_place_of := by
  obtain ⟨fd, F, hF⟩ := kx_place_of (P := P) (w := w) (base := base) Y S
  have bi : Binds K fd ["n", "v"] [] := FunD.bindsN F (fun _ _ _ _ _ _ us hl => match us, hl with | [_, _], _ => rfl)
  exact ⟨_, fd, ["n", "v"], Y.glo 11, F.kp, bi, hF⟩
theorem sc_law : FnScope ["_law_script", "_law_draw", "_law_sizes", "_law_turn", "_law_size", "_law_count", "_law_due", "_law_odd_here", "_law_is_good", "_law_words", "<tab>"] ["_law_script"] (defScope (top 23)) := ⟨rfl, rfl, rfl, by decide +kernel, rfl, by decide +kernel, by decide +kernel⟩
theorem k_law (Y : Sy faL fnL exL K mg) : ∃ fd, FunM K dm_law fd ∧ K.lookup (He.cT K ("law", none)).2 = none ∧ (∀ (s : Shared) (v : Value), BindsTo s fd ⟨[v], []⟩ [("_law_script", v)]) ∧ ∀ base : Heap, LamX.TabB base mg (He.codeOf K ("law", none)) (He.cT K ("law", none)).2 → FnG P w K mg base (L2.CX P w) 7 (He.ga K "law") fd ["_law_script"] (spT (gx K) fn_law) := by
  obtain ⟨fd, F⟩ := Y.def_ 12 (d := dm_law) rfl
  refine ⟨fd, F, (sx_of (P := P) (w := w) (base := { objs := #[] }) Y).nt, fun s v => FunD.bindsA (ps := ["_law_script"]) F (fun _ _ _ _ _ _ us hl => match us, hl with | [_], _ => rfl) s [v] rfl, fun base TB => ?_⟩
  have S := sx_of (P := P) (w := w) (base := base) Y
  have sc := sc_law
  have F__law_begun := k__law_begun (P := P) (w := w) (base := base) Y S
  have F__law_is_number := k__law_is_number (P := P) (w := w) (base := base) Y S
  have F__law_odd := k__law_odd (P := P) (w := w) (base := base) Y S
  have F__law_pick := k__law_pick (P := P) (w := w) (base := base) Y S
  have F__law_place := k__law_place (P := P) (w := w) (base := base) Y S
  have F__law_take := k__law_take (P := P) (w := w) (base := base) Y S
  have F__law_word := k__law_word (P := P) (w := w) (base := base) Y S
  have F_place_of := k_place_of (P := P) (w := w) (base := base) Y S
  have FK_0 := kk_0 (P := P) (w := w) (base := base) Y S
  have hF : FnG P w K mg base (L2.CX P w) 7 (dm_law.adr K) fd ["_law_script"] (spT (gx K) (fnT 11 b_law)) := by
    refine fn_okT (N := ["_law_script", "_law_draw", "_law_sizes", "_law_turn", "_law_size", "_law_count", "_law_due", "_law_odd_here", "_law_is_good", "_law_words", "<tab>"]) (d := dm_law) (k := 6) (body := b_law) (g := "<tab>") F rfl sc (by decide) rfl (by rintro (h | h | h) <;> exact absurd h (by decide +kernel)) rfl TB fun A outer s H E cdv lc hG hr => ?_
    have o : Ok (cxOf (L2.CX P w) P w K mg base ["_law_script", "_law_draw", "_law_sizes", "_law_turn", "_law_size", "_law_count", "_law_due", "_law_odd_here", "_law_is_good", "_law_words", "<tab>"] dm_law.qual (defScope dm_law.st) (dm_law.adr K) cdv A outer s H E) (gx K) (fun cls d _ H => E cls d H) := ok_of hr rfl
    have hpa : PassesOwn (model P w) _ _ _ := passes_of (X := cxOf (L2.CX P w) P w K mg base ["_law_script", "_law_draw", "_law_sizes", "_law_turn", "_law_size", "_law_count", "_law_due", "_law_odd_here", "_law_is_good", "_law_words", "<tab>"] dm_law.qual (defScope dm_law.st) (dm_law.adr K) cdv A outer s H E) rfl
    exact (b_cons (s_setO 1 sc.nd (o_begM o F__law_begun (hr.mono (by decide)) (m_var 0)))
      (b_cons (s_set 2 sc.nd (m_add4 o (m_lst (a_cons m_int (a_cons m_int (a_cons m_int (a_cons m_int a_nil))))) (m_frz (o_lc o (own := [("_law_turn", 3)]) sc.nd (i_rng1 rfl (S.fr_range) (a_cons (m_add4 o m_int (m_min o rfl (S.fr_min) (j_cons (m_len o rfl (S.fr_len) (j_cons (m_var 0) j_nil)) (j_cons m_int j_nil)))) a_nil)) (show BlkOk ["_law_script", "_law_draw", "_law_sizes", "_law_turn", "_law_size", "_law_count", "_law_due", "_law_odd_here", "_law_is_good", "_law_words", "<tab>"] (defScope dm_law.st) _ _ from ⟨rfl, by decide +kernel, by decide +kernel, by decide +kernel, by decide +kernel⟩) (fun s H C cl fp => (g_name 3 sc.nd)) (fun s H C cl fp => ts_nil) (fun s H C cl fp => (m_add4 (Ok.blk o) m_int (m_callM (Ok.blk o) F__law_take (hr.mono (by decide)) (j_slot 1 (j_cons m_int j_nil)))))) (iLc_fz _ _ _ _ _))))
      (b_cons (s_for o hpa (i_seq o (m_var 2)) (g_name 4 sc.nd) (b_cons (s_for o hpa (i_rng1 rfl (S.fr_range) (a_cons (m_add4 o (m_var 4) m_int) a_nil)) (g_name 5 sc.nd) (b_cons (s_set 6 sc.nd (m_callM o F__law_place (hr.mono (by decide)) (j_cons (m_var 4) (j_cons (m_var 5) j_nil))))
      (b_one (s_if (n_ne o (m_repr o hG rfl (S.fr_repr) (j_cons (m_lst (a_cons (m_callM o F_place_of (hr.mono (by decide)) (j_cons (m_var 4) (j_cons (m_var 5) j_nil))) (a_cons (m_callK0 o FK_0 (hr.mono (by decide)) (k_cons (m_var 5) (k_cons (m_var 4) k_nil)) (l_cons (l_cons l_nil))) a_nil))) j_nil)) (m_repr o hG rfl (S.fr_repr) (j_cons (m_lst (a_cons (m_var 6) (a_cons (m_var 6) a_nil))) j_nil))) (b_one (s_ret m_bl)) b_nil))))
      (b_cons (s_set 7 sc.nd (m_callM o F__law_pick (hr.mono (by decide)) (j_slot 1 (j_cons (m_lst (a_cons m_int (a_cons m_int (a_cons (m_neg m_int) (a_cons (m_callM o F__law_odd (hr.mono (by decide)) (j_slot 1 j_nil)) a_nil))))) j_nil))))
      (b_cons (s_set 8 sc.nd (m_and o (m_callM o F__law_is_number (hr.mono (by decide)) (j_cons (m_var 7) j_nil)) (m_one (m_chain op_le op_le (of_I fun _ _ _ _ => .bl _) (of_I fun _ _ _ _ => .bl _) m_int (m_var 7) m_int))))
      (b_cons (s_setO 9 sc.nd (o_lst (a_cons (m_lamcall o lc (i := 10) (kL := 3) (fw := fw__law_word) F__law_word (hr.mono (by decide)) (fun c h => S.er.xm c (of_decide_eq_true h)) (LamX.lamS_by (by kernel_rfl)) (fun A outer s1 H1 E f c2 hrL => (m_callM (ok_lam hrL o.K) F_place_of (hrL.mono (by decide)) (j_cons (m_var 7) (j_cons m_int j_nil))))) a_nil)))
      (b_cons (s_app o 9 (m_lamcall o lc (i := 10) (kL := 3) (fw := fw__law_word) F__law_word (hr.mono (by decide)) (fun c h => S.er.xm c (of_decide_eq_true h)) (LamX.lamS_by (by kernel_rfl)) (fun A outer s1 H1 E f c2 hrL => (m_callM (ok_lam hrL o.K) F_place_of (hrL.mono (by decide)) (j_cons (m_var 7) (j_cons m_non j_nil))))))
      (b_cons (s_if (n_w (w_and (n_not (n_truth o (m_var 8))) (w_and1 (n_neV o (v_s 9) (v_e (m_mul4 (m_lst (a_cons m_str a_nil)) m_int)))))) (b_one (s_ret m_bl)) b_nil)
      (b_cons (s_set 7 sc.nd (m_callM o F__law_pick (hr.mono (by decide)) (j_slot 1 (j_cons (m_lst (a_cons (m_add4 o (m_var 4) m_int) (a_cons (m_neg m_int) (a_cons m_bl (a_cons m_non (a_cons (m_callM o F__law_odd (hr.mono (by decide)) (j_slot 1 j_nil)) a_nil)))))) j_nil))))
      (b_cons (s_set 8 sc.nd (m_and o (m_callM o F__law_is_number (hr.mono (by decide)) (j_cons (m_var 7) j_nil)) (m_one (m_chain op_le op_le (of_I fun _ _ _ _ => .bl _) (of_I fun _ _ _ _ => .bl _) m_int (m_var 7) (m_var 4)))))
      (b_one (s_if (n_w (w_and (n_not (n_truth o (m_var 8))) (w_and1 (n_ne o (m_lamcall o lc (i := 10) (kL := 3) (fw := fw__law_word) F__law_word (hr.mono (by decide)) (fun c h => S.er.xm c (of_decide_eq_true h)) (LamX.lamS_by (by kernel_rfl)) (fun A outer s1 H1 E f c2 hrL => (m_callM (ok_lam hrL o.K) F_place_of (hrL.mono (by decide)) (j_cons (m_var 4) (j_cons (m_var 7) j_nil))))) m_str)))) (b_one (s_ret m_bl)) b_nil)))))))))))
      (b_one (s_ret m_bl)))))
  exact hF
end
end K41
end MR
set_option maxRecDepth 100000
set_option maxHeartbeats 4000000
/-! PureA: plain lemmas about mirrors. -/
namespace MR
/-- the draw's values -/
def IsDrw : IV → Prop
  | .drw _ _ _ _ => True
  | _ => False
theorem take_ok {d : IV} (h : IsDrw d) {n : Int} (h0 : 0 < n) (h1 : n < 1073741824) : ∃ r d', takeF [d, .int n] = .ok (.int r) [d'] ∧ IsDrw d' ∧ 0 ≤ r ∧ r < n := by
  cases d with
  | drw lg cl rest turn =>
    unfold takeF
    simp only [h0, h1, and_self, if_true]
    by_cases hr : rest = 0
    · rw [if_pos hr]
      cases lg with
      | nil => exact ⟨_, _, rfl, trivial, Int.emod_nonneg _ (by omega), Int.emod_lt_of_pos _ h0⟩
      | cons g lg => exact ⟨_, _, rfl, trivial, Int.emod_nonneg _ (by omega), Int.emod_lt_of_pos _ h0⟩
    · rw [if_neg hr]
      exact ⟨_, _, rfl, trivial, Int.emod_nonneg _ (by omega), Int.emod_lt_of_pos _ h0⟩
  | _ => exact h.elim
/-- a comprehension whose turns all come back to the same slots -/
theorem lc_map {t : TM} {ts : EB} {el : E} {own : List Nat} {ρ : Env} (g : IV → IV) : ∀ {ds : List IV}, (∀ d ∈ ds, ∃ ρa ρb ρc, t d (wipeE ρ own) = some ρa ∧ ts ρa = .ok true ρb ∧ el ρb = .ok (g d) ρc ∧ restE ρ ρc own = ρ) → lcLoop t ts el own ds ρ = .ok (ds.map g) ρ
  | [], _ => rfl
  | d :: ds, h => by
    obtain ⟨ρa, ρb, ρc, h1, h2, h3, h4⟩ := h d List.mem_cons_self
    simp only [lcLoop, h1, h2, h3, h4]
    rw [lc_map g fun x hx => h x (List.mem_cons_of_mem _ hx)]
    rfl
/-- .. with a filter -/
theorem lc_filter {t : TM} {ts : EB} {el : E} {own : List Nat} {ρ : Env} (p : IV → Bool) (g : IV → IV) : ∀ {ds : List IV}, (∀ d ∈ ds, ∃ ρa ρb, t d (wipeE ρ own) = some ρa ∧ ts ρa = .ok (p d) ρb ∧ (p d = false → restE ρ ρb own = ρ) ∧ (p d = true → ∃ ρc, el ρb = .ok (g d) ρc ∧ restE ρ ρc own = ρ)) →
    lcLoop t ts el own ds ρ = .ok ((ds.filter p).map g) ρ
  | [], _ => rfl
  | d :: ds, h => by
    obtain ⟨ρa, ρb, h1, h2, h3, h4⟩ := h d List.mem_cons_self
    have ih := lc_filter (ρ := ρ) p g fun x hx => h x (List.mem_cons_of_mem _ hx)
    cases hp : p d with
    | false =>
      simp only [lcLoop, h1, h2, hp, h3 hp]
      rw [ih, List.filter_cons_of_neg (by simp [hp])]
    | true =>
      obtain ⟨ρc, h5, h6⟩ := h4 hp
      simp only [lcLoop, h1, h2, hp, h5, h6]
      rw [ih, List.filter_cons_of_pos hp]
      rfl
/-- a for whose turns keep P -/
theorem for_inv {t : TM} {body : S} (P : Nat → Env → Prop) : ∀ {ds : List IV} {i : Nat} {ρ : Env}, P i ρ → (∀ (j : Nat) d ρ, ds[j]? = some d → P (i + j) ρ → ∃ ρa ρ', t d ρ = some ρa ∧ (body ρa = .nx ρ' ∨ body ρa = .ct ρ') ∧ P (i + j + 1) ρ') → ∃ ρ', forLoop t body ds ρ = .nx ρ' ∧ P (i + ds.length) ρ'
  | [], i, ρ, h, _ => ⟨ρ, rfl, h⟩
  | d :: ds, i, ρ, h, hs => by
    obtain ⟨ρa, ρ', h1, h2, h3⟩ := hs 0 d ρ rfl h
    have h3' : P (i + 1) ρ' := by simpa using h3
    obtain ⟨ρ2, e2, q2⟩ := for_inv P (ds := ds) (i := i + 1) h3' fun j d' ρ hj hp => by
      have := hs (j + 1) d' ρ (by simpa using hj) (by rw [show i + (j + 1) = i + 1 + j from by omega]; exact hp)
      rw [show i + (j + 1) + 1 = i + 1 + j + 1 from by omega] at this
      exact this
    refine ⟨ρ2, ?_, by rw [List.length_cons, show i + (ds.length + 1) = i + 1 + ds.length from by omega]; exact q2⟩
    rcases h2 with h2 | h2 <;> simp only [forLoop, h1, h2, e2]
/-- the same over a slot's own list -/
theorem lcO_filter {s : Nat} {t : TM} {ts : EB} {el : E} {own : List Nat} {ρ : Env} {ds : List IV} (p : IV → Bool) (g : IV → IV) (hi : ρ[s]? = some (.ow (.lst ds)))
    (h : ∀ d ∈ ds, ∃ ρa ρb, t d (wipeE ρ own) = some ρa ∧ ts ρa = .ok (p d) ρb ∧ (p d = false → restE ρ ρb own = ρ) ∧ (p d = true → ∃ ρc, el ρb = .ok (g d) ρc ∧ restE ρ ρc own = ρ)) :
    ∀ (k j : Nat), ds.length = j + k → lcLoopO s t ts el own k j ρ = .ok (((ds.drop j).filter p).map g) ρ
  | 0, j, e => by
    unfold lcLoopO
    rw [hi]
    have hn : ds[j]? = none := List.getElem?_eq_none_iff.mpr (by omega)
    simp only [hn]
    rw [List.drop_eq_nil_iff.mpr (by omega)]
    rfl
  | k + 1, j, e => by
    have hlt : j < ds.length := by omega
    have hd : ds[j]? = some ds[j] := List.getElem?_eq_getElem hlt
    have ih := lcO_filter p g hi h k (j + 1) (by omega)
    obtain ⟨ρa, ρb, h1, h2, h3, h4⟩ := h ds[j] (List.getElem_mem hlt)
    unfold lcLoopO
    rw [hi]
    simp only [hd, h1, h2]
    rw [List.drop_eq_getElem_cons hlt]
    cases hp : p ds[j] with
    | false =>
      simp only [h3 hp]
      rw [ih, List.filter_cons_of_neg (by simp [hp])]
    | true =>
      obtain ⟨ρc, h5, h6⟩ := h4 hp
      simp only [h5, h6]
      rw [ih, List.filter_cons_of_pos hp]
      rfl
/-! stepwise evaluation -/
theorem ev_cmp {f : IV → IV → Option IV} {A B : E} {ρ ρ1 ρ2 : Env} {x y : IV} {b : Bool} (hA : A ρ = .ok x ρ1) (hB : B ρ1 = .ok y ρ2) (hf : f x y = some (.bl b)) : iCmp f A B ρ = .ok b ρ2 := by
  unfold iCmp
  rw [hA]
  simp only [Rz.bind]
  rw [hB]
  simp only [hf]
theorem ev_bin {f : IV → IV → Option IV} {A B : E} {ρ ρ1 ρ2 : Env} {x y z : IV} (hA : A ρ = .ok x ρ1) (hB : B ρ1 = .ok y ρ2) (hf : f x y = some z) : iBin f A B ρ = .ok z ρ2 := by
  unfold iBin
  rw [hA]
  simp only [Rz.bind]
  rw [hB]
  simp only [hf, ofO]
theorem ev_seq {a b : S} {ρ ρ1 : Env} (h : a ρ = .nx ρ1) : sSeq a b ρ = b ρ1 := by
  unfold sSeq
  rw [h]
theorem ev_if {c : EB} {a b : S} {ρ ρ1 : Env} {k : Bool} (h : c ρ = .ok k ρ1) : sIf c a b ρ = if k = true then a ρ1 else b ρ1 := by
  unfold sIf
  rw [h]
  rfl
theorem ev_no {c : EB} {a : S} {ρ ρ1 : Env} (h : c ρ = .ok false ρ1) : sIf c a sNx ρ = .nx ρ1 := (ev_if h).trans rfl
theorem ev_yes {c : EB} {a b : S} {ρ ρ1 : Env} (h : c ρ = .ok true ρ1) : sIf c a b ρ = a ρ1 := (ev_if h).trans rfl
theorem ev_set {i : Nat} {m : E} {ρ ρ1 : Env} {d : IV} (h : m ρ = .ok d ρ1) : sSet i m ρ = .nx (ρ1.set i (.fz d)) := by
  unfold sSet
  rw [h]
  rfl
theorem ev_ret {m : E} {ρ ρ1 : Env} {d : IV} (h : m ρ = .ok d ρ1) : sRet m ρ = .rt d ρ1 := by
  unfold sRet
  rw [h]
  rfl
theorem ev_and {A B : EB} {ρ ρ1 : Env} (h : A ρ = .ok true ρ1) : iAndT A B ρ = B ρ1 := by
  unfold iAndT
  rw [h]
  rfl
theorem ev_or {A B : EB} {ρ ρ1 : Env} (h : A ρ = .ok false ρ1) : iOrT A B ρ = B ρ1 := by
  unfold iOrT
  rw [h]
  rfl
theorem all_true (l : List IV) : fAll [.lst (l.map fun _ => .bl true)] = some (.bl true) := by
  have h : ∃ bs, blsOf (l.map fun _ => IV.bl true) = some bs ∧ bs.all id = true := by
    induction l with
    | nil => exact ⟨[], rfl, rfl⟩
    | cons x l ih =>
      obtain ⟨bs, h1, h2⟩ := ih
      refine ⟨true :: bs, ?_, ?_⟩
      · simp only [List.map_cons, blsOf, h1, Option.map]
      · simp only [List.all_cons, h2, id, Bool.and_self]
  obtain ⟨bs, h1, h2⟩ := h
  unfold fAll
  simp only [h1, Option.map, h2]
theorem ev_lc {M : EL} {t : TM} {ts : EB} {el : E} {own : List Nat} {ρ ρ1 ρ2 : Env} {ds xs : List IV} (h : M ρ = .ok ds ρ1) (h2 : lcLoop t ts el own ds ρ1 = .ok xs ρ2) : iLc M t ts el own ρ = .ok (.lst xs) ρ2 := by
  unfold iLc
  rw [h]
  simp only [Rz.bind]
  rw [h2]
end MR
set_option maxRecDepth 100000
set_option maxHeartbeats 4000000
/-! PureB: comparing, plainly. -/
namespace MR
open PySem
mutual
theorem same_eq : ∀ (x y : IV), same x y = true → x = y
  | .non, y, h => by cases y <;> first | rfl | simp [same] at h
  | .bl a, y, h => by cases y <;> first | (simp [same] at h; rw [h]) | simp [same] at h
  | .int a, y, h => by cases y <;> first | (simp [same] at h; rw [h]) | simp [same] at h
  | .str a, y, h => by cases y <;> first | (simp [same] at h; rw [h]) | simp [same] at h
  | .ty a, y, h => by cases y <;> simp [same] at h
  | .cl a, y, h => by cases y <;> simp [same] at h
  | .scr a, y, h => by cases y <;> simp [same] at h
  | .dic a, y, h => by cases y <;> simp [same] at h
  | .drw _ _ _ _, y, h => by cases y <;> simp [same] at h
  | .tup xs, y, h => by
    cases y with
    | tup ys => rw [sameA_eq xs ys (by simpa only [same] using h)]
    | _ => simp [same] at h
  | .lst xs, y, h => by
    cases y with
    | lst ys => rw [sameA_eq xs ys (by simpa only [same] using h)]
    | _ => simp [same] at h
  | .ins c f, y, h => by
    cases y with
    | ins c' f' =>
      simp only [same, Bool.and_eq_true] at h
      rw [sameP_eq f f' h.2, eq_of_beq h.1]
    | _ => simp [same] at h
theorem sameA_eq : ∀ (x y : List IV), sameA x y = true → x = y
  | [], [], _ => rfl
  | [], _ :: _, h => by simp [sameA] at h
  | _ :: _, [], h => by simp [sameA] at h
  | x :: xs, y :: ys, h => by
    simp only [sameA, Bool.and_eq_true] at h
    rw [same_eq x y h.1, sameA_eq xs ys h.2]
theorem sameP_eq : ∀ (x y : List (Str × IV)), sameP x y = true → x = y
  | [], [], _ => rfl
  | [], _ :: _, h => by simp [sameP] at h
  | _ :: _, [], h => by simp [sameP] at h
  | (k, x) :: xs, (k', y) :: ys, h => by
    simp only [sameP, Bool.and_eq_true] at h
    rw [same_eq x y h.1.2, sameP_eq xs ys h.2, eq_of_beq h.1.1]
end
theorem shp_lay {x : IV} (h : shp x = true) : (pd x).canLay0 = true := by
  simp only [shp, SeqAt.shaped, Bool.and_eq_true] at h
  exact h.2.1
theorem oEq_refl {x : IV} (h : shp x = true) : oEq x x = some (.bl true) := by
  unfold oEq
  rw [if_pos (by rw [h]; rfl), SeqAt.eqv_refl _ (shp_lay h)]
theorem oNe_refl {x : IV} (h : shp x = true) : oNe x x = some (.bl false) := by
  unfold oNe
  rw [if_pos (by rw [h]; rfl), SeqAt.eqv_refl _ (shp_lay h)]
  rfl
theorem oEq_some {x y : IV} (h : shp x = true) (h' : shp y = true) : ∃ b, oEq x y = some (.bl b) ∧ oNe x y = some (.bl !b) ∧ (b = false → x ≠ y) := by
  refine ⟨PyData.eqv (pd x) (pd y), ?_, ?_, fun hb e => ?_⟩
  · unfold oEq; rw [if_pos (by rw [h, h']; rfl)]
  · unfold oNe; rw [if_pos (by rw [h, h']; rfl)]
  · subst e
    rw [SeqAt.eqv_refl _ (shp_lay h)] at hb
    cases hb
/-- a tuple of plain, flat things has a shape -/
theorem shp_tup {n : Nat} (hn : n < 64) : ∀ {xs : List IV}, (∀ x ∈ xs, pln x = true ∧ (pd x).canLay0 = true ∧ (pd x).depth ≤ n) → shp (.tup xs) = true := by
  have main : ∀ xs : List IV, (∀ x ∈ xs, pln x = true ∧ (pd x).canLay0 = true ∧ (pd x).depth ≤ n) → plnA xs = true ∧ PyData.canLayAll0 (pdA xs) = true ∧ PyData.depthAll (pdA xs) ≤ n := by
    intro xs
    induction xs with
    | nil => intro _; exact ⟨rfl, rfl, Nat.zero_le _⟩
    | cons x xs ih =>
      intro h
      obtain ⟨a, b, c⟩ := ih fun y hy => h y (List.mem_cons_of_mem _ hy)
      obtain ⟨a', b', c'⟩ := h x List.mem_cons_self
      refine ⟨by simp only [plnA, a, a', Bool.and_self], by simp only [pdA, PyData.canLayAll0, b, b', Bool.and_self], ?_⟩
      simp only [pdA, PyData.depthAll]
      omega
  intro xs h
  obtain ⟨a, b, c⟩ := main xs h
  unfold shp
  rw [Bool.and_eq_true]
  refine ⟨by simpa only [pln] using a, ?_⟩
  unfold PySem.SeqAt.shaped
  rw [Bool.and_eq_true, decide_eq_true_eq]
  refine ⟨by simpa only [pd, PyData.canLay0] using b, ?_⟩
  simp only [pd, PyData.depth]
  omega
end MR
set_option maxRecDepth 100000
set_option maxHeartbeats 4000000
/-! PureC: plain lemmas about calls, arguments, comprehensions over one slot, sets that are sorted. -/
namespace MR
open PySem
/-! arguments -/
theorem ev_v {i : Nat} {ρ : Env} {d : IV} (h : ρ[i]? = some (.fz d)) : iVar i ρ = .ok d ρ := by
  unfold iVar
  rw [h]
theorem ev_c (d : IV) (ρ : Env) : iC d ρ = .ok d ρ := rfl
theorem ev_jc {A : E} {B : EAv} {ρ ρ1 ρ2 : Env} {x : IV} {xs : List Av} (hA : A ρ = .ok x ρ1) (hB : B ρ1 = .ok xs ρ2) : jCons A B ρ = .ok (.v x :: xs) ρ2 := by
  unfold jCons
  rw [hA]
  simp only [Rz.bind]
  rw [hB]
theorem ev_j1 {A : E} {ρ ρ1 : Env} {x : IV} (hA : A ρ = .ok x ρ1) : jCons A jNil ρ = .ok [.v x] ρ1 := ev_jc hA rfl
theorem ev_ic {A : E} {B : EA} {ρ ρ1 ρ2 : Env} {x : IV} {xs : List IV} (hA : A ρ = .ok x ρ1) (hB : B ρ1 = .ok xs ρ2) : iCons A B ρ = .ok (x :: xs) ρ2 := by
  unfold iCons
  rw [hA]
  simp only [Rz.bind]
  rw [hB]
theorem ev_star {A : E} {B : EA} {ρ ρ1 ρ2 : Env} {x : IV} {xs ys : List IV} (hA : A ρ = .ok x ρ1) (hx : x = .lst xs ∨ x = .tup xs) (hB : B ρ1 = .ok ys ρ2) : iStar A B ρ = .ok (xs ++ ys) ρ2 := by
  unfold iStar
  rw [hA]
  simp only [Rz.bind]
  rcases hx with rfl | rfl <;> simp only [hB]
theorem ev_cj {f : List IV → Option IV} {J : EAv} {ρ ρ1 : Env} {as : List Av} {ds : List IV} {y : IV} (hJ : J ρ = .ok as ρ1) (hr : rsA as ρ1 = some ds) (hf : f ds = some y) : iCallJ f J ρ = .ok y ρ1 := by
  unfold iCallJ
  rw [hJ]
  simp only [Rz.bind]
  rw [hr]
  simp only [Option.bind, hf, ofO]
theorem ev_cj1 {f : List IV → Option IV} {A : E} {ρ ρ1 : Env} {x y : IV} (hA : A ρ = .ok x ρ1) (hf : f [x] = some y) : iCallJ f (jCons A jNil) ρ = .ok y ρ1 := ev_cj (ev_j1 hA) rfl hf
theorem ev_lst {A : EA} {ρ ρ1 : Env} {xs : List IV} (hA : A ρ = .ok xs ρ1) (hl : xs.length ≤ 1000) : iLst A ρ = .ok (.lst xs) ρ1 := by
  unfold iLst
  rw [hA]
  simp only [Rz.bind]
  rw [if_pos hl]
theorem ev_tup {A : EA} {ρ ρ1 : Env} {xs : List IV} (hA : A ρ = .ok xs ρ1) (hl : xs.length ≤ 1000) : iTup A ρ = .ok (.tup xs) ρ1 := by
  unfold iTup
  rw [hA]
  simp only [Rz.bind]
  rw [if_pos hl]
/-! calls of own defs by values -/
theorem gather_v (ρ : Env) : ∀ (ds : List IV), gather (ds.map fun _ => false) (ds.map Av.v) ρ = some ds
  | [] => rfl
  | d :: ds => by
    rw [List.map_cons, List.map_cons, gather, gather_v ρ ds]
    rfl
theorem scatter_v (ρ : Env) : ∀ (ds : List IV), scatter (ds.map fun _ => false) (ds.map Av.v) [] ρ = some ρ
  | [] => rfl
  | d :: ds => by
    rw [List.map_cons, List.map_cons, scatter, scatter_v ρ ds]
theorem slots_v : ∀ (ds : List IV), slots (ds.map Av.v) = []
  | [] => rfl
  | d :: ds => by
    rw [List.map_cons, slots, slots_v ds]
theorem ev_cf {ks : List Bool} {fn : Fn} {J : EAv} {ρ ρ1 : Env} {ds : List IV} {y : IV} (hJ : J ρ = .ok (ds.map Av.v) ρ1) (hk : ks = ds.map fun _ => false) (hf : fn ds = .ok y []) : iCallF ks fn J ρ = .ok y ρ1 := by
  unfold iCallF
  rw [hJ]
  simp only [Rz.bind]
  subst hk
  unfold callF
  rw [gather_v]
  simp only [slots_v, List.nodup_nil, if_true, hf, scatter_v]
theorem ev_seqE {A : E} {ρ ρ1 : Env} {x : IV} {xs : List IV} (hA : A ρ = .ok x ρ1) (hx : x = .lst xs ∨ x = .tup xs) : iSeq A ρ = .ok xs ρ1 := by
  unfold iSeq
  rw [hA]
  rcases hx with rfl | rfl <;> rfl
theorem ev_for {M : EL} {t : TM} {body : S} {ρ ρ1 : Env} {xs : List IV} (h : M ρ = .ok xs ρ1) : sFor M t body ρ = forLoop t body xs ρ1 := by
  unfold sFor
  rw [h]
  rfl
theorem ev_on {f : List IV → Option (List IV)} {A : EA} {ρ ρ1 : Env} {ds xs : List IV} (hA : A ρ = .ok ds ρ1) (hf : f ds = some xs) : iOn f A ρ = .ok xs ρ1 := by
  unfold iOn
  rw [hA]
  simp only [Rz.bind]
  rw [hf]
  rfl
theorem ev_asg {t : TM} {m : E} {ρ ρ1 ρ2 : Env} {d : IV} (h : m ρ = .ok d ρ1) (ht : t d ρ1 = some ρ2) : sAsg t m ρ = .nx ρ2 := by
  unfold sAsg
  rw [h]
  simp only [Rz.bindS]
  rw [ht]
theorem ev_seto {i : Nat} {m : E} {ρ ρ1 : Env} {d : IV} (h : m ρ = .ok d ρ1) : sSetO i m ρ = .nx (ρ1.set i (.ow d)) := by
  unfold sSetO
  rw [h]
  rfl
theorem ev_par2 {i j : Nat} {ka kb : Bool} {A B : E} {ρ ρ1 ρ2 : Env} {a b : IV} (hA : A ρ = .ok a ρ1) (hB : B ρ1 = .ok b ρ2) : sPar2 i ka A j kb B ρ = .nx ((ρ2.set i (slK ka a)).set j (slK kb b)) := by
  unfold sPar2
  rw [hA]
  simp only [Rz.bindS]
  rw [hB]
theorem ev_par3 {i j l : Nat} {ka kb kc : Bool} {A B C : E} {ρ ρ1 ρ2 ρ3 : Env} {a b c : IV} (hA : A ρ = .ok a ρ1) (hB : B ρ1 = .ok b ρ2) (hC : C ρ2 = .ok c ρ3) : sPar3 i ka A j kb B l kc C ρ = .nx (((ρ3.set i (slK ka a)).set j (slK kb b)).set l (slK kc c)) := by
  unfold sPar3
  rw [hA]
  simp only [Rz.bindS]
  rw [hB]
  simp only
  rw [hC]
theorem ev_drop {m : E} {ρ ρ1 : Env} {d : IV} (h : m ρ = .ok d ρ1) : sDrop m ρ = .nx ρ1 := by
  unfold sDrop
  rw [h]
  rfl
theorem ev_iff {c : EB} {A B : E} {ρ ρ1 : Env} {k : Bool} (h : c ρ = .ok k ρ1) : iIf c A B ρ = if k = true then A ρ1 else B ρ1 := by
  unfold iIf
  rw [h]
  rfl
theorem ev_test {A : E} {ρ ρ1 : Env} {x : IV} {b : Bool} (h : A ρ = .ok x ρ1) (ht : tru x = some b) : iTest A ρ = .ok b ρ1 := by
  unfold iTest
  rw [h]
  simp only [Rz.bind]
  rw [ht]
  rfl
theorem ev_mk {c : String} {fn : Fn} {dds ds : List IV} {A : EA} {ρ ρ1 : Env} {v : IV} (hA : A ρ = .ok ds ρ1) (hm : mkF c fn (ds ++ dds) ρ1 = .ok v ρ1) : iMake c fn dds A ρ = .ok v ρ1 := by
  unfold iMake
  rw [hA]
  exact hm
/-! loops that keep a fact about the slots -/
theorem for_W {W : Env → Prop} {i : Nat} {body : S} : ∀ {ds : List IV}, (∀ d ∈ ds, ∀ ρ, W ρ → ∃ ρ', (body (ρ.set i (.fz d)) = .nx ρ' ∨ body (ρ.set i (.fz d)) = .ct ρ') ∧ W ρ') → ∀ ρ, W ρ → ∃ ρ', forLoop (tgN i) body ds ρ = .nx ρ' ∧ W ρ'
  | [], _, ρ, h => ⟨ρ, rfl, h⟩
  | d :: ds, hs, ρ, h => by
    obtain ⟨ρ1, e1, h1⟩ := hs d List.mem_cons_self ρ h
    obtain ⟨ρ2, e2, h2⟩ := for_W (fun x hx => hs x (List.mem_cons_of_mem _ hx)) ρ1 h1
    refine ⟨ρ2, ?_, h2⟩
    rcases e1 with e1 | e1 <;> simp only [forLoop, tgN, e1] <;> exact e2
theorem sfor_W {W : Env → Prop} {i : Nat} {M : EL} {body : S} {ds : List IV} {ρ : Env} (hM : M ρ = .ok ds ρ) (h : W ρ) (hs : ∀ d ∈ ds, ∀ ρ, W ρ → ∃ ρ', (body (ρ.set i (.fz d)) = .nx ρ' ∨ body (ρ.set i (.fz d)) = .ct ρ') ∧ W ρ') : ∃ ρ', sFor M (tgN i) body ρ = .nx ρ' ∧ W ρ' := by
  obtain ⟨ρ', e, h'⟩ := for_W hs ρ h
  exact ⟨ρ', (ev_for hM).trans e, h'⟩
theorem law_fin {n : Nat} {b : S} {s v : IV} {x : Sl} {ρ : Env} (h : b (.fz s :: List.replicate n .un) = .rt v (x :: ρ)) : fnOf (n + 1) [false] b [s] = .ok v [] := by
  have e : fnOf (n + 1) [false] b [s] = (match b (.fz s :: List.replicate n .un) with
    | .rt d ρ => (match outsOf [false] ρ with
      | some outs => .ok d outs
      | none => .no)
    | .nx ρ => (match outsOf [false] ρ with
      | some outs => .ok .non outs
      | none => .no)
    | .ex c p ρ => (match outsOf [false] ρ with
      | some outs => .ex c p outs
      | none => .no)
    | _ => .no) := rfl
  rw [e, h]
  rfl
theorem fn_rt2 {n : Nat} {body : S} {d1 d2 v : IV} {y1 y2 : Sl} {tl : Env} (h : body (.fz d1 :: .fz d2 :: List.replicate n .un) = .rt v (y1 :: y2 :: tl)) : fnOf (n + 2) [false, false] body [d1, d2] = .ok v [] := by
  have e : fnOf (n + 2) [false, false] body [d1, d2] = (match body (.fz d1 :: .fz d2 :: List.replicate n .un) with
    | .rt d ρ => (match outsOf [false, false] ρ with
      | some outs => .ok d outs
      | none => .no)
    | .nx ρ => (match outsOf [false, false] ρ with
      | some outs => .ok .non outs
      | none => .no)
    | .ex c p ρ => (match outsOf [false, false] ρ with
      | some outs => .ex c p outs
      | none => .no)
    | _ => .no) := rfl
  rw [e, h]
  rfl
/-! comprehensions over one slot -/
theorem set_self {ρ : Env} {k : Nat} {x : Sl} (h : ρ[k]? = some x) : ρ.set k x = ρ := by
  apply List.ext_getElem?
  intro i
  by_cases e : i = k
  · subst e
    rw [h]
    have := (List.getElem?_eq_some_iff.mp h).1
    rw [List.getElem?_set_self this]
  · rw [List.getElem?_set_ne (Ne.symm e)]
theorem lc_map1 {k : Nat} {el : E} {ρ : Env} (g : IV → IV) (hk : ρ[k]? = some (keepF ρ k)) {ds : List IV} (h : ∀ d ∈ ds, el (ρ.set k (.fz d)) = .ok (g d) (ρ.set k (.fz d))) : lcLoop (tgN k) iYes el [k] ds ρ = .ok (ds.map g) ρ := by
  refine lc_map g fun d hd => ⟨ρ.set k (.fz d), ρ.set k (.fz d), ρ.set k (.fz d), ?_, rfl, h d hd, ?_⟩
  · simp only [wipeE, tgN, List.set_set]
  · simp only [restE, List.set_set]
    exact set_self hk
theorem lc_filt1 {k : Nat} {ts : EB} {el : E} {ρ : Env} (p : IV → Bool) (g : IV → IV) (hk : ρ[k]? = some (keepF ρ k)) {ds : List IV} (h : ∀ d ∈ ds, ts (ρ.set k (.fz d)) = .ok (p d) (ρ.set k (.fz d)) ∧ (p d = true → el (ρ.set k (.fz d)) = .ok (g d) (ρ.set k (.fz d)))) :
    lcLoop (tgN k) ts el [k] ds ρ = .ok ((ds.filter p).map g) ρ := by
  refine lc_filter p g fun d hd => ⟨ρ.set k (.fz d), ρ.set k (.fz d), ?_, (h d hd).1, fun _ => ?_, fun hp => ⟨ρ.set k (.fz d), (h d hd).2 hp, ?_⟩⟩
  · simp only [wipeE, tgN, List.set_set]
  · simp only [restE, List.set_set]
    exact set_self hk
  · simp only [restE, List.set_set]
    exact set_self hk
/-- two clauses -/
theorem lc2_map {t t1 : TM} {ts ts1 : EB} {M1 : EL} {el : E} {own own1 : List Nat} {ρ : Env} (g : IV → List IV) : ∀ {ds : List IV}, (∀ d ∈ ds, ∃ ρa ρb ρc ρd es, t d (wipeE ρ own) = some ρa ∧ ts ρa = .ok true ρb ∧ M1 ρb = .ok es ρc ∧ lcLoop t1 ts1 el own1 es ρc = .ok (g d) ρd ∧ restE ρ ρd own = ρ) →
    lc2Loop t ts M1 t1 ts1 el own own1 ds ρ = some (ds.flatMap g, ρ)
  | [], _ => rfl
  | d :: ds, h => by
    obtain ⟨ρa, ρb, ρc, ρd, es, h1, h2, h3, h4, h5⟩ := h d List.mem_cons_self
    simp only [lc2Loop, h1, h2, h3, h4, h5]
    rw [lc2_map g fun x hx => h x (List.mem_cons_of_mem _ hx)]
    rfl
theorem lc2_mem {t t1 : TM} {ts ts1 : EB} {M1 : EL} {el : E} {own own1 : List Nat} {ρ : Env} (k : Nat) (Q : IV → IV → Prop) : ∀ {ds : List IV}, (∀ d ∈ ds, ∃ ρa ρb ρc ρd es ys, t d (wipeE ρ own) = some ρa ∧ ts ρa = .ok true ρb ∧ M1 ρb = .ok es ρc ∧ lcLoop t1 ts1 el own1 es ρc = .ok ys ρd ∧ restE ρ ρd own = ρ ∧ (∀ x, x ∈ ys ↔ Q d x) ∧ ys.length ≤ k) →
    ∃ zs, lc2Loop t ts M1 t1 ts1 el own own1 ds ρ = some (zs, ρ) ∧ (∀ x, x ∈ zs ↔ ∃ d ∈ ds, Q d x) ∧ zs.length ≤ ds.length * k
  | [], _ => ⟨[], rfl, fun x => by simp, by simp⟩
  | d :: ds, h => by
    obtain ⟨ρa, ρb, ρc, ρd, es, ys, h1, h2, h3, h4, h5, h6, h7⟩ := h d List.mem_cons_self
    obtain ⟨zs, e1, e2, e3⟩ := lc2_mem k Q fun x hx => h x (List.mem_cons_of_mem _ hx)
    refine ⟨ys ++ zs, ?_, fun x => ?_, ?_⟩
    · simp only [lc2Loop, h1, h2, h3, h4, h5]
      rw [e1]
      rfl
    · rw [List.mem_append, h6 x, e2 x]
      simp only [List.mem_cons, exists_eq_or_imp]
    · rw [List.length_append, List.length_cons, Nat.succ_mul]
      omega
theorem ev_lc2 {M : EL} {t t1 : TM} {ts ts1 : EB} {M1 : EL} {el : E} {own own1 : List Nat} {ρ ρ1 ρ2 : Env} {ds xs : List IV} (h : M ρ = .ok ds ρ1) (h2 : lc2Loop t ts M1 t1 ts1 el own own1 ds ρ1 = some (xs, ρ2)) (hl : xs.length ≤ big) : iLc2 M t ts M1 t1 ts1 el own own1 ρ = .ok (.lst xs) ρ2 := by
  unfold iLc2
  rw [h]
  simp only [Rz.bind]
  rw [h2]
  simp only [hl, if_true]
/-! sets that are sorted -/
theorem ints_map (l : List Int) : intsOf (l.map .int) = some l := by
  induction l with
  | nil => rfl
  | cons x l ih => rw [List.map_cons, intsOf, ih]; rfl
theorem ev_sort {M : EL} {ρ ρ1 : Env} {ds xs : List IV} (h : M ρ = .ok ds ρ1) (hs : srtS ds = some xs) : iSort M ρ = .ok (.lst xs) ρ1 := by
  unfold iSort
  rw [h]
  simp only [Rz.bind]
  rw [hs]
theorem ev_setc {J : EAv} {ρ ρ1 : Env} {as : List Av} {ds xs : List IV} (hJ : J ρ = .ok as ρ1) (hr : rsA as ρ1 = some ds) (hf : fSet ds = some xs) : iSetC J ρ = .ok xs ρ1 := by
  unfold iSetC
  rw [hJ]
  simp only [Rz.bind]
  rw [hr]
  simp only [Option.bind, hf, ofO]
theorem srt_ints {l : List Int} (hl : l.length < 64) : srtS (l.map .int) = some ((srtI l).map .int) := by
  simp only [srtS, ints_map, hl, if_true]
theorem fset_ints {l : List Int} (hl : l.length < 64) : fSet [.lst (l.map .int)] = some (l.map .int) := by
  simp only [fSet, ints_map, hl, if_true]
theorem okO_noint {d : IV} (h : okO d = true) : ∀ i, d ≠ .int i := by
  rintro i rfl
  simp [okO, kOf, outK, oK, NestedKey.beq] at h
theorem srt_outs {ds : List IV} (h : ds.all okO = true) : srtS ds = some (srtO ds) := by
  unfold srtS
  cases e : intsOf ds with
  | some ns =>
    have := intsOf_okO e h
    subst this
    cases e
    rfl
  | none => dsimp only; rw [if_pos h]
theorem fset_outs {ds : List IV} (h : ds.all okO = true) : fSet [.lst ds] = some ds := by
  cases e : intsOf ds with
  | some ns =>
    have := intsOf_okO e h
    subst this
    rfl
  | none => simp only [fSet, e, h, if_true]
/-- sorted outcomes hang on the members alone -/
theorem srtO_congr {A B : List IV} (h : ∀ x, x ∈ A ↔ x ∈ B) : srtO A = srtO B := by
  unfold srtO
  congr 1
  funext o
  rw [Bool.eq_iff_iff, List.any_eq_true, List.any_eq_true]
  exact ⟨fun ⟨d, h1, h2⟩ => ⟨d, (h d).mp h1, h2⟩, fun ⟨d, h1, h2⟩ => ⟨d, (h d).mpr h1, h2⟩⟩
theorem mem_srtO {A : List IV} (hA : A.all okO = true) {x : IV} : x ∈ srtO A ↔ x ∈ A := by
  unfold srtO
  rw [List.mem_filter, List.any_eq_true]
  have key : ∀ d o, d ∈ A → o ∈ outI → sameK d o = true → d = o := by
    intro d o hd ho hs
    unfold sameK at hs
    obtain ⟨k, e1, _⟩ := okO_key (List.all_eq_true.mp hA d hd)
    rw [e1] at hs
    cases e2 : kOf o with
    | none => rw [e2] at hs; cases hs
    | some l =>
      rw [e2] at hs
      exact kOf_inj d o k e1 (by rw [e2, NestedKey.eq_of_beq k l hs])
  constructor
  · rintro ⟨h1, d, h2, h3⟩
    rw [← key d x h2 h1 h3]
    exact h2
  · intro h
    obtain ⟨k, e1, e2⟩ := okO_key (List.all_eq_true.mp hA x h)
    have : some k ∈ outI.map kOf := by rw [out_keys]; exact List.mem_map_of_mem e2
    obtain ⟨o, h1, h2⟩ := List.mem_map.mp this
    have hxo : x = o := kOf_inj x o k e1 h2
    subst hxo
    refine ⟨h1, x, h, ?_⟩
    unfold sameK
    rw [e1]
    exact NestedKey.beq_self k
end MR
set_option maxRecDepth 100000
set_option maxHeartbeats 4000000
/-! PureR: repr of tuples and lists, plainly. -/
namespace MR
open PySem PySem.PyData
theorem sok_app {a b : PySem.Str} (ha : strOk a = true) (hb : strOk b = true) : strOk (a ++ b) = true := by
  have e : (a ++ b).cps = a.cps ++ b.cps := rfl
  unfold strOk at ha hb ⊢
  rw [e, Array.all_append, ha, hb]
  rfl
theorem sok_join {sep : PySem.Str} (hs : strOk sep = true) : ∀ ts : List PySem.Str, (∀ t ∈ ts, strOk t = true) → strOk (Str.join sep ts) = true
  | [], _ => by unfold Str.join; kernel_rfl
  | [x], h => h x List.mem_cons_self
  | x :: y :: r, h => by
    show strOk (x ++ sep ++ Str.join sep (y :: r)) = true
    exact sok_app (sok_app (h x List.mem_cons_self) hs) (sok_join hs (y :: r) fun t ht => h t (List.mem_cons_of_mem _ ht))
theorem slen_app (a b : PySem.Str) : (a ++ b).length = a.length + b.length := strLen_append a b
/-- can be shown: at most so long, at most so deep -/
structure Rok (L D : Nat) (x : IV) : Prop where
  pl : pln x = true
  sh : (pd x).showable = true
  nd : (pd x).hasDict = false
  ln : (pd x).shown.length ≤ L
  dp : (pd x).depth ≤ D
  ok : strOk (pd x).shown = true
theorem Rok.mono {L L' D D' : Nat} {x : IV} (h : Rok L D x) (hl : L ≤ L') (hd : D ≤ D') : Rok L' D' x := ⟨h.pl, h.sh, h.nd, Nat.le_trans h.ln hl, Nat.le_trans h.dp hd, h.ok⟩
def rokB (L D : Nat) (x : IV) : Bool := pln x && ((pd x).showable && (!(pd x).hasDict && (decide ((pd x).shown.length ≤ L) && (decide ((pd x).depth ≤ D) && strOk (pd x).shown))))
theorem Rok.of {L D : Nat} {x : IV} (h : rokB L D x = true) : Rok L D x := by
  simp only [rokB, Bool.and_eq_true, decide_eq_true_eq, Bool.not_eq_true'] at h
  exact ⟨h.1, h.2.1, h.2.2.1, h.2.2.2.1, h.2.2.2.2.1, h.2.2.2.2.2⟩
structure RokA (L D : Nat) (xs : List IV) : Prop where
  pl : plnA xs = true
  sh : showableAll (pdA xs) = true
  nd : hasDictAll (pdA xs) = false
  ln : piled (shownAll (pdA xs)) ≤ xs.length * (L + 2)
  dp : depthAll (pdA xs) ≤ D
  ok : ∀ t ∈ shownAll (pdA xs), strOk t = true
  nn : (shownAll (pdA xs)).length = xs.length
theorem RokA.of {L D : Nat} : ∀ {xs : List IV}, (∀ x ∈ xs, Rok L D x) → RokA L D xs
  | [], _ => ⟨rfl, rfl, rfl, by simp [pdA, shownAll, piled], Nat.zero_le _, fun t h => by simp [pdA, shownAll] at h, rfl⟩
  | x :: xs, h => by
    have a := h x List.mem_cons_self
    have b := RokA.of fun y hy => h y (List.mem_cons_of_mem _ hy)
    refine ⟨by simp [plnA, a.pl, b.pl], by simp [pdA, showableAll, a.sh, b.sh], by simp [pdA, hasDictAll, a.nd, b.nd], ?_, ?_, ?_, ?_⟩
    · have := a.ln
      have := b.ln
      simp only [pdA, shownAll, piled_cons, List.length_cons, Nat.succ_mul]
      omega
    · simp only [pdA, depthAll]
      exact Nat.max_le.mpr ⟨a.dp, b.dp⟩
    · intro t ht
      simp only [pdA, shownAll, List.mem_cons] at ht
      rcases ht with e | e
      · rw [e]; exact a.ok
      · exact b.ok t e
    · simp only [pdA, shownAll, List.length_cons, b.nn]
theorem join_len_le (ts : List PySem.Str) : (Str.join ", " ts).length ≤ piled ts := by
  cases ts with
  | nil => exact Nat.le_refl _
  | cons x l => have := join_length_add (x :: l) (by simp); omega
theorem Rok.tup {L D n : Nat} {xs : List IV} (h : ∀ x ∈ xs, Rok L D x) (hn : xs.length ≤ n) : Rok (n * (L + 2) + 3) (D + 1) (.tup xs) := by
  have a := RokA.of h
  have hm : xs.length * (L + 2) ≤ n * (L + 2) := Nat.mul_le_mul_right _ hn
  refine ⟨by simpa only [pln] using a.pl, by simpa only [pd, showable] using a.sh, by simpa only [pd, hasDict] using a.nd, ?_, ?_, ?_⟩
  · simp only [pd, shown, tupleText]
    rw [slen_app, slen_app]
    have h1 := join_len_le (shownAll (pdA xs))
    have h2 := a.ln
    have e1 : ((("(" : String) : PySem.Str)).length = 1 := rfl
    have e3 : (((if (shownAll (pdA xs)).length == 1 then ",)" else ")" : String) : PySem.Str)).length ≤ 2 := by split <;> decide
    omega
  · simp only [pd, depth]
    have := a.dp
    omega
  · simp only [pd, shown, tupleText]
    refine sok_app (sok_app (by kernel_rfl) (sok_join (by kernel_rfl) _ a.ok)) ?_
    split <;> kernel_rfl
theorem Rok.lst {L D n : Nat} {xs : List IV} (h : ∀ x ∈ xs, Rok L D x) (hn : xs.length ≤ n) : Rok (n * (L + 2) + 3) (D + 1) (.lst xs) := by
  have a := RokA.of h
  have hm : xs.length * (L + 2) ≤ n * (L + 2) := Nat.mul_le_mul_right _ hn
  refine ⟨by simpa only [pln] using a.pl, by simpa only [pd, showable] using a.sh, by simpa only [pd, hasDict] using a.nd, ?_, ?_, ?_⟩
  · simp only [pd, shown, listText_eq_join]
    rw [slen_app, slen_app]
    have h1 := join_len_le (shownAll (pdA xs))
    have h2 := a.ln
    have e1 : ((("[" : String) : PySem.Str)).length = 1 := rfl
    have e3 : ((("]" : String) : PySem.Str)).length = 1 := rfl
    omega
  · simp only [pd, depth]
    have := a.dp
    omega
  · simp only [pd, shown, listText_eq_join]
    exact sok_app (sok_app (by kernel_rfl) (sok_join (by kernel_rfl) _ a.ok)) (by kernel_rfl)
theorem Rok.repr {L D : Nat} {x : IV} (h : Rok L D x) (hl : L ≤ 16777216) (hd : D ≤ 60) : ∃ s, fRepr [x] = some (.str s) ∧ oNe (.str s) (.str s) = some (.bl false) := by
  have hr : rpOk x = true := by
    unfold rpOk
    rw [h.pl, h.sh, h.nd, decide_eq_true (show (pd x).shown.length ≤ sizeLine from by rw [sizeLine_eq]; exact Nat.le_trans h.ln hl), decide_eq_true (Nat.le_trans h.dp hd)]
    rfl
  refine ⟨(pd x).shown, if_pos hr, oNe_refl ?_⟩
  have e : (shp (.str (pd x).shown)) = strOk (pd x).shown := by
    simp [shp, pln, pd, SeqAt.shaped, canLay0, depth]
  rw [e]
  exact h.ok
theorem rok_out : ∀ x ∈ outI, Rok 40 3 x := by
  have h : (outI.all (rokB 40 3)) = true := by decide +kernel
  exact fun x hx => Rok.of (List.all_eq_true.mp h x hx)
theorem rok_srtO (ds : List IV) : Rok 400 4 (.tup (srtO ds)) := by
  have h : ∀ x ∈ srtO ds, Rok 40 3 x := fun x hx => rok_out x (List.mem_filter.mp hx).1
  have hl : (srtO ds).length ≤ 9 := List.length_filter_le _ _
  exact (Rok.tup h hl).mono (by decide) (by decide)
theorem rok_srtL (ds : List IV) : Rok 400 4 (.lst (srtO ds)) := by
  have h : ∀ x ∈ srtO ds, Rok 40 3 x := fun x hx => rok_out x (List.mem_filter.mp hx).1
  have hl : (srtO ds).length ≤ 9 := List.length_filter_le _ _
  exact (Rok.lst h hl).mono (by decide) (by decide)
theorem srtO_repr (ds : List IV) : ∃ s, fRepr [.tup (srtO ds)] = some (.str s) ∧ oNe (.str s) (.str s) = some (.bl false) := (rok_srtO ds).repr (by decide) (by decide)
end MR
set_option maxRecDepth 100000
set_option maxHeartbeats 4000000
namespace MR
open PySem
namespace K41
theorem x_num (i : Int) : fn_is_number [.int i] = .ok (.bl true) [] := rfl
def shares : List IV := [.tup [.int 0, .int 1], .tup [.int 1, .int 3], .tup [.int 1, .int 2], .tup [.int 2, .int 3]]
def tests : List IV := [.tup [.str "more", .tup [.int 0, .int 1]], .tup [.str "more", .tup [.int 1, .int 3]], .tup [.str "more", .tup [.int 1, .int 2]], .tup [.str "more", .tup [.int 2, .int 3]], .tup [.str "most"], .tup [.str "least"], .tup [.str "alone"], .tup [.str "given", .int 0], .tup [.str "given", .int 1]]
def deeds : List IV := [.tup [.str "settle"], .tup [.str "settle", .str "value"], .tup [.str "value"], .tup [.str "mark"]]
/-- a rule that may stand -/
def IsRule (r : IV) : Prop := ∃ t ∈ tests, ∃ d ∈ deeds, r = .tup [t, d]
theorem x_pick {d : IV} (hd : IsDrw d) {xs : List IV} (h0 : xs ≠ []) (h1 : xs.length < 1000) : ∃ x d', x ∈ xs ∧ fn__law_pick [d, .lst xs] = .ok x [d'] ∧ IsDrw d' := by
  have hl : 0 < xs.length := List.length_pos_iff.mpr h0
  obtain ⟨r, d', e, hd', r0, r1⟩ := take_ok hd (n := (xs.length : Int)) (by omega) (by omega)
  have hr : r.toNat < xs.length := by omega
  refine ⟨xs[r.toNat], d', List.getElem_mem _, ?_, hd'⟩
  have ei : L2.atI xs r = some xs[r.toNat] := by
    unfold L2.atI L2.ixN
    rw [if_pos r0, if_pos r1]
    simp [List.getElem?_eq_getElem hr]
  simp [fn__law_pick, b__law_pick, fn__law_take, e, oIt, oIx, seqOf, ei, fLen, fnOf, envOf, List.replicate, sSeq, sSet, sSetO, sIf, sRet, sNx, sNo, sDrop, sAsg, sApp, sSub, sPar2, slK, Rz.bindS, Rz.bind, iVar, iMv, iC, iBin, iCmp, iAnd, iOr, iNot, iAndT, iOrT, iNotT, iTest, iIf, iTup, iLst, iNil, iCons, iCallF, jNil, jCons, jSlot, vE, vS, iSl, pNone, pSome, callF, gather, slots, scatter, iCallJ, rsA, rs, ofO, outsOf, tgN, tgT, tgs]
/-- the comparing of a value with a text -/
theorem eq_str (s t : PySem.Str) (h : (shp (.str s) && shp (.str t)) = true) : oEq (.str s) (.str t) = some (.bl (s == t)) := by
  unfold oEq
  rw [if_pos h]
  rfl
def ldeeds : List IV := [.tup [.str "settle"], .tup [.str "settle", .str "value"], .tup [.str "value"]]
def IsLRule (r : IV) : Prop := ∃ t ∈ tests, ∃ d ∈ ldeeds, r = .tup [t, d]
theorem IsLRule.rule {r : IV} (h : IsLRule r) : IsRule r := by
  obtain ⟨t, ht, d, hd, rfl⟩ := h
  exact ⟨t, ht, d, by simp only [ldeeds, deeds, List.mem_cons, List.not_mem_nil, or_false] at hd ⊢; rcases hd with h | h | h <;> simp [h], rfl⟩
def isSettle : IV → Bool
  | .tup [_, .tup (.str s :: _)] => s == "settle"
  | _ => false
def tailR : S := (sSeq (sIf (iAndT (iCmp oGt (iCallF [true, false] fn__law_take (jSlot 0 (jCons (iC (.int 4)) jNil))) (iC (.int 0))) (iCmp oEq (iLcO 2 (tgT ((tgN 5) :: ((tgN 4) :: []))) (iCmp oEq (iBin oIt (iVar 4) (iC (.int 0))) (iC (.str "settle"))) (iC (.int 1)) [5, 4]) (iLst iNil))) (sSub 2 (iC (.int 0)) (iTup (iCons (iBin oIt (iBinV oIt (vS 2) (vE (iC (.int 0)))) (iC (.int 0))) (iCons (iTup (iCons (iC (.str "settle")) (iCons (iC (.str "value")) iNil))) iNil)))) sNx) (sRet (iMv 2)))
theorem s_ss : oEq (.str "settle") (.str "settle") = some (.bl true) := by kernel_rfl
theorem s_vs : oEq (.str "value") (.str "settle") = some (.bl false) := by kernel_rfl
theorem ld_p {x : IV} (hx : x ∈ ldeeds) : ∃ s l, x = .tup (.str s :: l) ∧ oEq (.str s) (.str "settle") = some (.bl (s == "settle")) := by
  simp only [ldeeds, List.mem_cons, List.not_mem_nil, or_false] at hx
  rcases hx with rfl | rfl | rfl
  · exact ⟨_, _, rfl, by kernel_rfl⟩
  · exact ⟨_, _, rfl, by kernel_rfl⟩
  · exact ⟨_, _, rfl, by kernel_rfl⟩
theorem ints_eq {l : List IV} (h : ∀ x ∈ l, x = .int 1) : ∃ b, oEq (.lst l) (.lst []) = some (.bl b) := by
  have hp : ∀ l : List IV, (∀ x ∈ l, x = .int 1) → plnA l = true ∧ PyData.canLayAll0 (pdA l) = true ∧ PyData.depthAll (pdA l) = 0 := by
    intro l
    induction l with
    | nil => intro _; exact ⟨rfl, rfl, rfl⟩
    | cons x l ih =>
      intro h
      obtain ⟨a, b, c⟩ := ih fun y hy => h y (List.mem_cons_of_mem _ hy)
      have hx := h x List.mem_cons_self
      subst hx
      refine ⟨by simp only [plnA, pln, a, Bool.and_self], by simp only [pdA, pd, PyData.canLayAll0, PyData.canLay0, b, Bool.and_self], ?_⟩
      simp [pdA, pd, PyData.depthAll, PyData.depth, c]
  obtain ⟨a, b, c⟩ := hp l h
  have hs : (shp (.lst l) && shp (.lst [])) = true := by
    have : shp (.lst l) = true := by
      unfold shp
      rw [Bool.and_eq_true]
      refine ⟨by simpa only [pln] using a, ?_⟩
      unfold PySem.SeqAt.shaped
      rw [Bool.and_eq_true, decide_eq_true_eq]
      refine ⟨by simpa only [pd, PyData.canLay0] using b, ?_⟩
      simp [pd, PyData.depth, c]
    rw [this]
    rfl
  unfold oEq
  rw [if_pos hs]
  exact ⟨_, rfl⟩
theorem x_tailR {d x3 : IV} {y3 x4 : Sl} {rl : List IV} (hd : IsDrw d) (h1 : 1 ≤ rl.length) (h3 : rl.length ≤ 3) (hall : ∀ r ∈ rl, IsLRule r) (hx4 : x4 = .un ∨ ∃ v, x4 = .fz v) :
    ∃ rl' d' y tl, tailR [.ow d, .fz x3, .ow (.lst rl), y3, x4, .un] = .rt (.lst rl') (.ow d' :: y :: tl) ∧ IsDrw d' ∧ rl'.length = rl.length ∧ ∀ r ∈ rl', IsLRule r := by
  obtain ⟨q, d3, e3, hd3, q0, q1⟩ := take_ok hd (n := 4) (by decide) (by decide)
  by_cases hq : 0 < q
  · have hlc : lcLoopO 2 (tgT ((tgN 5) :: ((tgN 4) :: []))) (iCmp oEq (iBin oIt (iVar 4) (iC (.int 0))) (iC (.str "settle"))) (iC (.int 1)) [5, 4] rl.length 0 [.ow d3, .fz x3, .ow (.lst rl), y3, x4, .un]
        = .ok (((rl.drop 0).filter isSettle).map fun _ => .int 1) [.ow d3, .fz x3, .ow (.lst rl), y3, x4, .un] := by
      refine lcO_filter isSettle (fun _ => .int 1) rfl (fun r hr => ?_) rl.length 0 (by omega)
      obtain ⟨t, ht, x, hx, rfl⟩ := hall r hr
      obtain ⟨s, l, rfl, es⟩ := ld_p hx
      have ep : isSettle (.tup [t, .tup (.str s :: l)]) = (s == "settle") := rfl
      refine ⟨[.ow d3, .fz x3, .ow (.lst rl), y3, .fz (.tup (.str s :: l)), .fz t], [.ow d3, .fz x3, .ow (.lst rl), y3, .fz (.tup (.str s :: l)), .fz t], ?_, ?_, fun _ => ?_, fun _ => ⟨[.ow d3, .fz x3, .ow (.lst rl), y3, .fz (.tup (.str s :: l)), .fz t], rfl, ?_⟩⟩
      · rfl
      · rw [ep]
        have e0 : oIt (.tup (.str s :: l)) (.int 0) = some (.str s) := by
          simp [oIt, oIx, seqOf, L2.atI, L2.ixN]
        simp [iCmp, iBin, iVar, iC, Rz.bind, ofO, e0, es]
      · rcases hx4 with rfl | ⟨v, rfl⟩ <;> rfl
      · rcases hx4 with rfl | ⟨v, rfl⟩ <;> rfl
    obtain ⟨b, eb⟩ := ints_eq (l := ((rl.drop 0).filter isSettle).map fun _ => .int 1) fun x hx => by
      obtain ⟨_, _, e⟩ := List.mem_map.mp hx
      exact e.symm
    have ea : iCmp oGt (iCallF [true, false] fn__law_take (jSlot 0 (jCons (iC (.int 4)) jNil))) (iC (.int 0)) [.ow d, .fz x3, .ow (.lst rl), y3, x4, .un] = .ok true [.ow d3, .fz x3, .ow (.lst rl), y3, x4, .un] := by
      simp [fn__law_take, e3, oGt, fI, hq, fnOf, envOf, List.replicate, sSeq, sSet, sSetO, sIf, sRet, sNx, sNo, sDrop, sAsg, sApp, sSub, sPar2, slK, Rz.bindS, Rz.bind, iVar, iMv, iC, iBin, iCmp, iAnd, iOr, iNot, iAndT, iOrT, iNotT, iTest, iIf, iTup, iLst, iNil, iCons, iCallF, jNil, jCons, jSlot, vE, vS, iSl, pNone, pSome, callF, gather, slots, scatter, iCallJ, rsA, rs, ofO, outsOf, tgN, tgT, tgs]
    have el : iLcO 2 (tgT ((tgN 5) :: ((tgN 4) :: []))) (iCmp oEq (iBin oIt (iVar 4) (iC (.int 0))) (iC (.str "settle"))) (iC (.int 1)) [5, 4] [.ow d3, .fz x3, .ow (.lst rl), y3, x4, .un]
        = .ok (.lst (((rl.drop 0).filter isSettle).map fun _ => .int 1)) [.ow d3, .fz x3, .ow (.lst rl), y3, x4, .un] := by
      unfold iLcO
      rw [show isOwL [Sl.ow d3, Sl.fz x3, Sl.ow (IV.lst rl), y3, x4, Sl.un][2]? = true from rfl, if_pos rfl]
      show Rz.bind (lcLoopO 2 _ _ _ _ rl.length 0 _) _ = _
      rw [hlc]
      rfl
    have ec : iCmp oEq (iLcO 2 (tgT ((tgN 5) :: ((tgN 4) :: []))) (iCmp oEq (iBin oIt (iVar 4) (iC (.int 0))) (iC (.str "settle"))) (iC (.int 1)) [5, 4]) (iLst iNil) [.ow d3, .fz x3, .ow (.lst rl), y3, x4, .un] = .ok b [.ow d3, .fz x3, .ow (.lst rl), y3, x4, .un] := by
      exact ev_cmp el rfl eb
    have ed : iAndT (iCmp oGt (iCallF [true, false] fn__law_take (jSlot 0 (jCons (iC (.int 4)) jNil))) (iC (.int 0))) (iCmp oEq (iLcO 2 (tgT ((tgN 5) :: ((tgN 4) :: []))) (iCmp oEq (iBin oIt (iVar 4) (iC (.int 0))) (iC (.str "settle"))) (iC (.int 1)) [5, 4]) (iLst iNil)) [.ow d, .fz x3, .ow (.lst rl), y3, x4, .un] = .ok b [.ow d3, .fz x3, .ow (.lst rl), y3, x4, .un] := by
      exact (ev_and ea).trans ec
    obtain ⟨r0, rt, rfl⟩ : ∃ r0 rt, rl = r0 :: rt := by
      cases rl with
      | nil => simp at h1
      | cons a b => exact ⟨a, b, rfl⟩
    obtain ⟨t, ht, x, hx, rfl⟩ := hall r0 List.mem_cons_self
    cases b with
    | false =>
      refine ⟨_, d3, .fz x3, [.fz (.lst (.tup [t, x] :: rt)), y3, x4, .un], ?_, hd3, rfl, hall⟩
      unfold tailR sSeq sIf
      rw [ed]
      rfl
    | true =>
      refine ⟨.tup [t, .tup [.str "settle", .str "value"]] :: rt, d3, .fz x3, [.fz (.lst (.tup [t, .tup [.str "settle", .str "value"]] :: rt)), y3, x4, .un], ?_, hd3, rfl, fun r hr => ?_⟩
      · unfold tailR sSeq sIf
        rw [ed]
        have ee : sSub 2 (iC (.int 0)) (iTup (iCons (iBin oIt (iBinV oIt (vS 2) (vE (iC (.int 0)))) (iC (.int 0))) (iCons (iTup (iCons (iC (.str "settle")) (iCons (iC (.str "value")) iNil))) iNil))) [.ow d3, .fz x3, .ow (.lst (.tup [t, x] :: rt)), y3, x4, .un]
            = .nx [.ow d3, .fz x3, .ow (.lst (.tup [t, .tup [.str "settle", .str "value"]] :: rt)), y3, x4, .un] := by
          have i0 : oIt (.lst (.tup [t, x] :: rt)) (.int 0) = some (.tup [t, x]) := by
            have hz : (0 : Int) < ((IV.tup [t, x] :: rt).length : Int) := by rw [List.length_cons]; omega
            show L2.atI _ _ = _
            unfold L2.atI L2.ixN
            rw [if_pos (Int.le_refl _), if_pos hz]
            rfl
          have i1 : oIt (.tup [t, x]) (.int 0) = some t := rfl
          have i2 : stI (.lst (.tup [t, x] :: rt)) (.int 0) (.tup [t, .tup [.str "settle", .str "value"]]) = some (.lst (.tup [t, .tup [.str "settle", .str "value"]] :: rt)) := by
            have hz : (0 : Int) < ((IV.tup [t, x] :: rt).length : Int) := by rw [List.length_cons]; omega
            show (L2.ixN _ _).map _ = _
            unfold L2.ixN
            rw [if_pos (Int.le_refl _), if_pos hz]
            rfl
          simp [isOw, vS, vE, iBinV, rs2, canFz, i0, i1, i2, fnOf, envOf, List.replicate, sSeq, sSet, sSetO, sIf, sRet, sNx, sNo, sDrop, sAsg, sApp, sSub, sPar2, slK, Rz.bindS, Rz.bind, iVar, iMv, iC, iBin, iCmp, iAnd, iOr, iNot, iAndT, iOrT, iNotT, iTest, iIf, iTup, iLst, iNil, iCons, iCallF, jNil, jCons, jSlot, vE, vS, iSl, pNone, pSome, callF, gather, slots, scatter, iCallJ, rsA, rs, ofO, outsOf, tgN, tgT, tgs]
        simp only [Rz.bindS, if_true]
        rw [ee]
        rfl
      · rcases List.mem_cons.mp hr with h | h
        · exact ⟨t, ht, _, by simp [ldeeds], h⟩
        · exact hall r (List.mem_cons_of_mem _ h)
  · refine ⟨rl, d3, .fz x3, [.fz (.lst rl), y3, x4, .un], ?_, hd3, rfl, hall⟩
    simp [tailR, fn__law_take, e3, oGt, fI, hq, canFz, fnOf, envOf, List.replicate, sSeq, sSet, sSetO, sIf, sRet, sNx, sNo, sDrop, sAsg, sApp, sSub, sPar2, slK, Rz.bindS, Rz.bind, iVar, iMv, iC, iBin, iCmp, iAnd, iOr, iNot, iAndT, iOrT, iNotT, iTest, iIf, iTup, iLst, iNil, iCons, iCallF, jNil, jCons, jSlot, vE, vS, iSl, pNone, pSome, callF, gather, slots, scatter, iCallJ, rsA, rs, ofO, outsOf, tgN, tgT, tgs]
/-- a part of a model -/
def part (a : IV) (rl : List IV) (b : Bool) : IV := .dic [(.inr "asks", a), (.inr "rules", .lst rl), (.inr "sure", .bl b)]
def IsLast (p : IV) : Prop := ∃ a ∈ shares, ∃ rl b, 1 ≤ rl.length ∧ rl.length ≤ 3 ∧ (∀ r ∈ rl, IsLRule r) ∧ p = part a rl b
/-- a Round, as it is made -/
def mkR (a : IV) (rl : List IV) (b : Bool) : IV := .ins "Round" [("own_asks", a), ("own_rules", .tup rl), ("own_sure", .bl b)]
end K41
end MR
set_option maxRecDepth 100000
set_option maxHeartbeats 4000000
namespace MR
open PySem
namespace K41
theorem qi (a b : Int) : oEq (.int a) (.int b) = some (.bl (a == b)) := rfl
theorem ni (a b : Int) : oNe (.int a) (.int b) = some (.bl (!(a == b))) := rfl
theorem oLe_i (a b : Int) : oLe (.int a) (.int b) = some (.bl (decide (a ≤ b))) := rfl
theorem oGe_i (a b : Int) : oGe (.int a) (.int b) = some (.bl (decide (b ≤ a))) := rfl
theorem oGt_i (a b : Int) : oGt (.int a) (.int b) = some (.bl (decide (b < a))) := rfl
theorem oSub_i (a b : Int) : oSub (.int a) (.int b) = some (.int (a - b)) := rfl
theorem oAdd4_i (a b : Int) : oAdd4 (.int a) (.int b) = some (.int (a + b)) := rfl
theorem isi_tup (xs : List IV) : fIsi KCS [.tup xs, .ty "tuple"] = some (.bl true) := rfl
def sk (a b c : Int) : IV := .tup [.int a, .int b, .int c]
theorem sk0 (a b c : Int) : oIt (sk a b c) (.int 0) = some (.int a) := rfl
theorem sk1 (a b c : Int) : oIt (sk a b c) (.int 1) = some (.int b) := rfl
theorem sk2 (a b c : Int) : oIt (sk a b c) (.int 2) = some (.int c) := rfl
theorem skS (a b c : Int) : fSl4 (sk a b c) none (some 2) = some (.tup [.int a, .int b]) := rfl
theorem skM (a b : Int) : fMx true [.tup [.int a, .int b]] = some (.int (max a b)) := rfl
theorem x_need {h : Int} (h1 : 1 ≤ h) (h2 : h ≤ 60) : fn_need_number [.int h] = .ok .non [] := by
  have e1 := decide_eq_true h1
  have e2 := decide_eq_true h2
  simp [fn_need_number, b_need_number, x_num, iChainT, oLe_i, e1, e2, tru, cv_MOST_HANDS, fnOf, envOf, List.replicate, sSeq, sSet, sSetO, sIf, sRet, sNx, sNo, sDrop, sAsg, sApp, sSub, sPar2, slK, Rz.bindS, Rz.bind, iVar, iMv, iC, iBin, iCmp, iAnd, iOr, iNot, iAndT, iOrT, iNotT, iTest, iIf, iTup, iLst, iNil, iCons, iCallF, jNil, jCons, jSlot, vE, vS, iSl, pNone, pSome, callF, gather, slots, scatter, iCallJ, rsA, rs, ofO, outsOf, tgN, tgT, tgs]
def lead (a b : Int) : Int := if b ≤ a then 0 else 1
theorem x_sum (a b c : Int) : fSum [sk a b c] = some (.int (a + b + c)) := by
  simp [fSum, sk, intsOf]
  omega
theorem st_0 (s : PySem.Str) (l : List IV) : oIt (.tup (.str s :: l)) (.int 0) = some (.str s) := by
  simp [oIt, oIx, seqOf, L2.atI, L2.ixN]
theorem st_1 (s : PySem.Str) (x : IV) : oIt (.tup [.str s, x]) (.int 1) = some x := by
  simp [oIt, oIx, seqOf, L2.atI, L2.ixN]
theorem sh_0 (x y : IV) : oIt (.tup [x, y]) (.int 0) = some x := by
  simp [oIt, oIx, seqOf, L2.atI, L2.ixN]
theorem sh_1 (x y : IV) : oIt (.tup [x, y]) (.int 1) = some y := by
  simp [oIt, oIx, seqOf, L2.atI, L2.ixN]
theorem w_moregiven : oEq (.str "more") (.str "given") = some (.bl false) := by kernel_rfl
theorem w_moremore : oEq (.str "more") (.str "more") = some (.bl true) := by kernel_rfl
theorem w_givengiven : oEq (.str "given") (.str "given") = some (.bl true) := by kernel_rfl
theorem w_mostgiven : oEq (.str "most") (.str "given") = some (.bl false) := by kernel_rfl
theorem w_mostmore : oEq (.str "most") (.str "more") = some (.bl false) := by kernel_rfl
theorem w_mostmost : oEq (.str "most") (.str "most") = some (.bl true) := by kernel_rfl
theorem w_leastgiven : oEq (.str "least") (.str "given") = some (.bl false) := by kernel_rfl
theorem w_leastmore : oEq (.str "least") (.str "more") = some (.bl false) := by kernel_rfl
theorem w_leastmost : oEq (.str "least") (.str "most") = some (.bl false) := by kernel_rfl
theorem w_leastleast : oEq (.str "least") (.str "least") = some (.bl true) := by kernel_rfl
theorem w_alonegiven : oEq (.str "alone") (.str "given") = some (.bl false) := by kernel_rfl
theorem w_alonemore : oEq (.str "alone") (.str "more") = some (.bl false) := by kernel_rfl
theorem w_alonemost : oEq (.str "alone") (.str "most") = some (.bl false) := by kernel_rfl
theorem w_aloneleast : oEq (.str "alone") (.str "least") = some (.bl false) := by kernel_rfl
theorem in0 (a b : Int) : oIn false (.int 0) (.tup [.int a, .int b]) = some (.bl (a == 0 || b == 0)) := by
  show some (IV.bl (a == 0 || (b == 0 || false))) = _
  rw [Bool.or_false]
theorem mul4 (a b : Int) (h : -100 ≤ a ∧ a ≤ 100) : oMul4 (.int a) (.int b) = some (.int (a * b)) := by
  have e : mulC a b = true := by
    unfold mulC
    rw [decide_eq_true (show -(2 ^ 64) < a by omega), decide_eq_true (show a < 2 ^ 64 by omega)]
    rfl
  simp [oMul4, oMul, fIc, e]
/-- who a test finds -/
def fv (t : IV) (a b c h : Int) : IV := match t with
  | .tup [.str w, .tup [.int n, .int d]] => if d * max a b > n * h then .int (lead a b) else .non
  | .tup [.str w, x] => x
  | .tup [.str w] => if a == 0 && b == 0 then .non else if w == "most" then .int (lead a b) else if w == "least" then (if a > 0 then .int 0 else .int 1) else if c == 0 && (a == 0 || b == 0) then .int (lead a b) else .non
  | _ => .non
theorem sn_lm : (Str.ofString "least" = Str.ofString "most") = False := eq_false (by decide +kernel)
theorem sn_am : (Str.ofString "alone" = Str.ofString "most") = False := eq_false (by decide +kernel)
theorem sn_al : (Str.ofString "alone" = Str.ofString "least") = False := eq_false (by decide +kernel)
/-- the sack may stand -/
def Lot (a b c h : Int) : Prop := 0 ≤ a ∧ 0 ≤ b ∧ 0 ≤ c ∧ a + b + c ≤ h ∧ 1 ≤ h ∧ h ≤ 60
theorem skF (a b c : Int) : IV.tup [.int a, .int b, .int c] = sk a b c := rfl
end K41
end MR
set_option maxRecDepth 100000
set_option maxHeartbeats 4000000
namespace MR
open PySem
namespace K41
def lw_0 : S := (sSetO 1 (iBeg (iVar 0)))
def lw_1 : S := (sSet 2 (iBin oAdd4 (iLst (iCons (iC (.int 1)) (iCons (iC (.int 2)) (iCons (iC (.int 12)) (iCons (iC (.int 60)) iNil))))) (iLc (iOn r1Of (iCons (iBin oAdd4 (iC (.int 4)) (iCallJ (fMx false) (jCons (iCallJ fLen (jCons (iVar 0) jNil)) (jCons (iC (.int 10)) jNil)))) iNil)) (tgN 3) iYes (iBin oAdd4 (iC (.int 1)) (iCallF [true, false] fn__law_take (jSlot 1 (jCons (iC (.int 60)) jNil)))) [3])))
def lw_2I : EL := (iSeq (iVar 2))
def lw_2B_0I : EL := (iOn r1Of (iCons (iBin oAdd4 (iVar 4) (iC (.int 1))) iNil))
def lw_2B_0B_0 : S := (sSet 6 (iCallF [false, false] fn__law_place (jCons (iVar 4) (jCons (iVar 5) jNil))))
def lw_2B_0B_1 : S := (sIf (iCmp oNe (iCallJ fRepr (jCons (iLst (iCons (iCallF [false, false] fn_place_of (jCons (iVar 4) (jCons (iVar 5) jNil))) (iCons (iCallK 2 fn_place_of [1, 0] iNil (iCons (iVar 5) (iCons (iVar 4) iNil))) iNil))) jNil)) (iCallJ fRepr (jCons (iLst (iCons (iVar 6) (iCons (iVar 6) iNil))) jNil))) (sRet (iC (.bl false))) sNx)
def lw_2B_0B : S := (sSeq lw_2B_0B_0 lw_2B_0B_1)
def lw_2B_0 : S := (sFor lw_2B_0I (tgN 5) lw_2B_0B)
def lw_2B_1 : S := (sSet 7 (iCallF [true, false] fn__law_pick (jSlot 1 (jCons (iLst (iCons (iC (.int 0)) (iCons (iC (.int 61)) (iCons (iNeg (iC (.int 1))) (iCons (iCallF [true] fn__law_odd (jSlot 1 jNil)) iNil))))) jNil))))
def lw_2B_2 : S := (sSet 8 (iAnd (iCallF [false] fn__law_is_number (jCons (iVar 7) jNil)) (iChain oLe oLe (iC (.int 1)) (iVar 7) (iC (.int 60)))))
def lw_2B_3 : S := (sSetO 9 (iLst (iCons (iLam 10 (fun c => decide (c ∈ ECS)) fw__law_word (iCallF [false, false] fn_place_of (jCons (iVar 7) (jCons (iC (.int 0)) jNil)))) iNil)))
def lw_2B_4 : S := (sApp 9 (iLam 10 (fun c => decide (c ∈ ECS)) fw__law_word (iCallF [false, false] fn_place_of (jCons (iVar 7) (jCons (iC .non) jNil)))))
def lw_2B_5 : S := (sIf (iAndT (iNotT (iTest (iVar 8))) (iCmpV oNe (vS 9) (vE (iBin oMul4 (iLst (iCons (iC (.str "number")) iNil)) (iC (.int 2)))))) (sRet (iC (.bl false))) sNx)
def lw_2B_6 : S := (sSet 7 (iCallF [true, false] fn__law_pick (jSlot 1 (jCons (iLst (iCons (iBin oAdd4 (iVar 4) (iC (.int 1))) (iCons (iNeg (iC (.int 1))) (iCons (iC (.bl true)) (iCons (iC .non) (iCons (iCallF [true] fn__law_odd (jSlot 1 jNil)) iNil)))))) jNil))))
def lw_2B_7 : S := (sSet 8 (iAnd (iCallF [false] fn__law_is_number (jCons (iVar 7) jNil)) (iChain oLe oLe (iC (.int 0)) (iVar 7) (iVar 4))))
def lw_2B_8 : S := (sIf (iAndT (iNotT (iTest (iVar 8))) (iCmp oNe (iLam 10 (fun c => decide (c ∈ ECS)) fw__law_word (iCallF [false, false] fn_place_of (jCons (iVar 4) (jCons (iVar 7) jNil)))) (iC (.str "ones")))) (sRet (iC (.bl false))) sNx)
def lw_2B : S := (sSeq lw_2B_0 (sSeq lw_2B_1 (sSeq lw_2B_2 (sSeq lw_2B_3 (sSeq lw_2B_4 (sSeq lw_2B_5 (sSeq lw_2B_6 (sSeq lw_2B_7 lw_2B_8))))))))
def lw_2 : S := (sFor lw_2I (tgN 4) lw_2B)
def lw_3 : S := (sRet (iC (.bl true)))
theorem lw_eq : b_law = (sSeq lw_0 (sSeq lw_1 (sSeq lw_2 lw_3))) := rfl
def od_0 : S := (sSet 1 (iLst (iCons (iC .non) (iCons (iC (.bl true)) (iCons (iC (.bl false)) (iCons (iC (.int 0)) (iCons (iC (.int 1)) (iCons (iNeg (iC (.int 1))) (iCons (iC (.int 7)) (iCons (iC (.int 61)) (iCons (iBin oPow (iC (.int 10)) (iC (.int 40))) (iCons (iC (.str "")) (iCons (iC (.str "a")) (iCons (iC (.str "settle")) (iCons (iTup iNil) (iCons (iLst iNil) (iCons (fun ρ => .ok (.dic []) ρ) (iCons (iTup (iCons (iC (.int 0)) (iCons (iC (.int 0)) iNil))) (iCons (iTup (iCons (iC (.int 1)) (iCons (iC (.int 0)) (iCons (iC (.int 0)) iNil)))) (iCons (iLst (iCons (iC (.int 1)) (iCons (iC (.int 0)) (iCons (iC (.int 0)) iNil)))) iNil))))))))))))))))))))
def od_1 : S := (sSet 1 (iBin oAdd4 (iVar 1) (iLst (iCons (iTup (iCons (iC (.int 1)) (iCons (iC (.int 1)) (iCons (iC (.int 0)) iNil)))) (iCons (iTup (iCons (iC (.int 0)) (iCons (iC (.int 1)) (iCons (iC (.int 1)) iNil)))) (iCons (iTup (iCons (iC (.int 1)) (iCons (iC (.int 1)) (iCons (iC (.int 1)) iNil)))) (iCons (iTup (iCons (iC (.bl true)) (iCons (iC (.int 0)) (iCons (iC (.int 0)) iNil)))) (iCons (iTup (iCons (iC (.int 0)) (iCons (iNeg (iC (.int 1))) (iCons (iC (.int 2)) iNil)))) (iCons (iTup (iCons (iTup (iCons (iC (.str "settle")) iNil)) (iCons (iC (.int 0)) iNil))) iNil)))))))))
def od_2 : S := (sRet (iCallF [true, false] fn__law_pick (jSlot 0 (jCons (iBin oAdd4 (iVar 1) (iLst (iCons (iTup (iCons (iC (.int 0)) (iCons (iC (.int 0)) (iCons (iC (.int 0)) (iCons (iC (.int 0)) iNil))))) iNil))) jNil))))
theorem od_eq : b__law_odd = (sSeq od_0 (sSeq od_1 od_2)) := rfl
theorem mn2 (a b : Int) : fMx false [.int a, .int b] = some (.int (min a b)) := by
  show some (IV.int (if b < a then b else a)) = _
  congr 2
  split <;> omega
theorem rng {n : Int} (h0 : 0 ≤ n) (h1 : n ≤ 1000) : r1Of [.int n] = some (ivR 0 n.toNat) := by
  refine if_pos ?_
  simp only [Bool.and_eq_true, decide_eq_true_eq]
  omega
theorem ivR_mem {n : Nat} {x : IV} (h : x ∈ ivR 0 n) : ∃ i : Int, x = .int i ∧ 0 ≤ i ∧ i < n := by
  unfold ivR at h
  obtain ⟨k, hk, rfl⟩ := List.mem_map.mp h
  rw [List.mem_range] at hk
  exact ⟨_, rfl, by omega, by omega⟩
theorem ev_cs {i : Nat} {ks : List Bool} {fn : Fn} {J : EAv} {ρ ρ1 : Env} {ds : List IV} {d d' v : IV} (hJ : J ρ = .ok (.s i :: ds.map Av.v) ρ1) (hk : ks = true :: ds.map fun _ => false) (hi : ρ1[i]? = some (.ow d)) (hf : fn (d :: ds) = .ok v [d']) : iCallF ks fn J ρ = .ok v (ρ1.set i (.ow d')) := by
  unfold iCallF
  rw [hJ]
  show callF _ _ _ _ = _
  unfold callF
  subst hk
  have g : gather (true :: ds.map fun _ => false) (.s i :: ds.map Av.v) ρ1 = some (d :: ds) := by
    simp only [gather, hi, gather_v]
    rfl
  rw [g]
  dsimp only
  have sl : slots (.s i :: ds.map Av.v) = [i] := by simp only [slots, slots_v]
  rw [sl, if_pos (by simp), hf]
  dsimp only
  have sc : scatter (true :: ds.map fun _ => false) (.s i :: ds.map Av.v) [d'] ρ1 = some (ρ1.set i (.ow d')) := by
    simp only [scatter, scatter_v]
  rw [sc]
theorem ev_not {A : EB} {ρ ρ1 : Env} {b : Bool} (h : A ρ = .ok b ρ1) : iNotT A ρ = .ok (!b) ρ1 := by
  unfold iNotT
  rw [h]
  rfl
theorem ev_ck {np : Nat} {fn : Fn} {pm : List Nat} {Z : EA} {ρ ρ1 : Env} {zs ds : List IV} {y : IV} (hz : Z ρ = .ok zs ρ1) (hp : permL pm zs = ds) (hn : List.replicate np false = ds.map fun _ => false) (hf : fn ds = .ok y []) : iCallK np fn pm iNil Z ρ = .ok y ρ1 := by
  have b4 := ev_cf (ks := List.replicate np false) (fn := fn) (J := fun ρ => Rz.ok (ds.map Av.v) ρ) (ρ := ρ1) (ρ1 := ρ1) (ds := ds) rfl hn hf
  unfold iCallK
  simp only [iNil, hz, Rz.bind, List.nil_append, hp]
  exact b4
theorem ev_cmpV {f : IV → IV → Option IV} {A B : EV} {ρ ρ1 ρ2 : Env} {a b : Av} {k : Bool} (hA : A ρ = .ok a ρ1) (hB : B ρ1 = .ok b ρ2) (hr : rs2 f a b ρ2 = some (.bl k)) : iCmpV f A B ρ = .ok k ρ2 := by
  unfold iCmpV
  rw [hA]
  simp only [Rz.bind]
  rw [hB]
  simp only [hr]
/-! closed facts, reckoned -/
def oddL : List IV := [.non, .bl true, .bl false, .int 0, .int 1, .int (-1), .int 7, .int 61, .int (10 ^ 40), .str "", .str "a", .str "settle", .tup [], .lst [], .dic [], .tup [.int 0, .int 0], .tup [.int 1, .int 0, .int 0], .lst [.int 1, .int 0, .int 0],
  .tup [.int 1, .int 1, .int 0], .tup [.int 0, .int 1, .int 1], .tup [.int 1, .int 1, .int 1], .tup [.bl true, .int 0, .int 0], .tup [.int 0, .int (-1), .int 2], .tup [.tup [.str "settle"], .int 0], .tup [.int 0, .int 0, .int 0, .int 0]]
theorem x_odd {d : IV} (hd : IsDrw d) : ∃ v d', v ∈ oddL ∧ fn__law_odd [d] = .ok v [d'] ∧ IsDrw d' := by
  obtain ⟨v, d', hv, e, hd'⟩ := x_pick hd (xs := oddL) (by decide) (by decide)
  refine ⟨v, d', hv, ?_, hd'⟩
  have s0 : od_0 [.ow d, .un] = .nx [.ow d, .fz (.lst (oddL.take 18))] := by rfl
  have s1 : od_1 [.ow d, .fz (.lst (oddL.take 18))] = .nx [.ow d, .fz (.lst (oddL.take 24))] := by rfl
  have a : iBin oAdd4 (iVar 1) (iLst (iCons (iTup (iCons (iC (.int 0)) (iCons (iC (.int 0)) (iCons (iC (.int 0)) (iCons (iC (.int 0)) iNil))))) iNil)) [.ow d, .fz (.lst (oddL.take 24))] = .ok (.lst oddL) [.ow d, .fz (.lst (oddL.take 24))] := by rfl
  have s2 : od_2 [.ow d, .fz (.lst (oddL.take 24))] = .rt v [.ow d', .fz (.lst (oddL.take 24))] := by
    have j : jSlot 0 (jCons (iBin oAdd4 (iVar 1) (iLst (iCons (iTup (iCons (iC (.int 0)) (iCons (iC (.int 0)) (iCons (iC (.int 0)) (iCons (iC (.int 0)) iNil))))) iNil))) jNil) [.ow d, .fz (.lst (oddL.take 24))] = .ok (.s 0 :: ([.lst oddL] : List IV).map Av.v) [.ow d, .fz (.lst (oddL.take 24))] := by
      unfold jSlot
      dsimp only [List.getElem?_cons_zero]
      rw [ev_j1 a]
      rfl
    exact ev_ret ((ev_cs j rfl rfl e).trans rfl)
  have hb : b__law_odd [.ow d, .un] = .rt v [.ow d', .fz (.lst (oddL.take 24))] := by
    rw [od_eq]
    exact (ev_seq s0).trans ((ev_seq s1).trans s2)
  show fnOf 2 [true] b__law_odd [d] = _
  unfold fnOf
  show (match b__law_odd [.ow d, .un] with | .rt d ρ => _ | .nx ρ => _ | .ex c p ρ => _ | _ => _) = _
  rw [hb]
  rfl
/-- the word of an outcome -/
def wordR : Rf → Option IV
  | .ok _ _ => fw__law_word .non
  | .ex c p _ => if decide (c ∈ ECS) = true then fw__law_word (.err c p) else none
  | .no => none
def outsR : Rf → Bool
  | .ok _ [] => true
  | .ex _ _ [] => true
  | _ => false
def isS (o : Option IV) (s : PySem.Str) : Bool := match o with
  | some (.str z) => decide (z = s)
  | _ => false
theorem isS_eq {o : Option IV} {s : PySem.Str} (h : isS o s = true) : o = some (.str s) := by
  unfold isS at h
  split at h
  · rw [of_decide_eq_true h]
  · cases h
theorem ev_lam {ρ : Env} {J : EAv} {ds : List IV} {v : IV} (h : ρ[10]? = some (.ow .tab)) (hJ : J ρ = .ok (ds.map Av.v) ρ) (hd : [false, false] = ds.map fun _ => false) (ho : outsR (fn_place_of ds) = true) (hw : wordR (fn_place_of ds) = some v) :
    iLam 10 (fun c => decide (c ∈ ECS)) fw__law_word (iCallF [false, false] fn_place_of J) ρ = .ok v ρ := by
  have hB : iCallF [false, false] fn_place_of J ρ = (match fn_place_of ds with | .ok d _ => .ok d ρ | .ex c p _ => .ex c p ρ | .no => .no) := by
    unfold iCallF
    rw [hJ]
    show callF _ _ _ _ = _
    unfold callF
    rw [hd, gather_v, slots_v]
    dsimp only
    rw [if_pos List.nodup_nil]
    cases hf : fn_place_of ds with
    | ok d outs =>
      rw [hf] at ho
      cases outs with
      | nil =>
        dsimp only
        rw [scatter_v]
      | cons _ _ => cases ho
    | ex c p outs =>
      rw [hf] at ho
      cases outs with
      | nil =>
        dsimp only
        rw [scatter_v]
      | cons _ _ => cases ho
    | no => rfl
  unfold iLam
  rw [h]
  dsimp only
  rw [hB]
  cases hf : fn_place_of ds with
  | ok d outs =>
    rw [hf] at hw
    have hw' : fw__law_word .non = some v := hw
    dsimp only
    rw [hw']
    rfl
  | ex c p outs =>
    rw [hf] at hw
    unfold wordR at hw
    dsimp only at hw ⊢
    by_cases hc : decide (c ∈ ECS) = true
    · rw [if_pos hc] at hw ⊢
      rw [hw]
      rfl
    · rw [if_neg hc] at hw
      cases hw
  | no =>
    rw [hf] at hw
    cases hw
/-- two kinds of numbers -/
def goodN (lo hi : Int) : IV → Bool
  | .int i => decide (lo ≤ i) && decide (i ≤ hi)
  | _ => false
def numR (x : IV) (b : Bool) : Bool := match fn__law_is_number [x] with
  | .ok (.bl c) [] => c == b
  | _ => false
def isInt : IV → Bool
  | .int _ => true
  | _ => false
def shw (o : Option IV) : Bool := match o with
  | some (.str z) => shp (.str z)
  | _ => false
def ok1 (x : IV) : Bool := numR x (isInt x) && (outsR (fn_place_of [x, .int 0]) && (outsR (fn_place_of [x, .non]) && (shw (wordR (fn_place_of [x, .int 0])) && (shw (wordR (fn_place_of [x, .non])) &&
  (goodN 1 60 x || (isS (wordR (fn_place_of [x, .int 0])) "number" && isS (wordR (fn_place_of [x, .non])) "number"))))))
def ok2 (n : Int) (x : IV) : Bool := numR x (isInt x) && (goodN 0 n x || (outsR (fn_place_of [.int n, x]) && isS (wordR (fn_place_of [.int n, x])) "ones"))
theorem all1 : ((([.int 0, .int 61, .int (-1)] : List IV) ++ oddL).all ok1) = true := by kernel_rfl
theorem all2 : ((List.range 60).all fun k => (([.int ((k : Int) + 1 + 1), .int (-1), .bl true, .non] : List IV) ++ oddL).all (ok2 ((k : Int) + 1))) = true := by kernel_rfl
def plc (n c : Int) : Bool := match fn__law_place [.int n, .int c], fn_place_of [.int n, .int c] with
  | .ok (.int p) [], .ok (.int q) [] => p == q && (decide (0 ≤ p) && decide (p ≤ 13))
  | _, _ => false
theorem oMul4_i {a b : Int} (h : -100 ≤ a ∧ a ≤ 100) : oMul4 (.int a) (.int b) = some (.int (a * b)) := mul4 a b h
theorem dv {a b : Int} (h : 0 < b ∧ b < 1000) : oDiv (.int a) (.int b) = some (.int (a / b)) := by
  have e : (decide (0 < b) && decide (b < 1073741824)) = true := by
    simp only [Bool.and_eq_true, decide_eq_true_eq]
    omega
  show (if (decide (0 < b) && decide (b < 1073741824)) = true then some (IV.int (a / b)) else none) = _
  rw [if_pos e]
def twelve : List Int := [1, 2, 3, 4, 5, 6, 7, 8, 9, 10, 11, 12]
theorem r12 : r2Of [.int 1, .int 13] = some (twelve.map .int) := by kernel_rfl
theorem filt12 {n c : Int} (h1 : 1 ≤ n) (h3 : 0 < c) (h4 : c < n) : twelve.filter (fun k => decide ((k - 1) * n ≤ 12 * c) && decide (12 * c < k * n)) = [12 * c / n + 1] := by
  have q0 : 0 ≤ 12 * c / n := Int.ediv_nonneg (by omega) (by omega)
  have q1 : 12 * c / n < 12 := Int.ediv_lt_of_lt_mul (by omega) (by omega)
  have lo : 12 * c / n * n ≤ 12 * c := Int.ediv_mul_le _ (by omega)
  have hi : 12 * c < (12 * c / n + 1) * n := Int.lt_ediv_add_one_mul_self _ (by omega)
  have e : twelve.filter (fun k => decide ((k - 1) * n ≤ 12 * c) && decide (12 * c < k * n)) = twelve.filter (fun k => k == 12 * c / n + 1) := by
    refine List.filter_congr fun k hk => ?_
    generalize 12 * c / n = p at q0 q1 lo hi
    by_cases hp : k = p + 1
    · subst hp
      have : p + 1 - 1 = p := by omega
      rw [this]
      simp [lo, hi]
    · have : (k == p + 1) = false := by simpa using hp
      rw [this]
      simp only [Bool.and_eq_false_iff, decide_eq_false_iff_not]
      by_cases hlt : k ≤ p
      · right
        have := Int.mul_le_mul_of_nonneg_right hlt (show 0 ≤ n by omega)
        omega
      · left
        have h5 : p + 1 ≤ k - 1 := by omega
        have := Int.mul_le_mul_of_nonneg_right h5 (show 0 ≤ n by omega)
        omega
  rw [e]
  generalize 12 * c / n = p at q0 q1
  have hp : p = 0 ∨ p = 1 ∨ p = 2 ∨ p = 3 ∨ p = 4 ∨ p = 5 ∨ p = 6 ∨ p = 7 ∨ p = 8 ∨ p = 9 ∨ p = 10 ∨ p = 11 := by omega
  rcases hp with rfl | rfl | rfl | rfl | rfl | rfl | rfl | rfl | rfl | rfl | rfl | rfl <;> rfl
def po_0 : S := (sDrop (iCallF [false] fn_need_number (jCons (iVar 0) jNil)))
def po_1 : S := (sIf (iOrT (iNotT (iTest (iCallF [false] fn_is_number (jCons (iVar 1) jNil)))) (iNotT (iChainT oLe oLe (iC (.int 0)) (iVar 1) (iVar 0)))) (sRaise "BadOnes") sNx)
def po_2 : S := (sIf (iCmp (oIn false) (iVar 1) (iTup (iCons (iC (.int 0)) (iCons (iVar 0) iNil)))) (sRet (iIf (iCmp oEq (iVar 1) (iC (.int 0))) (iC (.int 0)) (iBin oAdd4 (iC cv_CELLS) (iC (.int 1))))) sNx)
def po_3 : S := (sRet (iBin oAdd4 (iBin oDiv (iBin oMul4 (iC cv_CELLS) (iVar 1)) (iVar 0)) (iC (.int 1))))
theorem po_eq : b_place_of = (sSeq po_0 (sSeq po_1 (sSeq po_2 po_3))) := rfl
def lp_0 : S := (sIf (iOrT (iCmp oEq (iVar 1) (iC (.int 0))) (iCmp oEq (iVar 1) (iVar 0))) (sRet (iIf (iCmp oEq (iVar 1) (iC (.int 0))) (iC (.int 0)) (iC (.int 13)))) sNx)
def lp_1 : S := (sRet (iBin oIt (iLc (iOn r2Of (iCons (iC (.int 1)) (iCons (iC (.int 13)) iNil))) (tgN 2) (iChainT oLe oLt (iBin oMul4 (iBin oSub (iVar 2) (iC (.int 1))) (iVar 0)) (iBin oMul4 (iC (.int 12)) (iVar 1)) (iBin oMul4 (iVar 2) (iVar 0))) (iVar 2) [2]) (iC (.int 0))))
theorem lp_eq : b__law_place = (sSeq lp_0 lp_1) := rfl
def plI (n c : Int) : Int := if c = 0 then 0 else if c = n then 13 else 12 * c / n + 1
theorem x_lplace {n c : Int} (h1 : 1 ≤ n) (h2 : n ≤ 60) (h3 : 0 ≤ c) (h4 : c ≤ n) : fn__law_place [.int n, .int c] = .ok (.int (plI n c)) [] := by
  let ρ : Env := [.fz (.int n), .fz (.int c), .un]
  refine fn_rt2 (n := 1) (y1 := .fz (.int n)) (y2 := .fz (.int c)) (tl := [.un]) ?_
  show b__law_place ρ = .rt _ ρ
  rw [lp_eq]
  by_cases c0 : c = 0
  · subst c0
    have e : lp_0 ρ = .rt (.int 0) ρ := rfl
    show sSeq lp_0 lp_1 ρ = _
    unfold sSeq
    rw [e]
    rfl
  · have t1 : iCmp oEq (iVar 1) (iC (.int 0)) ρ = .ok false ρ := by
      have := ev_cmp (f := oEq) (A := iVar 1) (B := iC (.int 0)) (ρ := ρ) (ev_v rfl) (ev_c _ _) (qi c 0)
      rwa [show (c == 0) = false from by simpa using c0] at this
    by_cases cn : c = n
    · subst cn
      have t2 : iOrT (iCmp oEq (iVar 1) (iC (.int 0))) (iCmp oEq (iVar 1) (iVar 0)) ρ = .ok true ρ := by
        have := ev_cmp (f := oEq) (A := iVar 1) (B := iVar 0) (ρ := ρ) (ev_v rfl) (ev_v rfl) (qi c c)
        rw [show (c == c) = true from by simp] at this
        exact (ev_or t1).trans this
      have e : lp_0 ρ = .rt (.int 13) ρ := (ev_yes t2).trans (ev_ret ((ev_iff t1).trans (ev_c _ _)))
      show sSeq lp_0 lp_1 ρ = _
      unfold sSeq
      rw [e]
      unfold plI
      rw [if_neg c0, if_pos rfl]
    · have t2 : iOrT (iCmp oEq (iVar 1) (iC (.int 0))) (iCmp oEq (iVar 1) (iVar 0)) ρ = .ok false ρ := by
        have := ev_cmp (f := oEq) (A := iVar 1) (B := iVar 0) (ρ := ρ) (ev_v rfl) (ev_v rfl) (qi c n)
        rw [show (c == n) = false from by simpa using cn] at this
        exact (ev_or t1).trans this
      refine (ev_seq (ev_no t2)).trans ?_
      have el := lc_filt1 (k := 2) (ts := iChainT oLe oLt (iBin oMul4 (iBin oSub (iVar 2) (iC (.int 1))) (iVar 0)) (iBin oMul4 (iC (.int 12)) (iVar 1)) (iBin oMul4 (iVar 2) (iVar 0))) (el := iVar 2) (ρ := ρ)
        (fun d => match d with | .int k => decide ((k - 1) * n ≤ 12 * c) && decide (12 * c < k * n) | _ => false) (fun d => d) rfl (ds := twelve.map .int) fun d hd => by
          obtain ⟨k, hk, rfl⟩ := List.mem_map.mp hd
          have hb : 1 ≤ k ∧ k ≤ 12 := by
            simp only [twelve, List.mem_cons, List.not_mem_nil, or_false] at hk
            omega
          refine ⟨?_, fun _ => rfl⟩
          have a1 : oSub (.int k) (.int 1) = some (.int (k - 1)) := rfl
          have a2 := oMul4_i (a := k - 1) (b := n) (by omega)
          have a3 := oMul4_i (a := 12) (b := c) (by omega)
          have a4 := oMul4_i (a := k) (b := n) (by omega)
          have a5 : oLt (.int (12 * c)) (.int (k * n)) = some (.bl (decide (12 * c < k * n))) := rfl
          by_cases hle : (k - 1) * n ≤ 12 * c <;> simp [iChainT, a1, a2, a3, a4, a5, oLe_i, hle, ρ, fnOf, envOf, List.replicate, sSeq, sSet, sSetO, sIf, sRet, sNx, sNo, sDrop, sAsg, sApp, sSub, sPar2, slK, Rz.bindS, Rz.bind, iVar, iMv, iC, iBin, iCmp, iAnd, iOr, iNot, iAndT, iOrT, iNotT, iTest, iIf, iTup, iLst, iNil, iCons, iCallF, jNil, jCons, jSlot, vE, vS, iSl, pNone, pSome, callF, gather, slots, scatter, iCallJ, rsA, rs, ofO, outsOf, tgN, tgT, tgs]
      have ef : ((twelve.map .int).filter (fun d => match d with | IV.int k => decide ((k - 1) * n ≤ 12 * c) && decide (12 * c < k * n) | _ => false)).map (fun d => d) = [.int (12 * c / n + 1)] := by
        rw [List.map_id', List.filter_map]
        have := filt12 h1 (show 0 < c by omega) (show c < n by omega)
        show (twelve.filter (fun k => decide ((k - 1) * n ≤ 12 * c) && decide (12 * c < k * n))).map IV.int = _
        rw [this]
        rfl
      rw [ef] at el
      unfold plI
      rw [if_neg c0, if_neg cn]
      exact ev_ret (ev_bin (ev_lc (ev_on (ev_ic (ev_c _ _) (ev_ic (ev_c _ _) rfl)) r12) el) (ev_c _ _) rfl)
theorem x_placeof {n c : Int} (h1 : 1 ≤ n) (h2 : n ≤ 60) (h3 : 0 ≤ c) (h4 : c ≤ n) : fn_place_of [.int n, .int c] = .ok (.int (plI n c)) [] := by
  have e0 := x_need h1 h2
  have e1 : fn_is_number [.int c] = .ok (.bl true) [] := rfl
  let ρ : Env := [.fz (.int n), .fz (.int c)]
  refine fn_rt2 (n := 0) (y1 := .fz (.int n)) (y2 := .fz (.int c)) (tl := []) ?_
  show b_place_of ρ = .rt _ ρ
  rw [po_eq]
  have s0 : po_0 ρ = .nx ρ := ev_drop (ev_cf (ds := [.int n]) (ev_jc (ev_v rfl) rfl) rfl e0)
  have s1 : po_1 ρ = .nx ρ := by
    have a1 : iNotT (iTest (iCallF [false] fn_is_number (jCons (iVar 1) jNil))) ρ = .ok false ρ := ev_not (ev_test (ev_cf (ds := [.int c]) (ev_jc (ev_v rfl) rfl) rfl e1) rfl)
    have a2 : iNotT (iChainT oLe oLe (iC (.int 0)) (iVar 1) (iVar 0)) ρ = .ok false ρ := by
      simp [iChainT, oLe_i, h3, h4, ρ, fnOf, envOf, List.replicate, sSeq, sSet, sSetO, sIf, sRet, sNx, sNo, sDrop, sAsg, sApp, sSub, sPar2, slK, Rz.bindS, Rz.bind, iVar, iMv, iC, iBin, iCmp, iAnd, iOr, iNot, iAndT, iOrT, iNotT, iTest, iIf, iTup, iLst, iNil, iCons, iCallF, jNil, jCons, jSlot, vE, vS, iSl, pNone, pSome, callF, gather, slots, scatter, iCallJ, rsA, rs, ofO, outsOf, tgN, tgT, tgs]
    exact ev_no ((ev_or a1).trans a2)
  refine (ev_seq s0).trans ((ev_seq s1).trans ?_)
  have hin : iCmp (oIn false) (iVar 1) (iTup (iCons (iC (.int 0)) (iCons (iVar 0) iNil))) ρ = .ok (c == 0 || c == n) ρ := by
    refine ev_cmp (ev_v rfl) (ev_tup (ev_ic (ev_c _ _) (ev_ic (ev_v rfl) rfl)) (by simp)) ?_
    have q1 : oIn false (.int c) (.tup [.int 0, .int n]) = some (.bl (0 == c || n == c)) := by
      show some (IV.bl (0 == c || (n == c || false))) = _
      rw [Bool.or_false]
    rw [q1, Bool.beq_comm (a := 0), Bool.beq_comm (a := n)]
  have t1 : iCmp oEq (iVar 1) (iC (.int 0)) ρ = .ok (c == 0) ρ := ev_cmp (ev_v rfl) (ev_c _ _) (qi c 0)
  unfold plI
  by_cases c0 : c = 0
  · rw [if_pos c0]
    subst c0
    have e : po_2 ρ = .rt (.int 0) ρ := (ev_yes hin).trans (ev_ret ((ev_iff t1).trans (ev_c _ _)))
    unfold sSeq
    rw [e]
  · have z0 : (c == 0) = false := by simpa using c0
    rw [z0] at t1 hin
    rw [if_neg c0]
    by_cases cn : c = n
    · rw [if_pos cn]
      have z1 : (c == n) = true := by simpa using cn
      rw [z1] at hin
      have e : po_2 ρ = .rt (.int 13) ρ := (ev_yes hin).trans (ev_ret ((ev_iff t1).trans (ev_bin (ev_c _ _) (ev_c _ _) rfl)))
      unfold sSeq
      rw [e]
    · rw [if_neg cn]
      have z1 : (c == n) = false := by simpa using cn
      rw [z1] at hin
      refine (ev_seq (ev_no hin)).trans (ev_ret (ev_bin (ev_bin (ev_bin (ev_c _ _) (ev_v rfl) ?_) (ev_v rfl) (dv (by omega))) (ev_c _ _) (oAdd4_i _ _)))
      exact oMul4_i (by omega)
theorem plI_b {n c : Int} (h1 : 1 ≤ n) (h2 : n ≤ 60) (h3 : 0 ≤ c) (h4 : c ≤ n) : 0 ≤ plI n c ∧ plI n c ≤ 13 := by
  unfold plI
  split
  · omega
  · split
    · omega
    · have q0 : 0 ≤ 12 * c / n := Int.ediv_nonneg (by omega) (by omega)
      have q1 : 12 * c / n < 12 := Int.ediv_lt_of_lt_mul (by omega) (by omega)
      omega
theorem plc_ok {n c : Int} (h1 : 1 ≤ n) (h2 : n ≤ 60) (h3 : 0 ≤ c) (h4 : c ≤ n) : ∃ p : Int, fn__law_place [.int n, .int c] = .ok (.int p) [] ∧ fn_place_of [.int n, .int c] = .ok (.int p) [] ∧ 0 ≤ p ∧ p ≤ 13 :=
  ⟨plI n c, x_lplace h1 h2 h3 h4, x_placeof h1 h2 h3 h4, (plI_b h1 h2 h3 h4).1, (plI_b h1 h2 h3 h4).2⟩
theorem all4 : ((List.range 14).all fun p => match fRepr [.lst [.int (p : Int), .int (p : Int)]] with | some (.str s) => shp (.str s) | _ => false) = true := by kernel_rfl
theorem repr14 {p : Int} (h0 : 0 ≤ p) (h1 : p ≤ 13) : ∃ s, fRepr [.lst [.int p, .int p]] = some (.str s) ∧ oNe (.str s) (.str s) = some (.bl false) := by
  have h := List.all_eq_true.mp all4 p.toNat (List.mem_range.mpr (by omega))
  rw [show ((p.toNat : Nat) : Int) = p from by omega] at h
  split at h
  · rename_i s e
    exact ⟨s, e, oNe_refl h⟩
  · cases h
theorem num_ok {x : IV} {b : Bool} (h : numR x b = true) : fn__law_is_number [x] = .ok (.bl b) [] := by
  unfold numR at h
  split at h
  · rename_i c e
    rw [e, beq_iff_eq.mp h]
  · cases h
/-! the law -/
def vE41 (x0 : Sl) (d : IV) (x2 x3 x4 x5 x6 x7 x8 x9 : Sl) : Env := [x0, .ow d, x2, x3, x4, x5, x6, x7, x8, x9, .ow .tab]
theorem x_count {x0 x2 x3 x5 x6 x7 x8 x9 : Sl} {d : IV} {n c : Int} (h1 : 1 ≤ n) (h2 : n ≤ 60) (h3 : 0 ≤ c) (h4 : c ≤ n) : lw_2B_0B (vE41 x0 d x2 x3 (.fz (.int n)) (.fz (.int c)) x6 x7 x8 x9) = .nx (vE41 x0 d x2 x3 (.fz (.int n)) (.fz (.int c)) (.fz (.int (plI n c))) x7 x8 x9) := by
  let ρ (y : Sl) : Env := vE41 x0 d x2 x3 (.fz (.int n)) (.fz (.int c)) y x7 x8 x9
  have s0 : lw_2B_0B_0 (ρ x6) = .nx (ρ (.fz (.int (plI n c)))) := (ev_set (ρ1 := ρ x6) (ev_cf (ds := [.int n, .int c]) (ev_jc (ev_v rfl) (ev_jc (ev_v rfl) rfl)) rfl (x_lplace h1 h2 h3 h4))).trans rfl
  refine (ev_seq s0).trans ?_
  obtain ⟨b0, b1⟩ := plI_b h1 h2 h3 h4
  obtain ⟨s, r1, r2⟩ := repr14 b0 b1
  let R := ρ (.fz (.int (plI n c)))
  have a1 : iCallF [false, false] fn_place_of (jCons (iVar 4) (jCons (iVar 5) jNil)) R = .ok (.int (plI n c)) R := ev_cf (ds := [.int n, .int c]) (ev_jc (ev_v rfl) (ev_jc (ev_v rfl) rfl)) rfl (x_placeof h1 h2 h3 h4)
  have a2 : iCallK 2 fn_place_of [1, 0] iNil (iCons (iVar 5) (iCons (iVar 4) iNil)) R = .ok (.int (plI n c)) R := ev_ck (ds := [.int n, .int c]) (ev_ic (ev_v rfl) (ev_ic (ev_v rfl) rfl)) rfl rfl (x_placeof h1 h2 h3 h4)
  exact ev_no (ev_cmp (ev_cj1 (ev_lst (ev_ic a1 (ev_ic a2 rfl)) (by simp)) r1) (ev_cj1 (ev_lst (ev_ic (ev_v rfl) (ev_ic (ev_v rfl) rfl)) (by simp)) r1) r2)
theorem good_c {lo hi : Int} {x : IV} {ρ : Env} (h7 : ρ[7]? = some (.fz x)) (hn : numR x (isInt x) = true) {A B : E} (hA : A ρ = .ok (.int lo) ρ) (hB : B ρ = .ok (.int hi) ρ) :
    iAnd (iCallF [false] fn__law_is_number (jCons (iVar 7) jNil)) (iChain oLe oLe A (iVar 7) B) ρ = .ok (.bl (goodN lo hi x)) ρ := by
  have e := num_ok hn
  have a1 : iCallF [false] fn__law_is_number (jCons (iVar 7) jNil) ρ = .ok (.bl (isInt x)) ρ := ev_cf (ds := [x]) (ev_jc (ev_v h7) rfl) rfl e
  unfold iAnd
  rw [a1]
  cases x with
  | int i =>
    show (iChain oLe oLe A (iVar 7) B) ρ = _
    unfold iChain
    rw [hA]
    show Rz.bind (iVar 7 ρ) _ = _
    rw [ev_v h7]
    show (match oLe (.int lo) (.int i) with | some (.bl true) => _ | some (.bl false) => _ | _ => _) = _
    rw [oLe_i]
    by_cases h1 : lo ≤ i
    · rw [decide_eq_true h1]
      dsimp only
      rw [hB]
      show ofO (oLe (.int i) (.int hi)) ρ = _
      rw [oLe_i]
      simp [goodN, h1, ofO]
    · rw [decide_eq_false h1]
      simp [goodN, h1]
  | _ => rfl
def XO : List IV := [.int 0, .int 61, .int (-1)] ++ oddL
theorem ok1_at {x : IV} (h : x ∈ XO) : ok1 x = true := List.all_eq_true.mp all1 x h
theorem ok2_at {n : Int} (h1 : 1 ≤ n) (h2 : n ≤ 60) {x : IV} (h : x ∈ [.int (n + 1), .int (-1), .bl true, .non] ++ oddL) : ok2 n x = true := by
  have := List.all_eq_true.mp all2 (n - 1).toNat (List.mem_range.mpr (by omega))
  rw [show (((n - 1).toNat : Nat) : Int) + 1 = n from by omega] at this
  exact List.all_eq_true.mp this x h
theorem shw_str {o : Option IV} (h : shw o = true) : ∃ s, o = some (.str s) ∧ shp (.str s) = true := by
  unfold shw at h
  split at h
  · rename_i s
    exact ⟨s, rfl, h⟩
  · cases h
def isGd (x : Sl) : Prop := True
theorem x_size {x0 x2 x3 x5 x6 x7 x8 x9 : Sl} {d : IV} {n : Int} (hd : IsDrw d) (h1 : 1 ≤ n) (h2 : n ≤ 60) :
    ∃ d' y5 y6 y7 y8 y9, IsDrw d' ∧ lw_2B (vE41 x0 d x2 x3 (.fz (.int n)) x5 x6 x7 x8 x9) = .nx (vE41 x0 d' x2 x3 (.fz (.int n)) y5 y6 y7 y8 y9) := by
  obtain ⟨ρ', t0, y5, y6, rfl⟩ := sfor_W (W := fun ρ => ∃ y5 y6, ρ = vE41 x0 d x2 x3 (.fz (.int n)) y5 y6 x7 x8 x9) (i := 5) (M := lw_2B_0I) (body := lw_2B_0B) (ds := ivR 0 (n + 1).toNat) (ρ := vE41 x0 d x2 x3 (.fz (.int n)) x5 x6 x7 x8 x9)
    (ev_on (ev_ic (ev_bin (ev_v rfl) (ev_c _ _) (oAdd4_i _ _)) rfl) (rng (by omega) (by omega))) ⟨_, _, rfl⟩ fun u hu ρ hρ => by
      obtain ⟨y5, y6, rfl⟩ := hρ
      obtain ⟨c, rfl, c0, c1⟩ := ivR_mem hu
      exact ⟨_, .inl (x_count (x6 := y6) (x0 := x0) (x2 := x2) (x3 := x3) (x5 := .un) (x7 := x7) (x8 := x8) (x9 := x9) (d := d) h1 h2 c0 (by omega)), _, _, rfl⟩
  obtain ⟨v, d1, hv, e1, hd1⟩ := x_odd hd
  obtain ⟨x, d2, hx, e2, hd2⟩ := x_pick hd1 (xs := [.int 0, .int 61, .int (-1), v]) (by simp) (by simp)
  have hx1 : x ∈ XO := by
    simp only [List.mem_cons, List.not_mem_nil, or_false] at hx
    rcases hx with rfl | rfl | rfl | rfl
    · exact List.mem_append_left _ (by simp)
    · exact List.mem_append_left _ (by simp)
    · exact List.mem_append_left _ (by simp)
    · exact List.mem_append_right _ hv
  have o1 := ok1_at hx1
  unfold ok1 at o1
  simp only [Bool.and_eq_true] at o1
  obtain ⟨n1, u1, u2, w1, w2, g1⟩ := o1
  obtain ⟨s1, q1, z1⟩ := shw_str w1
  obtain ⟨s2, q2, z2⟩ := shw_str w2
  let R1 (d : IV) (z7 z8 z9 : Sl) : Env := vE41 x0 d x2 x3 (.fz (.int n)) y5 y6 z7 z8 z9
  have p1 : lw_2B_1 (R1 d x7 x8 x9) = .nx (R1 d2 (.fz x) x8 x9) := by
    have j1 : iCallF [true] fn__law_odd (jSlot 1 jNil) (R1 d x7 x8 x9) = .ok v (R1 d1 x7 x8 x9) := (ev_cs (ds := []) rfl rfl rfl e1).trans rfl
    have l1 : iLst (iCons (iC (.int 0)) (iCons (iC (.int 61)) (iCons (iNeg (iC (.int 1))) (iCons (iCallF [true] fn__law_odd (jSlot 1 jNil)) iNil)))) (R1 d x7 x8 x9) = .ok (.lst [.int 0, .int 61, .int (-1), v]) (R1 d1 x7 x8 x9) :=
      ev_lst (ev_ic (ev_c _ _) (ev_ic (ev_c _ _) (ev_ic rfl (ev_ic j1 rfl)))) (by simp)
    have j2 : jSlot 1 (jCons (iLst (iCons (iC (.int 0)) (iCons (iC (.int 61)) (iCons (iNeg (iC (.int 1))) (iCons (iCallF [true] fn__law_odd (jSlot 1 jNil)) iNil))))) jNil) (R1 d x7 x8 x9) = .ok (.s 1 :: ([.lst [.int 0, .int 61, .int (-1), v]] : List IV).map Av.v) (R1 d1 x7 x8 x9) := by
      show Rz.bind (jCons _ _ _) _ = _
      rw [ev_j1 l1]
      rfl
    exact (ev_set (ev_cs j2 rfl rfl e2)).trans rfl
  have p2 : lw_2B_2 (R1 d2 (.fz x) x8 x9) = .nx (R1 d2 (.fz x) (.fz (.bl (goodN 1 60 x))) x9) := (ev_set (good_c (ρ := R1 d2 (.fz x) x8 x9) (lo := 1) (hi := 60) (A := iC (.int 1)) (B := iC (.int 60)) rfl n1 rfl rfl)).trans rfl
  have p3 : lw_2B_3 (R1 d2 (.fz x) (.fz (.bl (goodN 1 60 x))) x9) = .nx (R1 d2 (.fz x) (.fz (.bl (goodN 1 60 x))) (.ow (.lst [.str s1]))) :=
    (ev_seto (ev_lst (ev_ic (ev_lam (ρ := R1 d2 (.fz x) (.fz (.bl (goodN 1 60 x))) x9) (ds := [x, .int 0]) rfl (ev_jc (ev_v rfl) (ev_jc (ev_c _ _) rfl)) rfl u1 q1) rfl) (by simp))).trans rfl
  let G := R1 d2 (.fz x) (.fz (.bl (goodN 1 60 x)))
  have p4 : lw_2B_4 (G (.ow (.lst [.str s1]))) = .nx (G (.ow (.lst [.str s1, .str s2]))) := by
    have a := ev_lam (ρ := G (.ow (.lst [.str s1]))) (J := jCons (iVar 7) (jCons (iC .non) jNil)) (ds := [x, .non]) rfl (ev_jc (ev_v rfl) (ev_jc (ev_c _ _) rfl)) rfl u2 q2
    show sApp 9 _ _ = _
    unfold sApp
    rw [a]
    rfl
  let T := G (.ow (.lst [.str s1, .str s2]))
  have v8T : ∀ {b : Bool}, goodN 1 60 x = b → iVar 8 T = .ok (.bl b) T := fun h => by rw [← h]; exact ev_v rfl
  have p5 : lw_2B_5 T = .nx T := by
    cases hg : goodN 1 60 x with
    | true =>
      refine ev_no (a := sRet (iC (.bl false))) ?_
      show iAndT _ _ T = _
      unfold iAndT
      have : iNotT (iTest (iVar 8)) T = .ok false T := ev_not (ev_test (v8T hg) rfl)
      rw [this]
      rfl
    | false =>
      rw [hg] at g1
      simp only [Bool.false_or, Bool.and_eq_true] at g1
      have f1 := isS_eq g1.1
      have f2 := isS_eq g1.2
      rw [q1] at f1
      rw [q2] at f2
      cases f1
      cases f2
      have b1 : iNotT (iTest (iVar 8)) T = .ok true T := ev_not (ev_test (v8T hg) rfl)
      have b2 : iCmpV oNe (vS 9) (MR.vE (iBin oMul4 (iLst (iCons (iC (.str "number")) iNil)) (iC (.int 2)))) T = .ok false T := by
        have c3 : rs2 oNe (.s 9) (.v (.lst [.str "number", .str "number"])) T = some (.bl false) := by
          have : oNe (.lst [.str "number", .str "number"]) (.lst [.str "number", .str "number"]) = some (.bl false) := by kernel_rfl
          exact this
        exact ev_cmpV (a := .s 9) (b := .v (.lst [.str "number", .str "number"])) (ρ1 := T) rfl rfl c3
      exact ev_no ((ev_and b1).trans b2)
  obtain ⟨v2, d3, hv2, e3, hd3⟩ := x_odd hd2
  obtain ⟨z, d4, hz, e4, hd4⟩ := x_pick hd3 (xs := [.int (n + 1), .int (-1), .bl true, .non, v2]) (by simp) (by simp)
  have hz1 : z ∈ ([.int (n + 1), .int (-1), .bl true, .non] : List IV) ++ oddL := by
    simp only [List.mem_cons, List.not_mem_nil, or_false] at hz
    rcases hz with rfl | rfl | rfl | rfl | rfl
    · simp
    · simp
    · simp
    · simp
    · exact List.mem_append_right _ hv2
  have o2 := ok2_at h1 h2 hz1
  unfold ok2 at o2
  simp only [Bool.and_eq_true] at o2
  obtain ⟨n2, g2⟩ := o2
  let L := (Sl.ow (.lst [.str s1, .str s2]))
  have p6 : lw_2B_6 T = .nx (R1 d4 (.fz z) (.fz (.bl (goodN 1 60 x))) L) := by
    let T' (d : IV) := R1 d (.fz x) (.fz (.bl (goodN 1 60 x))) L
    have j1 : iCallF [true] fn__law_odd (jSlot 1 jNil) T = .ok v2 (T' d3) := (ev_cs (ds := []) rfl rfl rfl e3).trans rfl
    have l1 : iLst (iCons (iBin oAdd4 (iVar 4) (iC (.int 1))) (iCons (iNeg (iC (.int 1))) (iCons (iC (.bl true)) (iCons (iC .non) (iCons (iCallF [true] fn__law_odd (jSlot 1 jNil)) iNil))))) T = .ok (.lst [.int (n + 1), .int (-1), .bl true, .non, v2]) (T' d3) :=
      ev_lst (ev_ic (ev_bin (ev_v rfl) (ev_c _ _) (oAdd4_i _ _)) (ev_ic rfl (ev_ic (ev_c _ _) (ev_ic (ev_c _ _) (ev_ic j1 rfl))))) (by simp)
    have j2 : jSlot 1 (jCons (iLst (iCons (iBin oAdd4 (iVar 4) (iC (.int 1))) (iCons (iNeg (iC (.int 1))) (iCons (iC (.bl true)) (iCons (iC .non) (iCons (iCallF [true] fn__law_odd (jSlot 1 jNil)) iNil)))))) jNil) T = .ok (.s 1 :: ([.lst [.int (n + 1), .int (-1), .bl true, .non, v2]] : List IV).map Av.v) (T' d3) := by
      show Rz.bind (jCons _ _ _) _ = _
      rw [ev_j1 l1]
      rfl
    exact (ev_set (ev_cs j2 rfl rfl e4)).trans rfl
  have p7 : lw_2B_7 (R1 d4 (.fz z) (.fz (.bl (goodN 1 60 x))) L) = .nx (R1 d4 (.fz z) (.fz (.bl (goodN 0 n z))) L) := (ev_set (good_c (ρ := R1 d4 (.fz z) (.fz (.bl (goodN 1 60 x))) L) (lo := 0) (hi := n) (A := iC (.int 0)) (B := iVar 4) rfl n2 rfl rfl)).trans rfl
  let U := R1 d4 (.fz z) (.fz (.bl (goodN 0 n z))) L
  have v8U : ∀ {b : Bool}, goodN 0 n z = b → iVar 8 U = .ok (.bl b) U := fun h => by rw [← h]; exact ev_v rfl
  have p8 : lw_2B_8 U = .nx U := by
    cases hg : goodN 0 n z with
    | true =>
      refine ev_no (a := sRet (iC (.bl false))) ?_
      unfold iAndT
      have : iNotT (iTest (iVar 8)) U = .ok false U := ev_not (ev_test (v8U hg) rfl)
      rw [this]
      rfl
    | false =>
      rw [hg] at g2
      simp only [Bool.false_or, Bool.and_eq_true] at g2
      have f1 := isS_eq g2.2
      have b1 : iNotT (iTest (iVar 8)) U = .ok true U := ev_not (ev_test (v8U hg) rfl)
      have b2 : iLam 10 (fun c => decide (c ∈ ECS)) fw__law_word (iCallF [false, false] fn_place_of (jCons (iVar 4) (jCons (iVar 7) jNil))) U = .ok (.str "ones") U := ev_lam (ds := [.int n, z]) rfl (ev_jc (ev_v rfl) (ev_jc (ev_v rfl) rfl)) rfl g2.1 f1
      exact ev_no ((ev_and b1).trans (ev_cmp b2 (ev_c _ _) (by kernel_rfl)))
  refine ⟨d4, y5, y6, .fz z, .fz (.bl (goodN 0 n z)), L, hd4, ?_⟩
  exact (ev_seq t0).trans ((ev_seq p1).trans ((ev_seq p2).trans ((ev_seq p3).trans ((ev_seq p4).trans ((ev_seq p5).trans ((ev_seq p6).trans ((ev_seq p7).trans p8)))))))
/-- numbers that are drawn -/
def Nums (l : List IV) : Prop := ∀ x ∈ l, ∃ i : Int, x = .int i ∧ 1 ≤ i ∧ i ≤ 60
theorem x_draws (x0 x2 x4 x5 x6 x7 x8 x9 : Sl) : ∀ (ds : List IV) (d : IV), IsDrw d → ∃ xs d', IsDrw d' ∧ Nums xs ∧ xs.length = ds.length ∧
    lcLoop (tgN 3) iYes (iBin oAdd4 (iC (.int 1)) (iCallF [true, false] fn__law_take (jSlot 1 (jCons (iC (.int 60)) jNil)))) [3] ds (vE41 x0 d x2 .un x4 x5 x6 x7 x8 x9) = .ok xs (vE41 x0 d' x2 .un x4 x5 x6 x7 x8 x9)
  | [], d, hd => ⟨[], d, hd, (fun _ h => by cases h), rfl, rfl⟩
  | u :: ds, d, hd => by
    obtain ⟨r, d1, e1, hd1, r0, r1⟩ := take_ok hd (n := 60) (by decide) (by decide)
    obtain ⟨xs, d2, hd2, hx, hl, e2⟩ := x_draws x0 x2 x4 x5 x6 x7 x8 x9 ds d1 hd1
    refine ⟨.int (1 + r) :: xs, d2, hd2, fun x h => ?_, by simp [hl], ?_⟩
    · rcases List.mem_cons.mp h with rfl | h
      · exact ⟨_, rfl, by omega, by omega⟩
      · exact hx x h
    · have j : jSlot 1 (jCons (iC (.int 60)) jNil) (vE41 x0 d x2 (.fz u) x4 x5 x6 x7 x8 x9) = .ok (.s 1 :: ([.int 60] : List IV).map Av.v) (vE41 x0 d x2 (.fz u) x4 x5 x6 x7 x8 x9) := rfl
      have a : (iBin oAdd4 (iC (.int 1)) (iCallF [true, false] fn__law_take (jSlot 1 (jCons (iC (.int 60)) jNil)))) (vE41 x0 d x2 (.fz u) x4 x5 x6 x7 x8 x9) = .ok (.int (1 + r)) (vE41 x0 d1 x2 (.fz u) x4 x5 x6 x7 x8 x9) :=
        ev_bin (ev_c _ _) ((ev_cs j rfl rfl e1).trans rfl) (oAdd4_i _ _)
      show (match (iBin oAdd4 (iC (.int 1)) (iCallF [true, false] fn__law_take (jSlot 1 (jCons (iC (.int 60)) jNil)))) (vE41 x0 d x2 (.fz u) x4 x5 x6 x7 x8 x9) with
        | .ok y ρc => (lcLoop (tgN 3) iYes _ [3] ds (restE (vE41 x0 d x2 .un x4 x5 x6 x7 x8 x9) ρc [3])).bind fun ys ρ' => Rz.ok (y :: ys) ρ'
        | _ => .no) = _
      rw [a]
      show (lcLoop (tgN 3) iYes _ [3] ds (vE41 x0 d1 x2 .un x4 x5 x6 x7 x8 x9)).bind _ = _
      rw [e2]
      rfl
def W0 (l : List IV) : Env → Prop := fun ρ => ∃ x0 d x3 x4 x5 x6 x7 x8 x9, IsDrw d ∧ ρ = vE41 x0 d (.fz (.lst l)) x3 x4 x5 x6 x7 x8 x9
theorem law_holds : ∀ ns : List Int, ns.length ≤ 63 → fn_law [.scr ns] = .ok (.bl true) [] := by
  intro ns hns
  have hl : fLen [.scr ns] = some (.int ns.length) := rfl
  let D : IV := .drw (lgOf ns) (ns.map aInt) 0 0
  let ρ0 : Env := vE41 (.fz (.scr ns)) D .un .un .un .un .un .un .un .un
  have e0 : lw_0 [.fz (.scr ns), .un, .un, .un, .un, .un, .un, .un, .un, .un, .ow .tab] = .nx ρ0 := rfl
  obtain ⟨xs, d1, hd1, hx, hlen, e2⟩ := x_draws (.fz (.scr ns)) .un .un .un .un .un .un .un (ivR 0 (4 + min (ns.length : Int) 10).toNat) D trivial
  have hz : xs.length ≤ 14 := by
    rw [hlen]
    unfold ivR
    rw [List.length_map, List.length_range]
    omega
  let l : List IV := [.int 1, .int 2, .int 12, .int 60] ++ xs
  have e1 : lw_1 ρ0 = .nx (vE41 (.fz (.scr ns)) d1 (.fz (.lst l)) .un .un .un .un .un .un .un) := by
    refine (ev_set (ρ1 := vE41 (.fz (.scr ns)) d1 .un .un .un .un .un .un .un .un) (d := .lst l) (ev_bin (x := .lst [.int 1, .int 2, .int 12, .int 60]) (y := .lst xs) (ρ1 := ρ0) rfl ?_ ?_)).trans rfl
    · exact ev_lc (ev_on (ev_ic (ev_bin (ev_c _ _) (ev_cj (as := [.v (.int ns.length), .v (.int 10)]) (ev_jc (ev_cj1 rfl hl) (ev_jc rfl rfl)) rfl (mn2 _ _)) (oAdd4_i _ _)) rfl) (rng (by omega) (by omega))) e2
    · have hq : ([.int 1, .int 2, .int 12, .int 60] ++ xs : List IV).length ≤ 1000 := by simp; omega
      refine if_pos ?_
      show 4 + xs.length ≤ 1000000
      omega
  have hn : ∀ x ∈ l, ∃ i : Int, x = .int i ∧ 1 ≤ i ∧ i ≤ 60 := by
    intro x h
    rcases List.mem_append.mp h with h | h
    · simp only [List.mem_cons, List.not_mem_nil, or_false] at h
      rcases h with rfl | rfl | rfl | rfl
      · exact ⟨1, rfl, by decide, by decide⟩
      · exact ⟨2, rfl, by decide, by decide⟩
      · exact ⟨12, rfl, by decide, by decide⟩
      · exact ⟨60, rfl, by decide, by decide⟩
    · exact hx x h
  obtain ⟨ρ', e3, y0, d', y3, y4, y5, y6, y7, y8, y9, hd', rfl⟩ := sfor_W (W := W0 l) (i := 4) (M := lw_2I) (body := lw_2B) (ds := l) (ρ := vE41 (.fz (.scr ns)) d1 (.fz (.lst l)) .un .un .un .un .un .un .un)
    (ev_seqE (ev_v rfl) (.inl rfl)) ⟨_, _, _, _, _, _, _, _, _, hd1, rfl⟩ fun u hu ρ hρ => by
      obtain ⟨x0, d, x3, x4, x5, x6, x7, x8, x9, hd, rfl⟩ := hρ
      obtain ⟨n, rfl, h1, h2⟩ := hn u hu
      obtain ⟨d', y5, y6, y7, y8, y9, hd', e⟩ := x_size (x0 := x0) (x2 := .fz (.lst l)) (x3 := x3) (x5 := x5) (x6 := x6) (x7 := x7) (x8 := x8) (x9 := x9) hd h1 h2
      exact ⟨_, .inl e, _, _, _, _, _, _, _, _, _, hd', rfl⟩
  have hb : b_law [.fz (.scr ns), .un, .un, .un, .un, .un, .un, .un, .un, .un, .ow .tab] = .rt (.bl true) (vE41 y0 d' (.fz (.lst l)) y3 y4 y5 y6 y7 y8 y9) := by
    rw [lw_eq]
    exact (ev_seq e0).trans ((ev_seq e1).trans ((ev_seq e3).trans rfl))
  show (match b_law [.fz (.scr ns), .un, .un, .un, .un, .un, .un, .un, .un, .un, .ow .tab] with | .rt r _ => Rf.ok r [] | .nx _ => .ok .non [] | _ => .no) = _
  rw [hb]
end K41
end MR
open PySem PySem.W PySem.Calls PyProof.Rows
theorem MR.K41.holds_of (hlaw : ∀ ns : List Int, ns.length ≤ 63 → MR.K41.fn_law [.scr ns] = .ok (.bl true) []) : PySem.Challenge.rw_heardfew_k41_places_of_numbers.Holds := by
  w_on; o_law
  refine HandSHeadRun.head_any (r := OpenLaw.row PySem.Challenge.rw_heardfew_k41_places_of_numbers) (q := view (OpenLaw.row PySem.Challenge.rw_heardfew_k41_places_of_numbers).prog [23]) (H := MR.K41.hk) (ob := MR.K41.ob) (M := 20000) (loose := MR.K41.looseL) (d := HandSHeadRun.topDef (OpenLaw.row PySem.Challenge.rw_heardfew_k41_places_of_numbers).prog 23) (kwd := []) MR.K41.ob_eq
    (by kernel_rfl) (fun s => by kernel_rfl) MR.K41.run (by kernel_rfl) (by kernel_rfl) (by kernel_rfl) (by rfl) (by first | assumption | decide +kernel) (by decide +kernel) ⟨rfl, rfl, rfl, rfl, rfl, by decide +kernel⟩ ?hw ?hc
  case hw => w_witness2
  case hc =>
    refine MR.walk_ofL (l := PySem.Challenge.rw_heardfew_k41_places_of_numbers) (n := 63) (k := 7) (x := "_law_script") rfl (by decide) (by kernel_rfl) ⟨rfl, by decide, by decide⟩ (by kernel_rfl) ?F
    intro w mg fa h Y G hmg0
    obtain ⟨K, KX, c⟩ := Y
    have hmg : mg ("law" : PySem.Str) = some (.ref fa) := by
      have e : (HandSHeadRun.topDef (OpenLaw.row PySem.Challenge.rw_heardfew_k41_places_of_numbers).prog 23).name = ("law" : PySem.Str) := by kernel_rfl
      rw [← e]
      exact hmg0
    have Y : MR.Sy MR.K41.faL MR.K41.fnL MR.K41.exL K mg := ⟨c, h, KX, G⟩
    have e := hmg.symm.trans (Y.glo 12 (x := "law") rfl)
    cases e
    obtain ⟨fd, FM, hnt, hb, hF⟩ := MR.K41.k_law (P := (PySem.Challenge.rw_heardfew_k41_places_of_numbers).prog) (w := w) Y
    exact ⟨K, fd, MR.spT (MR.gx K) MR.K41.fn_law, KX, rfl, MR.law_code FM, hnt, hb, fun H a ns hl hO hP hS => MR.law_spT (G := MR.gx K) hO hP hS hl (hlaw ns hl), fun base _ _ TB => hF base TB⟩
theorem PySem.Challenge.cw_heardfew_k41_places_of_numbers_holds : PySem.Challenge.rw_heardfew_k41_places_of_numbers.Holds :=
  MR.K41.holds_of MR.K41.law_holds
